import PyProof.Rows.All
import Wide.All
import OpenK.AllK
import Wide.FinOn
import HandS.ForMost
import HandS.IsInst
import HandS.Style
import HandS.Flow
import HandS.Defaults
import HandS.Walk
import PyProof.FitsReplace
import PyProof.DictUpdate
import HandS.Star
import KE.KOpsOwn
import HandS.ClsMeth
import KE.KCallOwn
import HandS.SortRule
import KE.KSortTupAny
import KE.KDictPairs
import HandS.ReplaceLit
import HandS.FStr
import HandS.DictComp
import HandS.DictTup
import HandS.Text
import HandS.NoneIn
import KE.IntBitsLaws
import HandS.Steps
import PyProof.ReprLen
import HandS.ExcInit
import HandS.ExcField
import HandS.ExcIs
import HandS.ExcOwn
import HandS.WordsExc
import KE.KExcIs
import KE.IntTextText
import KE.DataEq
import HandS.More
import KE.KExcMake
import HandS.DictEq
import HandS.Wide
import HandS.Lambda
import HandS.EndBits
import PyProof.ReprNest
import HandS.HotCalls
import HandS.Words
import HandS.Head0
import HandS.Head1
import HandS.Head2
import HandS.HeadEnd
import HandS.HeadHook1
import HandS.HeadHook2
import KE.KExcInit
import PySem.Challenge.RW_blockmoves_k05_forms_refused
set_option Elab.async false
set_option linter.all false
set_option maxRecDepth 100000
set_option maxHeartbeats 4000000
/-! The head's facts as one Bool, and functions by their rows, wherever they stand. -/
namespace G
open PySem PySem.Spec PyProof.Rows L2
/-- a def of the text: where its function stands, its names, its row -/
structure DefQ where
  at_ : PySem.W.Frag → Addr
  name : Str
  qual : Str
  st : Stmt
def fnAt (K : PySem.W.Frag) (a : Addr) : He.FnW := match K.lookup a with
  | some ⟨_, _, .func fd, _⟩ => some (fd.name, fd.qualname, fd.params, fd.body, fd.scope, fd.globals, fd.closure, fd.builtins)
  | _ => none
def DefQ.val (d : DefQ) : He.FnW := some (d.name, d.qual, defArgs d.st, .stmts (defBody d.st), defScope d.st, mainGlobals, [], builtinsNs)
def noneB : Value → Bool
  | .none => true
  | _ => false
def DefQ.ok (K : PySem.W.Frag) (d : DefQ) : Bool := match K.lookup (d.at_ K) with
  | some ⟨_, _, .func fd, _⟩ => PySem.W.codeIn K fd.code d.qual && (noneB fd.defaults && PySem.W.keepIn K (.ref (d.at_ K)))
  | _ => false
theorem DefQ.fn {K : PySem.W.Frag} {d : DefQ} (e : fnAt K (d.at_ K) = d.val) (c : d.ok K = true) : ∃ fd, Fun K d.name d.qual d.st (d.at_ K) fd := by
  unfold DefQ.ok at c
  unfold fnAt at e
  cases q : K.lookup (d.at_ K) with
  | none =>
    rw [q] at c
    cases c
  | some o =>
    obtain ⟨oc, od, dt, sl⟩ := o
    rw [q] at c e
    cases dt with
    | func fd =>
      obtain ⟨a1, a2, a3, a4, a5, a6, a7, a8, a9, a10, a11, a12, a13, a14, a15⟩ := fd
      simp only [DefQ.val, Option.some.injEq, Prod.mk.injEq] at e
      obtain ⟨rfl, rfl, rfl, rfl, rfl, rfl, rfl, rfl⟩ := e
      obtain ⟨c1, c2⟩ := He.ba c
      obtain ⟨c2, c3⟩ := He.ba c2
      cases a8 with
      | none => exact ⟨_, ⟨oc, od, a9, a10, a11, a12, a13, a14, sl, rfl, q, c1⟩, c3⟩
      | _ => cases c2
    | _ => cases c
/-! the part of the heap that is looked at, in a normal form -/
def frcO {α : Type} (o : Obj) (k : Obj → α) : α := match o with
  | ⟨c, d, dt, sl⟩ => k ⟨c, d, dt, sl⟩
theorem frcO_eq {α : Type} (o : Obj) (k : Obj → α) : frcO o k = k o := rfl
def frcK {α : Type} : PySem.W.Frag → (PySem.W.Frag → α) → α
  | [], k => k []
  | (a, o) :: r, k => HandSHeadRun.frNat a fun a => frcO o fun o => frcK r fun r => k ((a, o) :: r)
theorem frcK_eq {α : Type} : ∀ (l : PySem.W.Frag) (k : PySem.W.Frag → α), frcK l k = k l
  | [], _ => rfl
  | (a, o) :: r, k => by
    unfold frcK
    rw [HandSHeadRun.frNat_eq, frcO_eq, frcK_eq r]
/-! the addresses that are reached in n steps, those seen told by the bits of one number -/
section
variable {α : Type} (g : Addr → Option Obj)
def addR : List Nat → Nat → List Nat → (Nat → List Nat → α) → α
  | [], seen, acc, k => k seen acc
  | a :: r, seen, acc, k => match Nat.beq (Nat.mod (Nat.shiftRight seen a) 2) 1 with
    | true => addR r seen acc k
    | false => HandSHeadRun.frNat a fun a => HandSHeadRun.frNat (Nat.lor seen (Nat.shiftLeft 1 a)) fun seen => addR r seen (a :: acc) k
def lvl : List Nat → Nat → List Nat → (Nat → List Nat → α) → α
  | [], seen, acc, k => k seen acc
  | a :: r, seen, acc, k => match g a with
    | some o => addR (He.refsO o) seen acc fun seen acc => lvl r seen acc k
    | none => lvl r seen acc k
def revF : List Nat → List Nat → (List Nat → α) → α
  | [], acc, k => k acc
  | a :: r, acc, k => revF r (a :: acc) k
def rch : Nat → List Nat → Nat → List Nat → (List Nat → α) → α
  | 0, _, _, all, k => revF all [] k
  | n + 1, fr, seen, all, k => lvl g fr seen [] fun seen new => rch n new seen (new ++ all) k
end
section
variable {α : Type} (g : Addr → Option Obj)
theorem addR_eq : ∀ (l : List Nat) (seen : Nat) (acc : List Nat) (k : Nat → List Nat → α), addR l seen acc k = k (addR l seen acc Prod.mk).1 (addR l seen acc Prod.mk).2
  | [], seen, acc, k => rfl
  | a :: r, seen, acc, k => by
    unfold addR
    cases Nat.beq (Nat.mod (Nat.shiftRight seen a) 2) 1 with
    | true => exact addR_eq r seen acc k
    | false =>
      simp only [HandSHeadRun.frNat_eq]
      exact addR_eq r _ _ k
theorem lvl_eq : ∀ (l : List Nat) (seen : Nat) (acc : List Nat) (k : Nat → List Nat → α), lvl g l seen acc k = k (lvl g l seen acc Prod.mk).1 (lvl g l seen acc Prod.mk).2
  | [], seen, acc, k => rfl
  | a :: r, seen, acc, k => by
    unfold lvl
    cases g a with
    | none => exact lvl_eq r seen acc k
    | some o =>
      show addR (He.refsO o) seen acc (fun seen acc => lvl g r seen acc k) = k (addR (He.refsO o) seen acc fun seen acc => lvl g r seen acc Prod.mk).1 (addR (He.refsO o) seen acc fun seen acc => lvl g r seen acc Prod.mk).2
      rw [addR_eq (He.refsO o) seen acc (fun seen acc => lvl g r seen acc k), addR_eq (He.refsO o) seen acc (fun seen acc => lvl g r seen acc Prod.mk)]
      exact lvl_eq r _ _ k
theorem revF_eq : ∀ (l acc : List Nat) (k : List Nat → α), revF l acc k = k (revF l acc id)
  | [], acc, k => rfl
  | a :: r, acc, k => revF_eq r (a :: acc) k
theorem rch_eq : ∀ (n : Nat) (fr : List Nat) (seen : Nat) (all : List Nat) (k : List Nat → α), rch g n fr seen all k = k (rch g n fr seen all id)
  | 0, _, _, all, k => revF_eq all [] k
  | n + 1, fr, seen, all, k => by
    unfold rch
    rw [lvl_eq g fr seen [] (fun seen new => rch g n new seen (new ++ all) k), lvl_eq g fr seen [] (fun seen new => rch g n new seen (new ++ all) id)]
    exact rch_eq n _ _ _ k
/-- what is looked at: all that the module's names reach in n steps -/
def fragQ (n : Nat) (k : PySem.W.Frag → α) : α := rch g n [mainGlobals] (Nat.shiftLeft 1 mainGlobals) [mainGlobals] fun as => frcK (He.frG g as) k
end
def fragA (g : Addr → Option Obj) (n : Nat) : PySem.W.Frag := He.frG g (rch g n [mainGlobals] (Nat.shiftLeft 1 mainGlobals) [mainGlobals] id)
theorem fragQ_eq {α : Type} (g : Addr → Option Obj) (n : Nat) (k : PySem.W.Frag → α) : fragQ g n k = k (fragA g n) := by
  unfold fragQ fragA
  rw [rch_eq, frcK_eq]
/-! ### the Hook -/
abbrev AlQ : Type := Bool × List He.FnW
def obsK (ex : PySem.W.Frag → Bool) (fn : List DefQ) (K : PySem.W.Frag) : AlQ := (ex K && fn.all fun d => d.ok K, fn.map fun d => fnAt K (d.at_ K))
def obsQ (n : Nat) (ex : PySem.W.Frag → Bool) (fn : List DefQ) (g : Addr → Option Obj) : AlQ := fragQ g n (obsK ex fn)
def valQ (fn : List DefQ) : AlQ := (true, fn.map DefQ.val)
structure SaysQ (ex : PySem.W.Frag → Bool) (fn : List DefQ) (K : PySem.W.Frag) : Prop where
  ex : ex K = true
  fn : ∀ d ∈ fn, ∃ fd, Fun K d.name d.qual d.st (d.at_ K) fd
theorem map_eq_mem {α β : Type} {f g : α → β} : ∀ {l : List α}, l.map f = l.map g → ∀ x ∈ l, f x = g x
  | [], _, x, hx => nomatch hx
  | y :: r, e, x, hx => by
    rw [List.map_cons, List.map_cons] at e
    injection e with e1 e2
    rcases List.mem_cons.mp hx with rfl | h
    · exact e1
    · exact map_eq_mem e2 x h
theorem saysQ_of {ex : PySem.W.Frag → Bool} {fn : List DefQ} {K : PySem.W.Frag} (e : obsK ex fn K = valQ fn) : SaysQ ex fn K := by
  have e1 : (ex K && fn.all fun d => d.ok K) = true := congrArg Prod.fst e
  have e2 : (fn.map fun d => fnAt K (d.at_ K)) = fn.map DefQ.val := congrArg Prod.snd e
  obtain ⟨h1, h2⟩ := He.ba e1
  exact ⟨h1, fun d hd => DefQ.fn (map_eq_mem e2 d hd) (List.all_eq_true.mp h2 d hd)⟩
def hookQ (n : Nat) (ex : PySem.W.Frag → Bool) (fn : List DefQ) : PySem.W.Hook where
  α := AlQ
  obs := fun s => obsQ n ex fn s.heap.get?
  val := fun _ => valQ fn
  says := fun _ h => ∃ K : PySem.W.Frag, K.In h ∧ SaysQ ex fn K
  of := fun _ _ e => ⟨_, He.frG_in, saysQ_of (by unfold obsQ at e; rw [fragQ_eq] at e; exact e)⟩
  keeps := fun _ _ _ ⟨K, hK, c⟩ k => ⟨K, PySem.W.Frag.In.keeps hK k, c⟩
theorem obsQ_eq {n : Nat} {ex : PySem.W.Frag → Bool} {fn : List DefQ} {g : Addr → Option Obj} {s : Shared} (h : ∀ a, g a = s.heap.get? a) : obsQ n ex fn g = (hookQ n ex fn).obs s := by
  rw [show g = s.heap.get? from funext h]
  rfl
end G


namespace G
open PySem PySem.Spec PySem.Calls PyProof.Rows L2 He
/-! ### the head's looks at classes of errors -/
def objB (K : PySem.W.Frag) : Bool := eqO (PySem.W.specialIn K (.builtin "object.__class__") "__get__") (some (some (.builtin "getset_descriptor.__get__"))) && decide (PySem.W.takesIn K (.builtin "object.__class__") = some true)
def clsB1 (c : Str) (tl : List Value) (nw : String) (K : PySem.W.Frag) : Bool := eqO (PySem.W.nsIn K mainGlobals c) (some (some (.ref (ga K c)))) && (PySem.W.excInitIn K (ga K c) tl nw && (PySem.W.excOver K (ga K c) tl && PySem.W.hasDictIn K (ga K c)))
def clsB2 (c : Str) (K : PySem.W.Frag) : Bool := eqO (PySem.W.findIn K (.ref (ga K c)) "__setattr__") (some (some (.builtin "object.__setattr__"))) && (PySem.W.keepIn K (.ref (ga K c)) && (PySem.W.isClsIn K (ga K c) && eqO (PySem.W.findIn K (.ref (ga K c)) "__getattribute__") (some (some (.builtin "BaseException.__getattribute__")))))
def clsB3 (c : Str) (K : PySem.W.Frag) : Bool := eqO (PySem.W.findIn K (.ref (ga K c)) "__getattr__") (some none) && (decide (PySem.W.subIn K (.ref (ga K c)) (.type "BaseException") = some true) && (eqO (PySem.W.findIn K (.ref (ga K c)) "__class__") (some (some (.builtin "object.__class__"))) && decide (PySem.W.mroIn K (ga K c) (.type "object") = some true)))
def clsB (c : Str) (tl : List Value) (nw : String) (K : PySem.W.Frag) : Bool := clsB1 c tl nw K && (clsB2 c K && clsB3 c K)
def hkitB (K : PySem.W.Frag) (c : Str) (v : Value) (b : Bool) : Bool := decide (PySem.W.kitOne K (.ref (ga K c)) v = some b)
def famB (c : Str) (i : Nat) (K : PySem.W.Frag) : Bool :=
  (hkitB K c (.ref (ga K "InputError")) (i == 0) && (hkitB K c (.ref (ga K "StateError")) (i == 1) && (hkitB K c (.ref (ga K "RunError")) (i == 2) && hkitB K c (.ref (ga K "LimitError")) (i == 3)))) &&
  (hkitB K c (.type "ValueError") (i == 0) && (hkitB K c (.type "LookupError") (i == 1) && (hkitB K c (.type "RuntimeError") (i == 2) && hkitB K c (.type "ArithmeticError") (i == 3))))
def noB (c f : Str) (K : PySem.W.Frag) : Bool := eqO (PySem.W.findIn K (.ref (ga K c)) f) (some none)
def iniB (c : Str) (K : PySem.W.Frag) : Bool := eqO (PySem.W.findIn K (.ref (ga K c)) "__init__") (some (some (.ref (ma K (ga K c) "__init__")))) && decide (PySem.W.typeIn K (.ref (ma K (ga K c) "__init__")) = some (.type "function"))
def ini0B (c : Str) (ini : String) (K : PySem.W.Frag) : Bool := eqO (PySem.W.findIn K (.ref (ga K c)) "__init__") (some (some (.builtin ini)))
/-! ### the head's run in parts, each a run of its own -/
section
open HandSHeadRun PySem.W
variable {E : OsState → Option SharedT} {n : Nat}
/-- what is reached in n steps behind the run -/
abbrev frg (n : Nat) (s : SharedT) : PySem.W.Frag := fragA (getT s) n
def DP (E : OsState → Option SharedT) (n : Nat) (l : List DefQ) : Prop := ∀ os : OsState, (E os).map (fun s => fragQ (getT s) n fun K => ((l.all fun d => d.ok K, l.map fun d => fnAt K (d.at_ K)) : AlQ)) = some (true, l.map DefQ.val)
theorem map_at {α β : Type} {o : Option α} {f : α → β} {b : β} {s : α} (h : o.map f = some b) (e : o = some s) : f s = b := by
  rw [e] at h
  exact Option.some.inj h
theorem DP.at_ {l : List DefQ} (h : DP E n l) {os : OsState} {s : SharedT} (e : E os = some s) : (l.all fun d => d.ok (frg n s)) = true ∧ (l.map fun d => fnAt (frg n s) (d.at_ (frg n s))) = l.map DefQ.val := by
  have := map_at (h os) e
  rw [fragQ_eq] at this
  exact ⟨congrArg Prod.fst this, congrArg Prod.snd this⟩
theorem DP.app {a b : List DefQ} (h1 : DP E n a) (h2 : DP E n b) : DP E n (a ++ b) := fun os => by
  obtain ⟨s, e, _⟩ := Option.map_eq_some_iff.mp (h1 os)
  rw [e]
  show some (fragQ (getT s) n fun K => (((a ++ b).all fun d => d.ok K, (a ++ b).map fun d => fnAt K (d.at_ K)) : AlQ)) = _
  rw [fragQ_eq, List.all_append, List.map_append, List.map_append, (h1.at_ e).1, (h2.at_ e).1, (h1.at_ e).2, (h2.at_ e).2]
  rfl
theorem run_of {r : OpenRow} {q : Program} {n M : Nat} {loose : List PySem.Str} {w : World} {fx : List (PySem.W.Frag → Bool)} {fn : List DefQ}
    (h1 : ∀ os : OsState, (endF (stepQ (denQ tabQ) r.prog w) M r.prog w os).map (fun s => (looksF r.prog (boot_heap w.params) s.abs, seenQ q loose (importedModules r.prog.main.body) (fun s => xlAt q [] s && recOk r.toRowW.records s) s.abs, fragQ (getT s) n fun K => fx.all fun b => b K)) = some (true, openGood q loose, true))
    (h4 : DP (endF (stepQ (denQ tabQ) r.prog w) M r.prog w) n fn) :
    RunEq r q (hookQ n (fun K => fx.all fun b => b K) fn) (fun s => obsQ n (fun K => fx.all fun b => b K) fn (getT s)) M loose w := fun os => by
  obtain ⟨s, e, a0⟩ := Option.map_eq_some_iff.mp (h1 os)
  obtain ⟨a1, a2, a3⟩ : _ ∧ _ ∧ _ := by simpa only [Prod.mk.injEq] using a0
  rw [fragQ_eq] at a3
  have a4 := h4.at_ e
  rw [e]
  show some (_, _, obsQ n (fun K => fx.all fun b => b K) fn (getT s)) = some (_, _, valQ fn)
  have a5 : obsQ n (fun K => fx.all fun b => b K) fn (getT s) = valQ fn := by
    unfold obsQ
    rw [fragQ_eq]
    show ((fx.all fun b => b (frg n s)) && (fn.all fun d => d.ok (frg n s)), fn.map fun d => fnAt (frg n s) (d.at_ (frg n s))) = _
    rw [a3, a4.1, a4.2]
    rfl
  rw [a1, a2, a5]
end
end G


namespace G
open PySem PySem.Spec PySem.Calls PyProof.Rows L2 He
/-! ### a head by facts with tables of code objects, which stand outside what is looked at -/
def isFld : Data → Bool
  | .fields _ => true
  | _ => false
def dropT (g : Addr → Option Obj) (a : Addr) : Option Obj := match g a with
  | some ⟨.none, d, dt, sl⟩ => (match isFld dt with
    | true => none
    | false => some ⟨.none, d, dt, sl⟩)
  | o => o
theorem dropT_some {g : Addr → Option Obj} {a : Addr} {o : Obj} (h : dropT g a = some o) : g a = some o ∧ (o.cls = .none → isFld o.data = false) := by
  unfold dropT at h
  split at h
  · rename_i d dt sl e
    cases q : isFld dt with
    | true =>
      rw [q] at h
      cases h
    | false =>
      rw [q] at h
      cases h
      exact ⟨e, fun _ => q⟩
  · rename_i nx
    refine ⟨h, fun z => ?_⟩
    obtain ⟨c, d, dt, sl⟩ := o
    have z : c = Value.none := z
    subst z
    exact (nx d dt sl h).elim
def fragT {α : Type} (g : Addr → Option Obj) (n : Nat) (k : PySem.W.Frag → α) : α := rch g n [mainGlobals] (Nat.lor (Nat.shiftLeft 1 mainGlobals) (Nat.shiftLeft 1 cStatics)) [cStatics, mainGlobals] fun as => frcK (He.frG (dropT g) as) k
def fragTA (g : Addr → Option Obj) (n : Nat) : PySem.W.Frag := He.frG (dropT g) (rch g n [mainGlobals] (Nat.lor (Nat.shiftLeft 1 mainGlobals) (Nat.shiftLeft 1 cStatics)) [cStatics, mainGlobals] id)
theorem fragT_eq {α : Type} (g : Addr → Option Obj) (n : Nat) (k : PySem.W.Frag → α) : fragT g n k = k (fragTA g n) := by
  unfold fragT fragTA
  rw [rch_eq, frcK_eq]
theorem fragTA_at {g : Addr → Option Obj} {n : Nat} {a : Addr} {o : Obj} (h : (fragTA g n).lookup a = some o) : g a = some o ∧ (o.cls = .none → isFld o.data = false) := dropT_some (He.frG_at _ h)
/-- an empty table -/
def tabE : Option Obj → Bool
  | some ⟨.none, none, .fields vs, sl⟩ => vs.isEmpty && sl.isEmpty
  | _ => false
theorem tabE_ok {o : Option Obj} (h : tabE o = true) : o = some { cls := .none, data := .fields #[] } := by
  unfold tabE at h
  split at h
  · rename_i vs sl
    obtain ⟨h1, h2⟩ := He.ba h
    have e1 : vs = #[] := Array.isEmpty_iff.mp h1
    have e2 : sl = #[] := Array.isEmpty_iff.mp h2
    rw [e1, e2]
  · cases h
abbrev TabQ : Type := PySem.W.Frag → Addr
def obsTK (g : Addr → Option Obj) (ex : PySem.W.Frag → Bool) (fn : List DefQ) (tbs : List TabQ) (K : PySem.W.Frag) : AlQ := (ex K && (fn.all (fun d => d.ok K) && tbs.all fun t => tabE (g (t K))), fn.map fun d => fnAt K (d.at_ K))
def obsT (n : Nat) (ex : PySem.W.Frag → Bool) (fn : List DefQ) (tbs : List TabQ) (g : Addr → Option Obj) : AlQ := fragT g n (obsTK g ex fn tbs)
structure SaysT (ex : PySem.W.Frag → Bool) (fn : List DefQ) (tbs : List TabQ) (h : Heap) (K : PySem.W.Frag) : Prop where
  kin : K.In h
  says : SaysQ ex fn K
  tab : ∀ t ∈ tbs, h.get? (t K) = some { cls := .none, data := .fields #[] } ∧ K.lookup (t K) = none
theorem saysT_of {n : Nat} {ex : PySem.W.Frag → Bool} {fn : List DefQ} {tbs : List TabQ} {h : Heap} (e : obsT n ex fn tbs h.get? = valQ fn) : SaysT ex fn tbs h (fragTA h.get? n) := by
  unfold obsT at e
  rw [fragT_eq] at e
  have e1 : (ex (fragTA h.get? n) && (fn.all (fun d => d.ok (fragTA h.get? n)) && tbs.all fun t => tabE (h.get? (t (fragTA h.get? n))))) = true := congrArg Prod.fst e
  have e2 : (fn.map fun d => fnAt (fragTA h.get? n) (d.at_ (fragTA h.get? n))) = fn.map DefQ.val := congrArg Prod.snd e
  obtain ⟨h1, h2⟩ := He.ba e1
  obtain ⟨h2, h3⟩ := He.ba h2
  refine ⟨fun a o z => (fragTA_at z).1, ⟨h1, fun d hd => DefQ.fn (map_eq_mem e2 d hd) (List.all_eq_true.mp h2 d hd)⟩, fun t ht => ?_⟩
  have z := tabE_ok (List.all_eq_true.mp h3 t ht)
  refine ⟨z, ?_⟩
  cases q : (fragTA h.get? n).lookup (t (fragTA h.get? n)) with
  | none => rfl
  | some o =>
    obtain ⟨a1, a2⟩ := fragTA_at q
    rw [z] at a1
    cases a1
    exact nomatch (a2 rfl)
def hookT (n : Nat) (ex : PySem.W.Frag → Bool) (fn : List DefQ) (tbs : List TabQ) : PySem.W.Hook where
  α := AlQ
  obs := fun s => obsT n ex fn tbs s.heap.get?
  val := fun _ => valQ fn
  says := fun _ h => ∃ K : PySem.W.Frag, SaysT ex fn tbs h K
  of := fun _ _ e => ⟨_, saysT_of e⟩
  keeps := fun _ _ _ ⟨K, a, b, c⟩ k => ⟨K, PySem.W.Frag.In.keeps a k, b, fun t ht => ⟨k _ _ (c t ht).1, (c t ht).2⟩⟩
theorem obsT_eq {n : Nat} {ex : PySem.W.Frag → Bool} {fn : List DefQ} {tbs : List TabQ} {g : Addr → Option Obj} {s : Shared} (h : ∀ a, g a = s.heap.get? a) : obsT n ex fn tbs g = (hookT n ex fn tbs).obs s := by
  rw [show g = s.heap.get? from funext h]
  rfl
section
open HandSHeadRun PySem.W
variable {E : OsState → Option SharedT} {n : Nat}
def DT (E : OsState → Option SharedT) (n : Nat) (l : List DefQ) : Prop := ∀ os : OsState, (E os).map (fun s => fragT (getT s) n fun K => ((l.all fun d => d.ok K, l.map fun d => fnAt K (d.at_ K)) : AlQ)) = some (true, l.map DefQ.val)
theorem DT.at_ {l : List DefQ} (h : DT E n l) {os : OsState} {s : SharedT} (e : E os = some s) : (l.all fun d => d.ok (fragTA (getT s) n)) = true ∧ (l.map fun d => fnAt (fragTA (getT s) n) (d.at_ (fragTA (getT s) n))) = l.map DefQ.val := by
  have := map_at (h os) e
  rw [fragT_eq] at this
  exact ⟨congrArg Prod.fst this, congrArg Prod.snd this⟩
theorem DT.app {a b : List DefQ} (h1 : DT E n a) (h2 : DT E n b) : DT E n (a ++ b) := fun os => by
  obtain ⟨s, e, _⟩ := Option.map_eq_some_iff.mp (h1 os)
  rw [e]
  show some (fragT (getT s) n fun K => (((a ++ b).all fun d => d.ok K, (a ++ b).map fun d => fnAt K (d.at_ K)) : AlQ)) = _
  rw [fragT_eq, List.all_append, List.map_append, List.map_append, (h1.at_ e).1, (h2.at_ e).1, (h1.at_ e).2, (h2.at_ e).2]
  rfl
theorem run_ofT {r : OpenRow} {q : Program} {n M : Nat} {loose : List PySem.Str} {w : World} {fx : List (PySem.W.Frag → Bool)} {fn : List DefQ} {tbs : List TabQ}
    (h1 : ∀ os : OsState, (endF (stepQ (denQ tabQ) r.prog w) M r.prog w os).map (fun s => (looksF r.prog (boot_heap w.params) s.abs, seenQ q loose (importedModules r.prog.main.body) (fun s => xlAt q [] s && recOk r.toRowW.records s) s.abs, fragT (getT s) n fun K => (fx.all fun b => b K) && tbs.all fun t => tabE (getT s (t K)))) = some (true, openGood q loose, true))
    (h4 : DT (endF (stepQ (denQ tabQ) r.prog w) M r.prog w) n fn) :
    RunEq r q (hookT n (fun K => fx.all fun b => b K) fn tbs) (fun s => obsT n (fun K => fx.all fun b => b K) fn tbs (getT s)) M loose w := fun os => by
  obtain ⟨s, e, a0⟩ := Option.map_eq_some_iff.mp (h1 os)
  obtain ⟨a1, a2, a3⟩ : _ ∧ _ ∧ _ := by simpa only [Prod.mk.injEq] using a0
  rw [fragT_eq] at a3
  obtain ⟨a3, a6⟩ := He.ba a3
  have a4 := h4.at_ e
  rw [e]
  show some (_, _, obsT n (fun K => fx.all fun b => b K) fn tbs (getT s)) = some (_, _, valQ fn)
  have a5 : obsT n (fun K => fx.all fun b => b K) fn tbs (getT s) = valQ fn := by
    unfold obsT
    rw [fragT_eq]
    show ((fx.all fun b => b (fragTA (getT s) n)) && ((fn.all fun d => d.ok (fragTA (getT s) n)) && tbs.all fun t => tabE (getT s (t (fragTA (getT s) n)))), fn.map fun d => fnAt (fragTA (getT s) n) (d.at_ (fragTA (getT s) n))) = _
    rw [a3, a4.1, a4.2, a6]
    rfl
  rw [a1, a2, a5]
end
/-! ### addresses -/
/-- the code object of a function, its table -/
def codeAd (K : PySem.W.Frag) (f : Addr) : Addr := match K.lookup f with
  | some ⟨_, _, .func fd, _⟩ => (match fd.code with
    | .ref c => c
    | _ => 0)
  | _ => 0
def tabAd (K : PySem.W.Frag) (c : Addr) : Addr := match K.lookup c with
  | some ⟨_, _, .fields vs, _⟩ => (match (vs[11]? : Option Value) with
    | some (.ref P) => P
    | _ => 0)
  | _ => 0
/-- the function behind a staticmethod -/
def smAd (K : PySem.W.Frag) (C : Addr) (m : Str) : Addr := match PySem.W.findCls K (.ref C) (.type "type") m with
  | some (.get _ (.ref p) _ _) => p
  | _ => 0
def sfAd (K : PySem.W.Frag) (C : Addr) (m : Str) : Addr := match PySem.W.recIn K (smAd K C m) "staticmethod" with
  | some (.ref f :: _) => f
  | _ => 0
def smB (C m : Str) (K : PySem.W.Frag) : Bool := (match PySem.W.findCls K (.ref (ga K C)) (.type "type") m with
  | some (.get g p a b) => decide (g = .builtin "staticmethod.__get__") && (decide (p = .ref (smAd K (ga K C) m)) && (decide (a = .none) && decide (b = .ref (ga K C))))
  | _ => false) && (match PySem.W.recIn K (smAd K (ga K C) m) "staticmethod" with
  | some (f :: _) => decide (f = .ref (sfAd K (ga K C) m))
  | _ => false)
theorem smB_ok {C m : Str} {K : PySem.W.Frag} (h : smB C m K = true) : PySem.W.findCls K (.ref (ga K C)) (.type "type") m = some (.get (.builtin "staticmethod.__get__") (.ref (smAd K (ga K C) m)) .none (.ref (ga K C))) ∧ ∃ rs, PySem.W.recIn K (smAd K (ga K C) m) "staticmethod" = some (.ref (sfAd K (ga K C) m) :: rs) := by
  obtain ⟨h1, h2⟩ := ba h
  constructor
  · generalize smAd K (ga K C) m = q at *
    split at h1
    · rename_i e
      obtain ⟨a1, h1⟩ := ba h1
      obtain ⟨a2, h1⟩ := ba h1
      obtain ⟨a3, a4⟩ := ba h1
      rw [e, of_decide_eq_true a1, of_decide_eq_true a2, of_decide_eq_true a3, of_decide_eq_true a4]
    · cases h1
  · generalize sfAd K (ga K C) m = q at *
    split at h2
    · rename_i f r e
      rw [e, of_decide_eq_true h2]
      exact ⟨r, rfl⟩
    · cases h2
/-- a class of errors over ValueError, as its object stands -/
def oexB (x : Str) (K : PySem.W.Frag) : Bool := (match K.lookup (ga K x) with
  | some ⟨cv, _, .cls d, slots⟩ => decide (cv = .type "type") && ((match d.mro with
    | b :: bm => decide (b = .ref (ga K x)) && PySem.HandSPX.refsVE bm
    | [] => false) && (!d.hasDel && (d.hasDict && match slots.toList with
    | [_, _, _, _, some v, _] => decide (v = .builtin "ValueError.__new__")
    | _ => false)))
  | _ => false)
theorem oexB_ok {x : Str} {K : PySem.W.Frag} (h : oexB x K = true) : ∃ nm q N bs bm sn sub ab col dd k0 k1 k2 k3 k5, K.lookup (ga K x) = some (excClassObj nm q (ga K x) N bs bm true sn sub ab col dd k0 k1 k2 k3 k5 "ValueError.__new__") ∧ PySem.HandSPX.refsVE bm = true := by
  unfold oexB at h
  generalize ga K x = C at *
  split at h
  · rename_i cv dd d slots e
    obtain ⟨h1, h⟩ := ba h
    obtain ⟨h2, h⟩ := ba h
    obtain ⟨h3, h⟩ := ba h
    obtain ⟨h4, h5⟩ := ba h
    split at h2
    · rename_i b bm em
      split at h5
      · rename_i k0 k1 k2 k3 v k5 es
        obtain ⟨h6, h7⟩ := ba h2
        obtain rfl := of_decide_eq_true h1
        obtain rfl := of_decide_eq_true h5
        obtain rfl := of_decide_eq_true h6
        obtain ⟨sl⟩ := slots
        have es : sl = _ := es
        subst es
        obtain ⟨nm, bs, mro, ns, qn, hd, sn, sub, ab, col, del⟩ := d
        have h3 : (!del) = true := h3
        have h4 : hd = true := h4
        have em : mro = _ := em
        subst em
        subst h4
        have h3 : del = false := by simpa using h3
        subst h3
        exact ⟨nm, qn, ns, bs, bm, sn, sub, ab, col, dd, k0, k1, k2, k3, k5, e, h7⟩
      · cases h5
    · cases h2
  · cases h
end G
namespace G
open PySem PySem.Spec PySem.Calls PyProof.Rows L2 He
/-! ### an own class's operators with built-in things on the right -/
def tysB : List String := ["NoneType", "bool", "int", "str", "list", "tuple", "dict"]
def ownTB (C : Str) (op : Operator) (K : PySem.W.Frag) : Bool := decide (PySem.W.findIn K (.ref (ga K C)) (PySem.dunderR op.info.2) = some none) &&
  tysB.all fun T => (PySem.W.findIn K (.type T) (PySem.dunder op.info.2)).isSome && ((PySem.W.findIn K (.type T) (PySem.dunderR op.info.2)).isSome && decide (PySem.W.subIn K (.type T) (.ref (ga K C)) = some false))
end G


namespace K05
open PySem L2 G
def topS (i : Nat) : Stmt := PySem.Challenge.pw_blockmoves_k05_forms_refused.main.body.getD i (.Pass ⟨0, 0, 0, 0⟩)
abbrev s__law_cell : Stmt := topS 31
abbrev s__law_heap : Stmt := topS 32
abbrev s_InvalidFactor__init_ : Stmt := inClass (topS 6) 0
abbrev s_InvalidName__init_ : Stmt := inClass (topS 5) 0
abbrev s_is_integer : Stmt := topS 16
abbrev s_is_name : Stmt := topS 17
abbrev s_is_symbol : Stmt := topS 18
abbrev s_Form__repr_ : Stmt := inClass (topS 21) 10
abbrev s_InvalidValues__init_ : Stmt := inClass (topS 8) 0
abbrev s_NotAForm__init_ : Stmt := inClass (topS 9) 0
abbrev s_is_pair : Stmt := topS 19
abbrev s_is_values : Stmt := topS 20
abbrev s_numbers_of : Stmt := topS 24
abbrev s_check_values : Stmt := topS 23
abbrev s_value_by : Stmt := topS 25
abbrev s_Form_evaluate : Stmt := inClass (topS 21) 3
abbrev s_check_form : Stmt := topS 22
abbrev s_Form__add_ : Stmt := inClass (topS 21) 4
abbrev s_Form__mul_ : Stmt := inClass (topS 21) 6
abbrev s_Form__sub_ : Stmt := inClass (topS 21) 5
abbrev s__law_joined : Stmt := topS 39
abbrev s__law_told : Stmt := topS 38
abbrev s__law_keywords_right : Stmt := topS 42
abbrev s_Form__str_ : Stmt := inClass (topS 21) 9
abbrev s_text_of : Stmt := topS 27
abbrev s_Form__init_ : Stmt := inClass (topS 21) 0
abbrev s_term_of : Stmt := topS 29
abbrev s_form_of : Stmt := topS 28
abbrev s_Form_read : Stmt := inClass (topS 21) 1
abbrev s__law_roll : Stmt := topS 33
abbrev s__law_pick : Stmt := topS 34
abbrev s__law_name : Stmt := topS 35
abbrev s__law_names : Stmt := topS 36
abbrev s__law_odd_values : Stmt := topS 40
abbrev s__law_text : Stmt := topS 37
abbrev s__law_right : Stmt := topS 41
abbrev s_law : Stmt := topS 43
def fx0 : List (PySem.W.Frag → Bool) := [fun K => (He.Fa.glo "Form").ok K,
  fun K => PySem.W.plainGet K (He.ga K "Form") Str.empty,
  fun K => PySem.W.hasDictIn K (He.ga K "Form"),
  fun K => PySem.W.plainOver K (He.ga K "Form"),
  fun K => decide (PySem.W.findIn K (.ref (He.ga K "Form")) "__setattr__" = some (some (.builtin "object.__setattr__"))),
  fun K => PySem.W.makesIn K (He.ga K "Form"),
  fun K => PySem.W.keepIn K (.ref (He.ga K "Form")),
  fun K => decide (PySem.W.findIn K (.ref (He.ga K "Form")) "terms" = some none),
  fun K => decide (PySem.W.findIn K (.ref (He.ga K "Form")) "symbols" = some none),
  fun K => decide (PySem.W.findIn K (.ref (He.ga K "Form")) "text" = some none),
  fun K => PySem.W.selfFirst K (He.ga K "Form"),
  fun K => decide (PySem.W.findIn K (.ref (He.ga K "Form")) "__class__" = some (some (.builtin "object.__class__"))),
  fun K => decide (PySem.W.specialIn K (.builtin "object.__class__") "__get__" = some (some (.builtin "getset_descriptor.__get__"))),
  fun K => decide (PySem.W.takesIn K (.builtin "object.__class__") = some true),
  fun K => decide (PySem.W.mroIn K (He.ga K "Form") (.type "object") = some true),
  fun K => decide (PySem.W.findIn K (.ref (He.ga K "Form")) (PySem.dunderR Operator.Mult.info.2) = some none),
  fun K => (PySem.W.findIn K (.type "int") (PySem.dunder Operator.Mult.info.2)).isSome,
  fun K => (PySem.W.findIn K (.type "int") (PySem.dunderR Operator.Mult.info.2)).isSome,
  fun K => decide (PySem.W.subIn K (.type "int") (.ref (He.ga K "Form")) = some false),
  fun K => decide (PySem.W.findIn K (.ref (He.ga K "Form")) "__ne__" = some (some (.builtin "object.__ne__"))),
  fun K => PySem.W.isClsIn K (He.ga K "Form"),
  fun K => decide (PySem.W.typeIn K (.ref (He.ga K "Form")) = some (.type "type")),
  fun K => PySem.W.readsIn K (He.ga K "Form") (.type "type"),
  fun K => decide (PySem.W.specialIn K (.ref (He.ga K "Form")) "__getattribute__" = some (some (.builtin "type.__getattribute__"))),
  fun K => (He.Fa.glo "InvalidName").ok K,
  oexB "InvalidName",
  fun K => decide (PySem.W.findIn K (.ref (He.ga K "InvalidName")) "__setattr__" = some (some (.builtin "object.__setattr__"))),
  fun K => decide (PySem.W.subIn K (.ref (He.ga K "InvalidName")) (.type "BaseException") = some true),
  fun K => decide (PySem.W.typeIn K (.ref (He.ga K "InvalidName")) = some (.type "type")),
  fun K => PySem.W.keepIn K (.ref (He.ga K "InvalidName")),
  fun K => decide (PySem.W.findIn K (.ref (He.ga K "InvalidName")) "__getattribute__" = some (some (.builtin "BaseException.__getattribute__"))),
  fun K => decide (PySem.W.findIn K (.ref (He.ga K "InvalidName")) "__getattr__" = some none),
  fun K => PySem.W.hasDictIn K (He.ga K "InvalidName"),
  fun K => decide (PySem.W.findIn K (.ref (He.ga K "InvalidName")) "value" = some none),
  fun K => PySem.W.isClsIn K (He.ga K "InvalidName"),
  fun K => decide (PySem.W.findIn K (.ref (He.ga K "InvalidName")) "__class__" = some (some (.builtin "object.__class__"))),
  fun K => decide (PySem.W.mroIn K (He.ga K "InvalidName") (.type "object") = some true),
  fun K => decide (PySem.W.subIn K (.ref (He.ga K "InvalidName")) (.ref (He.ga K "InvalidName")) = some true),
  fun K => (He.Fa.glo "InvalidFactor").ok K,
  oexB "InvalidFactor",
  fun K => decide (PySem.W.findIn K (.ref (He.ga K "InvalidFactor")) "__setattr__" = some (some (.builtin "object.__setattr__"))),
  fun K => decide (PySem.W.subIn K (.ref (He.ga K "InvalidFactor")) (.type "BaseException") = some true),
  fun K => decide (PySem.W.typeIn K (.ref (He.ga K "InvalidFactor")) = some (.type "type")),
  fun K => PySem.W.keepIn K (.ref (He.ga K "InvalidFactor")),
  fun K => decide (PySem.W.findIn K (.ref (He.ga K "InvalidFactor")) "__getattribute__" = some (some (.builtin "BaseException.__getattribute__"))),
  fun K => decide (PySem.W.findIn K (.ref (He.ga K "InvalidFactor")) "__getattr__" = some none),
  fun K => PySem.W.hasDictIn K (He.ga K "InvalidFactor"),
  fun K => decide (PySem.W.findIn K (.ref (He.ga K "InvalidFactor")) "value" = some none),
  fun K => PySem.W.isClsIn K (He.ga K "InvalidFactor"),
  fun K => decide (PySem.W.findIn K (.ref (He.ga K "InvalidFactor")) "__class__" = some (some (.builtin "object.__class__"))),
  fun K => decide (PySem.W.mroIn K (He.ga K "InvalidFactor") (.type "object") = some true),
  fun K => decide (PySem.W.subIn K (.ref (He.ga K "InvalidFactor")) (.ref (He.ga K "InvalidFactor")) = some true),
  fun K => (He.Fa.glo "InvalidValues").ok K,
  oexB "InvalidValues",
  fun K => decide (PySem.W.findIn K (.ref (He.ga K "InvalidValues")) "__setattr__" = some (some (.builtin "object.__setattr__"))),
  fun K => decide (PySem.W.subIn K (.ref (He.ga K "InvalidValues")) (.type "BaseException") = some true),
  fun K => decide (PySem.W.typeIn K (.ref (He.ga K "InvalidValues")) = some (.type "type")),
  fun K => PySem.W.keepIn K (.ref (He.ga K "InvalidValues")),
  fun K => decide (PySem.W.findIn K (.ref (He.ga K "InvalidValues")) "__getattribute__" = some (some (.builtin "BaseException.__getattribute__"))),
  fun K => decide (PySem.W.findIn K (.ref (He.ga K "InvalidValues")) "__getattr__" = some none)]
def fx1 : List (PySem.W.Frag → Bool) := [fun K => PySem.W.hasDictIn K (He.ga K "InvalidValues"),
  fun K => decide (PySem.W.findIn K (.ref (He.ga K "InvalidValues")) "value" = some none),
  fun K => PySem.W.isClsIn K (He.ga K "InvalidValues"),
  fun K => decide (PySem.W.findIn K (.ref (He.ga K "InvalidValues")) "__class__" = some (some (.builtin "object.__class__"))),
  fun K => decide (PySem.W.mroIn K (He.ga K "InvalidValues") (.type "object") = some true),
  fun K => decide (PySem.W.subIn K (.ref (He.ga K "InvalidValues")) (.ref (He.ga K "InvalidValues")) = some true),
  fun K => (He.Fa.glo "NotAForm").ok K,
  oexB "NotAForm",
  fun K => decide (PySem.W.findIn K (.ref (He.ga K "NotAForm")) "__setattr__" = some (some (.builtin "object.__setattr__"))),
  fun K => decide (PySem.W.subIn K (.ref (He.ga K "NotAForm")) (.type "BaseException") = some true),
  fun K => decide (PySem.W.typeIn K (.ref (He.ga K "NotAForm")) = some (.type "type")),
  fun K => PySem.W.keepIn K (.ref (He.ga K "NotAForm")),
  fun K => decide (PySem.W.findIn K (.ref (He.ga K "NotAForm")) "__getattribute__" = some (some (.builtin "BaseException.__getattribute__"))),
  fun K => decide (PySem.W.findIn K (.ref (He.ga K "NotAForm")) "__getattr__" = some none),
  fun K => PySem.W.hasDictIn K (He.ga K "NotAForm"),
  fun K => decide (PySem.W.findIn K (.ref (He.ga K "NotAForm")) "value" = some none),
  fun K => PySem.W.isClsIn K (He.ga K "NotAForm"),
  fun K => decide (PySem.W.findIn K (.ref (He.ga K "NotAForm")) "__class__" = some (some (.builtin "object.__class__"))),
  fun K => decide (PySem.W.mroIn K (He.ga K "NotAForm") (.type "object") = some true),
  fun K => decide (PySem.W.subIn K (.ref (He.ga K "NotAForm")) (.ref (He.ga K "NotAForm")) = some true),
  fun K => (He.Fa.glo "InputError").ok K,
  fun K => (He.Fa.glo "InvalidName").ok K,
  fun K => (He.Fa.glo "InvalidFactor").ok K,
  fun K => (He.Fa.glo "InvalidValues").ok K,
  fun K => (He.Fa.glo "NotAForm").ok K,
  fun K => (He.Fa.glo "InvalidText").ok K,
  fun K => (He.Fa.glo "StateError").ok K,
  fun K => (He.Fa.glo "RunError").ok K,
  fun K => (He.Fa.glo "LimitError").ok K,
  fun K => decide (PySem.W.exmOne K (.ref (He.ga K "InvalidName")) (.ref (He.ga K "InputError")) = some true),
  fun K => decide (PySem.W.kitOne K (.ref (He.ga K "InvalidName")) (.ref (He.ga K "InvalidName")) = some true),
  fun K => decide (PySem.W.kitOne K (.ref (He.ga K "InvalidName")) (.ref (He.ga K "InvalidFactor")) = some false),
  fun K => decide (PySem.W.kitOne K (.ref (He.ga K "InvalidName")) (.ref (He.ga K "InvalidValues")) = some false),
  fun K => decide (PySem.W.kitOne K (.ref (He.ga K "InvalidName")) (.ref (He.ga K "NotAForm")) = some false),
  fun K => decide (PySem.W.kitOne K (.ref (He.ga K "InvalidName")) (.ref (He.ga K "InvalidText")) = some false),
  fun K => decide (PySem.W.kitOne K (.ref (He.ga K "InvalidName")) (.ref (He.ga K "StateError")) = some false),
  fun K => decide (PySem.W.kitOne K (.ref (He.ga K "InvalidName")) (.ref (He.ga K "RunError")) = some false),
  fun K => decide (PySem.W.kitOne K (.ref (He.ga K "InvalidName")) (.ref (He.ga K "LimitError")) = some false),
  fun K => decide (PySem.W.kitOne K (.ref (He.ga K "InvalidName")) (.type "ValueError") = some true),
  fun K => decide (PySem.W.exmOne K (.ref (He.ga K "InvalidFactor")) (.ref (He.ga K "InputError")) = some true),
  fun K => decide (PySem.W.kitOne K (.ref (He.ga K "InvalidFactor")) (.ref (He.ga K "InvalidName")) = some false),
  fun K => decide (PySem.W.kitOne K (.ref (He.ga K "InvalidFactor")) (.ref (He.ga K "InvalidFactor")) = some true),
  fun K => decide (PySem.W.kitOne K (.ref (He.ga K "InvalidFactor")) (.ref (He.ga K "InvalidValues")) = some false),
  fun K => decide (PySem.W.kitOne K (.ref (He.ga K "InvalidFactor")) (.ref (He.ga K "NotAForm")) = some false),
  fun K => decide (PySem.W.kitOne K (.ref (He.ga K "InvalidFactor")) (.ref (He.ga K "InvalidText")) = some false),
  fun K => decide (PySem.W.kitOne K (.ref (He.ga K "InvalidFactor")) (.ref (He.ga K "StateError")) = some false),
  fun K => decide (PySem.W.kitOne K (.ref (He.ga K "InvalidFactor")) (.ref (He.ga K "RunError")) = some false),
  fun K => decide (PySem.W.kitOne K (.ref (He.ga K "InvalidFactor")) (.ref (He.ga K "LimitError")) = some false),
  fun K => decide (PySem.W.kitOne K (.ref (He.ga K "InvalidFactor")) (.type "ValueError") = some true),
  fun K => decide (PySem.W.exmOne K (.ref (He.ga K "InvalidValues")) (.ref (He.ga K "InputError")) = some true),
  fun K => decide (PySem.W.kitOne K (.ref (He.ga K "InvalidValues")) (.ref (He.ga K "InvalidName")) = some false),
  fun K => decide (PySem.W.kitOne K (.ref (He.ga K "InvalidValues")) (.ref (He.ga K "InvalidFactor")) = some false),
  fun K => decide (PySem.W.kitOne K (.ref (He.ga K "InvalidValues")) (.ref (He.ga K "InvalidValues")) = some true),
  fun K => decide (PySem.W.kitOne K (.ref (He.ga K "InvalidValues")) (.ref (He.ga K "NotAForm")) = some false),
  fun K => decide (PySem.W.kitOne K (.ref (He.ga K "InvalidValues")) (.ref (He.ga K "InvalidText")) = some false),
  fun K => decide (PySem.W.kitOne K (.ref (He.ga K "InvalidValues")) (.ref (He.ga K "StateError")) = some false),
  fun K => decide (PySem.W.kitOne K (.ref (He.ga K "InvalidValues")) (.ref (He.ga K "RunError")) = some false),
  fun K => decide (PySem.W.kitOne K (.ref (He.ga K "InvalidValues")) (.ref (He.ga K "LimitError")) = some false),
  fun K => decide (PySem.W.kitOne K (.ref (He.ga K "InvalidValues")) (.type "ValueError") = some true),
  fun K => decide (PySem.W.exmOne K (.ref (He.ga K "NotAForm")) (.ref (He.ga K "InputError")) = some true)]
def fx2 : List (PySem.W.Frag → Bool) := [fun K => decide (PySem.W.kitOne K (.ref (He.ga K "NotAForm")) (.ref (He.ga K "InvalidName")) = some false),
  fun K => decide (PySem.W.kitOne K (.ref (He.ga K "NotAForm")) (.ref (He.ga K "InvalidFactor")) = some false),
  fun K => decide (PySem.W.kitOne K (.ref (He.ga K "NotAForm")) (.ref (He.ga K "InvalidValues")) = some false),
  fun K => decide (PySem.W.kitOne K (.ref (He.ga K "NotAForm")) (.ref (He.ga K "NotAForm")) = some true),
  fun K => decide (PySem.W.kitOne K (.ref (He.ga K "NotAForm")) (.ref (He.ga K "InvalidText")) = some false),
  fun K => decide (PySem.W.kitOne K (.ref (He.ga K "NotAForm")) (.ref (He.ga K "StateError")) = some false),
  fun K => decide (PySem.W.kitOne K (.ref (He.ga K "NotAForm")) (.ref (He.ga K "RunError")) = some false),
  fun K => decide (PySem.W.kitOne K (.ref (He.ga K "NotAForm")) (.ref (He.ga K "LimitError")) = some false),
  fun K => decide (PySem.W.kitOne K (.ref (He.ga K "NotAForm")) (.type "ValueError") = some true),
  ownTB "Form" .Add,
  ownTB "Form" .Sub,
  ownTB "Form" .Mult,
  fun K => decide (PySem.W.kitOne K (.ref (He.ga K "Form")) (.type "int") = some false),
  fun K => (He.Fa.glo "_law_cell").ok K,
  fun K => (He.Fa.glo "_law_heap").ok K,
  fun K => decide (PySem.W.findIn K (.ref (He.ga K "InvalidFactor")) "__init__" = some (some (.ref (He.ma K (He.ga K "InvalidFactor") "__init__")))),
  fun K => decide (PySem.W.typeIn K (.ref (He.ma K (He.ga K "InvalidFactor") "__init__")) = some (.type "function")),
  fun K => decide (PySem.W.findIn K (.ref (He.ga K "InvalidName")) "__init__" = some (some (.ref (He.ma K (He.ga K "InvalidName") "__init__")))),
  fun K => decide (PySem.W.typeIn K (.ref (He.ma K (He.ga K "InvalidName") "__init__")) = some (.type "function")),
  fun K => (He.Fa.glo "is_integer").ok K,
  fun K => (He.Fa.glo "is_name").ok K,
  fun K => (He.Fa.glo "is_symbol").ok K,
  fun K => decide (PySem.W.findIn K (.ref (He.ga K "Form")) "__repr__" = some (some (.ref (He.ma K (He.ga K "Form") "__repr__")))),
  fun K => PySem.W.isFn K (.ref (He.ma K (He.ga K "Form") "__repr__")),
  fun K => decide (PySem.W.findIn K (.ref (He.ga K "InvalidValues")) "__init__" = some (some (.ref (He.ma K (He.ga K "InvalidValues") "__init__")))),
  fun K => decide (PySem.W.typeIn K (.ref (He.ma K (He.ga K "InvalidValues") "__init__")) = some (.type "function")),
  fun K => decide (PySem.W.findIn K (.ref (He.ga K "NotAForm")) "__init__" = some (some (.ref (He.ma K (He.ga K "NotAForm") "__init__")))),
  fun K => decide (PySem.W.typeIn K (.ref (He.ma K (He.ga K "NotAForm") "__init__")) = some (.type "function")),
  fun K => (He.Fa.glo "is_pair").ok K,
  fun K => (He.Fa.glo "is_values").ok K,
  fun K => (He.Fa.glo "numbers_of").ok K,
  fun K => (He.Fa.glo "check_values").ok K,
  fun K => (He.Fa.glo "value_by").ok K,
  fun K => decide (PySem.W.findIn K (.ref (He.ga K "Form")) "evaluate" = some (some (.ref (He.ma K (He.ga K "Form") "evaluate")))),
  fun K => PySem.W.isFn K (.ref (He.ma K (He.ga K "Form") "evaluate")),
  fun K => (He.Fa.glo "check_form").ok K,
  fun K => decide (PySem.W.findIn K (.ref (He.ga K "Form")) "__add__" = some (some (.ref (He.ma K (He.ga K "Form") "__add__")))),
  fun K => PySem.W.isFn K (.ref (He.ma K (He.ga K "Form") "__add__")),
  fun K => decide (PySem.W.findIn K (.ref (He.ga K "Form")) "__mul__" = some (some (.ref (He.ma K (He.ga K "Form") "__mul__")))),
  fun K => PySem.W.isFn K (.ref (He.ma K (He.ga K "Form") "__mul__")),
  fun K => decide (PySem.W.findIn K (.ref (He.ga K "Form")) "__sub__" = some (some (.ref (He.ma K (He.ga K "Form") "__sub__")))),
  fun K => PySem.W.isFn K (.ref (He.ma K (He.ga K "Form") "__sub__")),
  fun K => (He.Fa.glo "_law_joined").ok K,
  fun K => (He.Fa.glo "_law_told").ok K,
  fun K => (He.Fa.glo "_law_keywords_right").ok K,
  fun K => decide (PySem.W.findIn K (.ref (He.ga K "Form")) "__str__" = some (some (.ref (He.ma K (He.ga K "Form") "__str__")))),
  fun K => PySem.W.isFn K (.ref (He.ma K (He.ga K "Form") "__str__")),
  fun K => (He.Fa.glo "text_of").ok K,
  fun K => decide (PySem.W.findIn K (.ref (He.ga K "Form")) "__init__" = some (some (.ref (He.ma K (He.ga K "Form") "__init__")))),
  fun K => PySem.W.isFn K (.ref (He.ma K (He.ga K "Form") "__init__")),
  fun K => (He.Fa.glo "term_of").ok K,
  fun K => (He.Fa.glo "form_of").ok K,
  smB "Form" "read",
  fun K => (He.Fa.glo "_law_roll").ok K,
  fun K => (He.Fa.glo "_law_pick").ok K,
  fun K => (He.Fa.glo "_law_name").ok K,
  fun K => (He.Fa.glo "_law_names").ok K,
  fun K => (He.Fa.glo "_law_odd_values").ok K,
  fun K => (He.Fa.glo "_law_text").ok K,
  fun K => (He.Fa.glo "_law_right").ok K]
def fx3 : List (PySem.W.Frag → Bool) := [fun K => (He.Fa.glo "law").ok K,
  fun K => (match K.lookup (He.ga K "_law_right") with | some ⟨_, _, .func fd, _⟩ => decide (fd.code = .ref (codeAd K (He.ga K "_law_right"))) | _ => false),
  fun K => PySem.W.codeHdIn K (codeAd K (He.ga K "_law_right")) (tabAd K (codeAd K (He.ga K "_law_right"))),
  fun K => (match K.lookup (He.ga K "_law_keywords_right") with | some ⟨_, _, .func fd, _⟩ => decide (fd.code = .ref (codeAd K (He.ga K "_law_keywords_right"))) | _ => false),
  fun K => PySem.W.codeHdIn K (codeAd K (He.ga K "_law_keywords_right")) (tabAd K (codeAd K (He.ga K "_law_keywords_right"))),
  fun K => decide (tabAd K (codeAd K (He.ga K "_law_right")) ≠ tabAd K (codeAd K (He.ga K "_law_keywords_right"))),
  fun K => (He.Fa.free "len").ok K,
  fun K => (He.Fa.free "isinstance").ok K,
  fun K => (He.Fa.free "str").ok K,
  fun K => (He.Fa.free "int").ok K,
  fun K => (He.Fa.free "tuple").ok K,
  fun K => (He.Fa.free "bool").ok K,
  fun K => (He.Fa.free "dict").ok K,
  fun K => (He.Fa.free "range").ok K,
  fun K => (He.Fa.free "all").ok K,
  fun K => (He.Fa.free "sorted").ok K,
  fun K => (He.Fa.free "abs").ok K,
  fun K => (He.Fa.free "max").ok K,
  fun K => (He.Fa.free "min").ok K,
  fun K => (He.Fa.free "sum").ok K,
  fun K => (He.Fa.free "repr").ok K,
  fun K => (He.Fa.free "ValueError").ok K,
  fun K => (He.Fa.str "LETTERS" "abcdefghijklmnopqrstuvwxyz").ok K,
  fun K => (He.Fa.str "DIGITS" "0123456789").ok K,
  fun K => (He.Fa.int "MAX_LENGTH" 8).ok K,
  fun K => (He.Fa.str "CELL" "@").ok K,
  fun K => (He.Fa.str "VIEW" "view").ok K]
def fxs : List (PySem.W.Frag → Bool) := fx0 ++ (fx1 ++ (fx2 ++ (fx3)))
def ex (K : PySem.W.Frag) : Bool := fxs.all fun b => b K
def dq__law_cell : DefQ := ⟨fun K => He.ga K "_law_cell", "_law_cell", "_law_cell", s__law_cell⟩
def dq__law_heap : DefQ := ⟨fun K => He.ga K "_law_heap", "_law_heap", "_law_heap", s__law_heap⟩
def dq_InvalidFactor__init_ : DefQ := ⟨fun K => He.ma K (He.ga K "InvalidFactor") "__init__", "__init__", "InvalidFactor.__init__", s_InvalidFactor__init_⟩
def dq_InvalidName__init_ : DefQ := ⟨fun K => He.ma K (He.ga K "InvalidName") "__init__", "__init__", "InvalidName.__init__", s_InvalidName__init_⟩
def dq_is_integer : DefQ := ⟨fun K => He.ga K "is_integer", "is_integer", "is_integer", s_is_integer⟩
def dq_is_name : DefQ := ⟨fun K => He.ga K "is_name", "is_name", "is_name", s_is_name⟩
def dq_is_symbol : DefQ := ⟨fun K => He.ga K "is_symbol", "is_symbol", "is_symbol", s_is_symbol⟩
def dq_Form__repr_ : DefQ := ⟨fun K => He.ma K (He.ga K "Form") "__repr__", "__repr__", "Form.__repr__", s_Form__repr_⟩
def dq_InvalidValues__init_ : DefQ := ⟨fun K => He.ma K (He.ga K "InvalidValues") "__init__", "__init__", "InvalidValues.__init__", s_InvalidValues__init_⟩
def dq_NotAForm__init_ : DefQ := ⟨fun K => He.ma K (He.ga K "NotAForm") "__init__", "__init__", "NotAForm.__init__", s_NotAForm__init_⟩
def dq_is_pair : DefQ := ⟨fun K => He.ga K "is_pair", "is_pair", "is_pair", s_is_pair⟩
def dq_is_values : DefQ := ⟨fun K => He.ga K "is_values", "is_values", "is_values", s_is_values⟩
def dq_numbers_of : DefQ := ⟨fun K => He.ga K "numbers_of", "numbers_of", "numbers_of", s_numbers_of⟩
def dq_check_values : DefQ := ⟨fun K => He.ga K "check_values", "check_values", "check_values", s_check_values⟩
def dq_value_by : DefQ := ⟨fun K => He.ga K "value_by", "value_by", "value_by", s_value_by⟩
def dq_Form_evaluate : DefQ := ⟨fun K => He.ma K (He.ga K "Form") "evaluate", "evaluate", "Form.evaluate", s_Form_evaluate⟩
def dq_check_form : DefQ := ⟨fun K => He.ga K "check_form", "check_form", "check_form", s_check_form⟩
def dq_Form__add_ : DefQ := ⟨fun K => He.ma K (He.ga K "Form") "__add__", "__add__", "Form.__add__", s_Form__add_⟩
def dq_Form__mul_ : DefQ := ⟨fun K => He.ma K (He.ga K "Form") "__mul__", "__mul__", "Form.__mul__", s_Form__mul_⟩
def dq_Form__sub_ : DefQ := ⟨fun K => He.ma K (He.ga K "Form") "__sub__", "__sub__", "Form.__sub__", s_Form__sub_⟩
def dq__law_joined : DefQ := ⟨fun K => He.ga K "_law_joined", "_law_joined", "_law_joined", s__law_joined⟩
def dq__law_told : DefQ := ⟨fun K => He.ga K "_law_told", "_law_told", "_law_told", s__law_told⟩
def dq__law_keywords_right : DefQ := ⟨fun K => He.ga K "_law_keywords_right", "_law_keywords_right", "_law_keywords_right", s__law_keywords_right⟩
def dq_Form__str_ : DefQ := ⟨fun K => He.ma K (He.ga K "Form") "__str__", "__str__", "Form.__str__", s_Form__str_⟩
def dq_text_of : DefQ := ⟨fun K => He.ga K "text_of", "text_of", "text_of", s_text_of⟩
def dq_Form__init_ : DefQ := ⟨fun K => He.ma K (He.ga K "Form") "__init__", "__init__", "Form.__init__", s_Form__init_⟩
def dq_term_of : DefQ := ⟨fun K => He.ga K "term_of", "term_of", "term_of", s_term_of⟩
def dq_form_of : DefQ := ⟨fun K => He.ga K "form_of", "form_of", "form_of", s_form_of⟩
def dq_Form_read : DefQ := ⟨fun K => sfAd K (He.ga K "Form") "read", "read", "Form.read", s_Form_read⟩
def dq__law_roll : DefQ := ⟨fun K => He.ga K "_law_roll", "_law_roll", "_law_roll", s__law_roll⟩
def dq__law_pick : DefQ := ⟨fun K => He.ga K "_law_pick", "_law_pick", "_law_pick", s__law_pick⟩
def dq__law_name : DefQ := ⟨fun K => He.ga K "_law_name", "_law_name", "_law_name", s__law_name⟩
def dq__law_names : DefQ := ⟨fun K => He.ga K "_law_names", "_law_names", "_law_names", s__law_names⟩
def dq__law_odd_values : DefQ := ⟨fun K => He.ga K "_law_odd_values", "_law_odd_values", "_law_odd_values", s__law_odd_values⟩
def dq__law_text : DefQ := ⟨fun K => He.ga K "_law_text", "_law_text", "_law_text", s__law_text⟩
def dq__law_right : DefQ := ⟨fun K => He.ga K "_law_right", "_law_right", "_law_right", s__law_right⟩
def dq_law : DefQ := ⟨fun K => He.ga K "law", "law", "law", s_law⟩
def fn0 : List DefQ := [dq__law_cell, dq__law_heap, dq_InvalidFactor__init_, dq_InvalidName__init_, dq_is_integer, dq_is_name, dq_is_symbol, dq_Form__repr_, dq_InvalidValues__init_, dq_NotAForm__init_, dq_is_pair, dq_is_values, dq_numbers_of, dq_check_values, dq_value_by, dq_Form_evaluate, dq_check_form, dq_Form__add_, dq_Form__mul_, dq_Form__sub_, dq__law_joined, dq__law_told, dq__law_keywords_right, dq_Form__str_, dq_text_of, dq_Form__init_, dq_term_of, dq_form_of, dq_Form_read, dq__law_roll, dq__law_pick, dq__law_name, dq__law_names, dq__law_odd_values, dq__law_text, dq__law_right, dq_law]
def fns : List DefQ := fn0
def tbs : List TabQ := [fun K => tabAd K (codeAd K (He.ga K "_law_right")), fun K => tabAd K (codeAd K (He.ga K "_law_keywords_right"))]
def nm0 : List PySem.Str := ["InputError", "StateError", "RunError", "LimitError", "InvalidName", "InvalidFactor", "InvalidText", "InvalidValues", "NotAForm", "LETTERS", "DIGITS", "MAX_LENGTH", "CELL", "VIEW", "is_integer", "is_name", "is_symbol", "is_pair", "is_values", "Form", "check_form", "check_values", "numbers_of", "value_by", "summed", "text_of", "form_of", "term_of", "_law_cell", "_law_heap"]
def nm1 : List PySem.Str := ["_law_roll", "_law_pick", "_law_name", "_law_names", "_law_text", "_law_told", "_law_joined", "_law_odd_values", "_law_right", "_law_keywords_right"]
def loose : List PySem.Str := nm0 ++ nm1
abbrev R : PySem.W.OpenRow := PySem.W.OpenLaw.row PySem.Challenge.rw_blockmoves_k05_forms_refused
open PySem.W PySem.Calls PyProof.Rows in
noncomputable abbrev EE (w : World) : OsState → Option PySem.W.SharedT := HandSHeadRun.endF (HandSHeadRun.stepQ (HandSHeadRun.denQ HandSHeadRun.tabQ) R.prog w) 60000 R.prog w
abbrev qq : Program := PySem.W.view R.prog [43]
open PySem.W PySem.Calls PyProof.Rows in
set_option maxHeartbeats 0 in
theorem run_a (w : World) : ∀ os : OsState, (EE w os).map (fun s => (HandSHeadRun.looksF R.prog (boot_heap w.params) s.abs, HandSHeadRun.seenQ qq loose (importedModules R.prog.main.body) (fun s => PySem.W.xlAt qq [] s && PySem.W.recOk (PySem.W.OpenRow.toRowW R).records s) s.abs, fragT (HandSHeadRun.getT s) 5 fun K => (fxs.all fun b => b K) && tbs.all fun t => tabE (HandSHeadRun.getT s (t K)))) = some (true, PySem.W.openGood qq loose, true) := by
  intro os
  kernel_rfl
open PySem.W PySem.Calls PyProof.Rows in
set_option maxHeartbeats 0 in
theorem run_d0 (w : World) : DT (EE w) 5 fn0 := by
  intro os
  kernel_rfl
theorem run_d (w : World) : DT (EE w) 5 fns := run_d0 w
abbrev hk : PySem.W.Hook := hookT 5 ex fns tbs
def ob (s : PySem.W.SharedT) : AlQ := obsT 5 ex fns tbs (HandSHeadRun.getT s)
theorem ob_eq (s : PySem.W.SharedT) : ob s = hk.obs s.abs := obsT_eq (HandSHeadRun.getT_eq s)
theorem run (w : World) : HandSHeadRun.RunEq R qq hk ob 60000 loose w := run_ofT (run_a w) (run_d w)
end K05
/-! My layer over the hand layer: promises of defs that know that no repr is running (guards), repr of data, calls by keywords alone. -/
namespace G
open PySem PySem.Spec PyProof.Rows L2

/-- no repr is running around -/
def Gd (A : Around) : Prop := A.guards = some []
theorem Gd.deeper {A : Around} {env : Env} (h : Gd A) : Gd (A.deeper env) := by
  unfold Gd at h ⊢
  simp [Around.deeper, h]

/-- a def's promise, where no repr is running around the call -/
structure Fg (P : Program) (w : World) (K : PySem.W.Frag) (mg : Str → Option Value) (base : Heap) (CX : CXT)
    (k : Nat) (f : Addr) (fd : FuncData) (ps : List Str) (sp : Sp) : Prop where
  len : ∀ vs H Q E, sp vs H Q E → vs.length = ps.length
  go : ∀ (A : Around) (outer : List Env) (s : Shared) (H : Hp) (args : Args) (us : List Value) (vs : List V)
    (Q : VK) (E : XK), Room k A → Gd A → Env0 P w K mg base A outer s H → BindsTo s fd args (ps.zip us) →
    Vals vs us → sp vs H Q E → codeAny (model P w) A (.call (.ref f) args) (CR CX outer P w H s Q E) s

section
variable {P : Program} {w : World} {K : PySem.W.Frag} {mg : Str → Option Value} {base : Heap} {CX : CXT}
theorem Fg.of {k : Nat} {f : Addr} {fd : FuncData} {ps : List Str} {sp : Sp}
    (F : FnOk P w K mg base CX k f fd ps sp) : Fg P w K mg base CX k f fd ps sp :=
  ⟨F.len, fun A o s H ar us vs Q E hr _ => F.run A o s H ar us vs Q E hr⟩
theorem Fg.mono {j k : Nat} {f : Addr} {fd : FuncData} {ps : List Str} {sp : Sp}
    (F : Fg P w K mg base CX j f fd ps sp) (h : j ≤ k) : Fg P w K mg base CX k f fd ps sp :=
  ⟨F.len, fun A o s H ar us vs Q E hr => F.go A o s H ar us vs Q E (hr.mono h)⟩
/-- a def of the text by its body -/
theorem fg_of {k : Nat} {f : Addr} {fn qual : Str} {params : Arguments} {body : List Stmt} {scope : Scope}
    {dV kV doc pm cdv ct oc : Value} {an od : Option Addr} {osl : Array (Option Value)} {N ps : List Str} {sp : Sp}
    (lk : K.lookup f = some ⟨oc, od, .func (PySem.W.fnOf fn qual params body scope dV kV doc pm an cdv ct), osl⟩)
    (hcd : PySem.W.codeIn K cdv qual = true) (S : FnScope N ps scope)
    (len : ∀ vs H Q E, sp vs H Q E → vs.length = ps.length)
    (hb : ∀ (A : Around) (outer : List Env) (s : Shared) (H : Hp) (vs : List V) (Q : VK) (E : XK),
      Room k (A.deeper (envOfC qual scope s.heap.objs.size f cdv)) → Gd (A.deeper (envOfC qual scope s.heap.objs.size f cdv)) →
      sp vs H Q E → ∃ t, PSs (cxOf CX P w K mg base N qual scope f cdv A outer s H E) body t ∧
        t { nx := fun _ H' => Q .non H', rt := Q } (start N vs) H) :
    Fg P w K mg base CX (k + 1) f (PySem.W.fnOf fn qual params body scope dV kV doc pm an cdv ct) ps sp := by
  constructor
  · exact len
  intro A outer s H args us vs Q E hr hgd e0 hbi r hsp
  have hl := len _ _ _ _ hsp
  have keepB : ∀ b o, base.get? b = some o → s.heap.get? b = some o := fun b o e => (e0.bs b o e).1
  have KX := e0.mod.kin.keeps keepB
  have hkd : ∀ y ∈ ps.zip us, scope.names.lookup y.1 = some .local ∨
      (scope.names.lookup y.1 = some .cell ∧ ((cellsFrom (s.heap.objs.size + 1) scope.names []).lookup y.1).isSome = true) := by
    rintro ⟨n, v⟩ hy
    have hn : n ∈ ps := (List.of_mem_zip hy).1
    cases S.par n hn with
    | inl q => exact Or.inl q
    | inr q => exact Or.inr ⟨q, PySem.W.cellsFrom_some _ _ _ (Or.inl q)⟩
  apply codeAny_call_function hr.depth (KX _ _ lk) rfl S.co S.gen rfl (PySem.W.codeRec_of KX hcd)
  apply hbi
  apply wpAny_newFunctionEnv_cells S.kind hkd
  intro env he s1 x
  subst he
  constructor
  · exact (e0.mod.nolimit.keeps keepB).keeps x.toInCall.keep
  apply codeAny_func
  obtain ⟨t, ht, hq⟩ := hb A outer s H vs Q E (hr.deeper _) hgd.deeper hsp
  have I := inv_start (CX := CX) (E := E) S hr.hd e0 hl r x
  apply wpAny_mono (ht.run [] s1 _ H _ I hq)
  · intro fl s' hs
    have fin : ∀ {σ' : L2.St} {H' : Hp} {v : V} {u : Value}, Inv (cxOf CX P w K mg base N qual scope f cdv A outer s H E) [] σ' H' s' →
        RelV v u → Q v H' → CE outer P w H s Q u s' := fun J rv q => ⟨_, _, J.os, J.bare, J.base, J.hok, rv, q⟩
    cases fl with
    | ret u => obtain ⟨v, σ', H', J, rv, q⟩ := hs; exact fin J rv q
    | next => obtain ⟨σ', H', J, q⟩ := hs; exact fin (v := V.non) J rfl q
    | brk => obtain ⟨_, _, _, q⟩ := hs; exact q.elim
    | cont => obtain ⟨_, _, _, q⟩ := hs; exact q.elim
  · intro e s' hs
    exact hs
/-- .. from which no exception leaves -/
theorem ok0 {x qual : Str} {st : Stmt} {f : Addr} {fd : FuncData} {N ps : List Str} {k : Nat} {sp : Sp}
    (F : Fun K x qual st f fd) (S : FnScope N ps (defScope st)) (len : ∀ vs H Q E, sp vs H Q E → vs.length = ps.length)
    (hb : ∀ (cdv : Value) (A : Around) (outer : List Env) (s : Shared) (H : Hp) (vs : List V) (Q : VK) (E : XK),
      Room k (A.deeper (envOfC qual (defScope st) s.heap.objs.size f cdv)) → Gd (A.deeper (envOfC qual (defScope st) s.heap.objs.size f cdv)) →
      sp vs H Q E → ∃ t, PSs (cxOf CX0 P w K mg base N qual (defScope st) f cdv A outer s H E).nox (defBody st) t ∧
        t { nx := fun _ H' => Q .non H', rt := Q } (start N vs) H) :
    Fg P w K mg base CX0 (k + 1) f fd ps sp := by
  obtain ⟨oc, od, kV, doc, pm, an, cdv, ct, osl, rfl, lk, hcd⟩ := F.ex
  refine fg_of lk hcd S len fun A outer s H vs Q E hr hg hsp => ?_
  obtain ⟨t, h, q⟩ := hb cdv A outer s H vs Q E hr hg hsp
  exact ⟨t, h.nox, q⟩
end

section
variable {X : Cx} {CX : CXT} {k : Nat} {f C : Addr} {fd : FuncData} {ps ks : List Str} {sp : Sp} {dvs : List V} {ds : List Value}
  {E : XK} {x m : Str} {p pos apos : Pos} {e o : Expr} {es : List Expr} {kws : List Keyword} {ta : TE} {t tk : TA}
/-- the callee runs -/
theorem runG {pins : List (Addr × Obj)} {σ : L2.St} {H : Hp} {s : Shared} {Q : VK} {us : List Value}
    {kw : List (Str × Value)} {us' : List Value} {vs' : List V}
    (F : Fg X.prog X.w X.K X.mg X.base CX k f fd ps sp) (hr : Room k X.A) (hgd : Gd X.A) (hx : Passes CX X E)
    (I : Inv X pins σ H s) (hb : us'.length = ps.length → BindsTo s fd ⟨us, kw⟩ (ps.zip us')) (r : Vals vs' us')
    (h : sp vs' H Q E) : wpAny (model X.prog X.w) X.A (call (.ref f) us kw) (EP X pins σ Q) X.xe s := by
  have hl : us'.length = ps.length := r.length.symm.trans (F.len _ _ _ _ h)
  apply wpAny_call
  apply codeAny_mono (F.go X.A X.stack s H ⟨us, kw⟩ us' vs' Q E hr hgd I.env0 (hb hl) r h)
  intro rs s' hq
  cases rs with
  | error e => exact hx pins σ H s e s' I hq
  | ok fl => cases fl with
    | ret u => exact I.after hq
    | next => exact hq.elim
    | brk => exact hq.elim
    | cont => exact hq.elim
/-- f(e, ..) -/
theorem peC (F : Fg X.prog X.w X.K X.mg X.base CX k f fd ps sp) (hr : Room k X.A) (hgd : Gd X.A) (hg : Gl X x)
    (hm : X.mg x = some (.ref f)) (hk : PySem.W.keepIn X.K (.ref f) = true) (hb : Binds X.K fd ps ds) (hd : Vals dvs ds) (hx : Passes CX X E)
    (ha : PA X (e :: es) t) (hdb : (x == ("__debug__" : Str)) = false := by decide)
    (he : starEach (e :: es) X.env = (false, eval e X.env) :: starEach es X.env := by rfl)
    (hpl : (backTo pos (starEach es X.env)).any (·.1) = false := by rfl) :
    PE X (.Call (.Name x p) (e :: es) [] pos) (tCall sp dvs E t) := by
  constructor
  intro pins s σ H Q I h
  apply wpAny_Call_Name_kw
  refine ld_glob I hg hm ?_ hdb
  refine PySem.W.callWith_K (h₀ := X.base) I.ok.mod.kin hk (thn (ha.run pos pins s σ H _ I h) ?_) he hpl
  rintro us s1 ⟨vs, H1, I1, r, q⟩
  exact ⟨I1.kIn, runG F hr hgd hx I1 (fun hl => hb s1 us I1.kIn hl) (r.append hd) q⟩
/-- f() -/
theorem peC0 (F : Fg X.prog X.w X.K X.mg X.base CX k f fd ps sp) (hr : Room k X.A) (hgd : Gd X.A) (hg : Gl X x)
    (hm : X.mg x = some (.ref f)) (hk : PySem.W.keepIn X.K (.ref f) = true) (hb : Binds X.K fd ps ds) (hd : Vals dvs ds) (hx : Passes CX X E)
    (hdb : (x == ("__debug__" : Str)) = false := by decide) : PE X (.Call (.Name x p) [] [] pos) (tCall sp dvs E tNil) := by
  constructor
  intro pins s σ H Q I h
  apply wpAny_Call_Name_kw
  refine ld_glob I hg hm ?_ hdb
  exact PySem.W.callWith_K0 I.kIn hk (runG (us := []) F hr hgd hx I (fun hl => hb s [] I.kIn hl) (Vals.append .nil hd) h)
end
/-- how a call by keywords alone binds -/
def BindsK (K : PySem.W.Frag) (fd : FuncData) (ps ks : List Str) (g : List Value → List Value) (gV : List V → List V) : Prop :=
  (∀ (s : Shared) (ws : List Value), K.In s.heap → (g ws).length = ps.length → BindsTo s fd ⟨[], ks.zip ws⟩ (ps.zip (g ws))) ∧
  ∀ {zs : List V} {ws : List Value}, Vals zs ws → Vals (gV zs) (g ws)
def tCallZ (sp : Sp) (gV : List V → List V) (E : XK) (tk : TA) : TE := fun σ H Q => tk σ H fun zs H2 => sp (gV zs) H2 Q E
section
variable {X : Cx} {CX : CXT} {k : Nat} {f C : Addr} {fd : FuncData} {ps ks : List Str} {sp : Sp} {E : XK} {x : Str} {p pos kp : Pos} {nm : Option Str} {e : Expr} {kws : List Keyword} {tk : TA}
  {g : List Value → List Value} {gV : List V → List V}
/-- f(k = v, ..) -/
theorem peZ (F : Fg X.prog X.w X.K X.mg X.base CX k f fd ps sp) (hr : Room k X.A) (hgd : Gd X.A) (hg : Gl X x)
    (hm : X.mg x = some (.ref f)) (hk : PySem.W.keepIn X.K (.ref f) = true) (hb : BindsK X.K fd ps ks g gV) (hx : Passes CX X E)
    (hkw : PK X kws tk) (hall : (backToKw pos (keywordEach kws X.env)).all (·.1.isSome) = true := by rfl)
    (hks : (backToKw pos (keywordEach kws X.env)).filterMap (·.1) = ks := by rfl)
    (hdb : (x == ("__debug__" : Str)) = false := by decide)
    (hpl : ((backTo pos (starEach [] X.env)).any (·.1) || (backToKw pos (keywordEach kws X.env)).any (·.1.isNone)) = false := by rfl) :
    PE X (.Call (.Name x p) [] kws pos) (tCallZ sp gV E tk) := by
  constructor
  intro pins s σ H Q I h
  apply wpAny_Call_Name_kw
  refine ld_glob I hg hm ?_ hdb
  refine PySem.W.callWith_KW0 (h₀ := X.base) I.ok.mod.kin hk hall ?_ hpl
  refine thn (hkw.run pos pins s σ H _ I h) ?_
  rintro ws s2 ⟨zs, H2, I2, rz, q2⟩
  refine ⟨I2.kIn, ?_⟩
  rw [hks]
  exact runG (us := []) F hr hgd hx I2 (fun hl => hb.1 s2 ws I2.kIn hl) (hb.2 rz) q2
/-- repr of data: a list, a tuple, of None, bools, ints, texts, lists, tuples -/
theorem cr_repr (hgd : Gd X.A) (hu : X.A.units + 64 < cLine) : CallR X (.builtin "repr") (fun xs H Q => ∃ (a : Addr) (d : PyData), xs = [.ref a] ∧ Dp X.K H (.ref a) d ∧
    d.showable = true ∧ d.hasDict = false ∧ d.depth ≤ 60 ∧ d.shown.length ≤ sizeLine ∧ Q (.str d.shown) H) := by
  intro pins s σ H xs us Q I r h
  obtain ⟨a, d, rfl, hd, h1, h2, h3, h4, q⟩ := h
  cases r with
  | cons r0 rr =>
    cases rr
    obtain rfl : _ = Value.ref a := r0
    obtain ⟨as, rd⟩ := Dp.reads I d _ _ hd rfl
    refine repr_of_reads' rd h1 (PyData.noDict_hsm h2) hgd (by omega) (fun _ _ e => e) (fun h' u tk hk => ?_) h4
    exact ⟨.str d.shown, H, I.kept hk, ⟨_, rfl⟩, q⟩
end

/-- the law's end -/
theorem law_end {P : Program} {w : World} {K : PySem.W.Frag} {mg mb : Str → Option Value} {CX : CXT} {k : Nat} {fa a : Addr} {fd : FuncData} {x : Str} {sp : Sp} {s₁ : Shared} {vs : List Value} {ns : List Int}
    (KX : K.In s₁.heap) (hns : s₁.heap.Ns mainGlobals mg) (hb : s₁.heap.Ns builtinsNs mb)
    (hbb : ∀ x : Str, x ≠ "__name__" → mb x = bootBuiltins x) (hlim : s₁.heap.NoLimit) (hg : s₁.gens = #[])
    (ha : s₁.heap.get? a = some { cls := .type "list", data := .seq vs.toArray }) (hi : IntsAre vs ns)
    (hl : ns.length ≤ sizeLine) (hr : Room k callerA)
    (F : ∀ base : Heap, K.In base → base.Ns mainGlobals mg → Fg P w K mg base CX k fa fd [x] sp)
    (hbind : ∀ (s : Shared) (u : Value), BindsTo s fd ⟨[u], []⟩ [(x, u)])
    (hsp : ∀ H : Hp, Only H → SqL K H a (ns.map V.int) → sp [.ref a] H (fun v _ => v = .bl true) fun _ _ _ => False)
    (hCX : ∀ H e s', CX [] H s₁ (fun _ _ _ => False) e s' → False) :
    codeAny (model P w) callerA (.call (.ref fa) ⟨[.ref a], []⟩)
      (fun r s' => r = .ok (.ret (.bool true)) ∧ OldK s₁.heap s'.heap ∧ s'.os = s₁.os ∧ AllBare s'.gens) s₁ := by
  have rv := vals_ints hi
  have lenV := hi.length
  have core : ∀ H : Hp, Only H → SqL K H a (ns.map V.int) → HOk P w H s₁.heap → (∀ b, H b ≠ none → b = a) →
      (H a ≠ none → K.lookup a = none) → codeAny (model P w) callerA (.call (.ref fa) ⟨[.ref a], []⟩)
      (fun r s' => r = .ok (.ret (.bool true)) ∧ OldK s₁.heap s'.heap ∧ s'.os = s₁.os ∧ AllBare s'.gens) s₁ := by
    intro H hO hS hok hA hK
    have eqa : ∀ {b : Addr} {u : HO}, H b = some u → b = a := fun {b u} q => hA b (by rw [q]; simp)
    have noA : ∀ {b : Addr} {o : Obj} {es : Array DictEntry} {ep : Nat}, s₁.heap.get? b = some o → o.data = .dict es ep → H b = none := by
      intro b o es ep e d
      cases q : H b with
      | none => rfl
      | some u =>
        obtain rfl := eqa q
        rw [ha] at e
        cases e
        cases (show Data.seq vs.toArray _ = Data.dict es ep from d)
    have nsK : ∀ {b : Addr} {m : Str → Option Value}, s₁.heap.Ns b m → (hidT s₁.heap H).Ns b m := by
      rintro b m ⟨o, es, ep, e, d, r⟩
      exact ⟨o, es, ep, hidT_get e (noA e d), d, r⟩
    have hKb : K.In (hidT s₁.heap H) := by
      intro b o e
      refine hidT_get (KX b o e) ?_
      cases q : H b with
      | none => rfl
      | some u =>
        obtain rfl := eqa q
        rw [hK (by rw [q]; simp)] at e
        cases e
    have hM : Mod K mg (hidT s₁.heap H) := by
      obtain ⟨mc, h1, h2⟩ := hlim
      exact ⟨hKb, nsK hns, ⟨mb, nsK hb, hbb⟩, ⟨mc, nsK h1, h2⟩⟩
    have e0 : Env0 P w K mg (hidT s₁.heap H) callerA [] s₁ H :=
      ⟨rfl, hM, fun b o e => of_hidT e, Nat.le_of_eq (hidT_size _ _), trivial, fun b hb => (List.not_mem_nil hb).elim, hok, .of_eq hg⟩
    have run := (F _ hKb (nsK hns)).go callerA [] s₁ H ⟨[.ref a], []⟩ [.ref a] [.ref a] _ _ hr rfl e0 (hbind s₁ (.ref a)) (.cons rfl .nil) (hsp H hO hS)
    apply codeAny_mono run
    intro r s' h
    cases r with
    | error e => exact (hCX H e s' h).elim
    | ok fl => cases fl with
      | next => exact h.elim
      | brk => exact h.elim
      | cont => exact h.elim
      | ret u =>
        obtain ⟨v, H', os, bare, un, hok', r', q⟩ := h
        obtain rfl : v = .bl true := q
        obtain rfl : u = Value.bool true := r'
        refine ⟨rfl, OldK.of_keep ?_, os, bare⟩
        intro b o e
        cases q : H b with
        | none => exact un.keep b o e q (fun z => (List.not_mem_nil z).elim) (fun z => (List.not_mem_nil z).elim)
        | some u =>
          rcases hO b with z | ⟨ob, xs, z⟩
          · rw [q] at z
            cases z
          · have z1 := (hok b _ z).1
            rw [e] at z1
            cases z1
            exact (hok' b _ (un.frzs b _ _ z)).1
  cases hk : K.lookup a with
  | some o =>
    have e := KX a o hk
    rw [ha] at e
    cases e
    refine core (fun _ => none) (fun _ => Or.inl rfl) (Or.inr ⟨_, vs.toArray, _, hk, rfl, rfl, rfl, ?_, ?_⟩) (fun b u z => nomatch z) (fun b z => (z rfl).elim) (fun z => (z rfl).elim)
    · rw [List.size_toArray, lenV]
      exact hl
    · simpa using rv
  | none =>
    let o : Obj := { cls := .type "list", data := .seq vs.toArray }
    refine core (fun b => if b = a then some (.frz o (.lst (ns.map V.int))) else none) ?_ (Or.inl (Or.inr ⟨o, if_pos rfl⟩)) ?_ ?_ (fun _ => hk)
    · intro b
      by_cases hb : b = a
      · exact Or.inr ⟨_, _, if_pos hb⟩
      · exact Or.inl (if_neg hb)
    · intro b u z
      by_cases hb : b = a
      · subst hb
        have z' := (if_pos rfl).symm.trans z
        cases z'
        exact ⟨ha, by rw [List.length_map]; exact hl, vs, _, rv, ha⟩
      · cases (if_neg hb).symm.trans z
    · intro b z
      by_cases hb : b = a
      · exact hb
      · exact (z (if_neg hb)).elim
/-- what k_head leaves, from the law's promise -/
theorem walkG {l : PySem.W.OpenLaw} {n k : Nat} {q : Program} {loose : List Str} {XP : (Str → Option Value) → Heap → Prop} {YP : World → Heap → Prop} {d : DefRec} {K : Params → PySem.W.Frag} {CX : World → CXT} {sp : World → Sp} {x : Str}
    (hn : l.most = some n) (hn2 : n ≤ sizeLine) (hdf : d.params.defaults = []) (hr : Room k callerA)
    (hY : ∀ (w : World) (h : Heap), YP w h → (K w.params).In h)
    (F : ∀ (w : World) (mg : Str → Option Value) (fa : Addr) (h : Heap), (K w.params).In h → h.Ns mainGlobals mg → mg d.name = some (.ref fa) →
      ∃ fd : FuncData, (∀ (s : Shared) (u : Value), BindsTo s fd ⟨[u], []⟩ [(x, u)]) ∧
        ∀ base : Heap, (K w.params).In base → base.Ns mainGlobals mg → Fg l.prog w (K w.params) mg base (CX w) k fa fd [x] (sp w))
    (hsp : ∀ (w : World) (H : Hp) (a : Addr) (ns : List Int), ns.length ≤ n → Only H → SqL (K w.params) H a (ns.map V.int) → sp w [.ref a] H (fun v _ => v = .bl true) fun _ _ _ => False)
    (hCX : ∀ (w : World) (H : Hp) (s : Shared) (e : Value) (s' : Shared), CX w [] H s (fun _ _ _ => False) e s' → False) :
    PySem.W.WalkO q loose XP YP l.row.toRowW d [] (fun f vs => PySem.call f vs) := by
  refine Att.attach_call hn hdf ?_
  intro w s₀ s₁ mg mb fa o pm cd doc a vs ns GG Y ho hd hcd hmg hobj hints hlen hg
  have KX := hY w _ Y
  obtain ⟨fd, hb, hF⟩ := F w mg fa _ KX GG.T.g hmg
  exact law_end KX GG.T.g GG.T.b GG.T.builtins GG.T.nolimit hg hobj hints (Nat.le_trans hlen hn2) hr hF hb (fun H hO hS => hsp w H a ns hlen hO hS) (fun H e s' => hCX w H s₁ e s')
end G


namespace G
open PySem PySem.Spec PyProof.Rows L2
/-- a def stands under its name -/
def At (K : PySem.W.Frag) (mg : Str → Option Value) (x : Str) (st : Stmt) : Prop :=
  ∃ (f : Addr) (fd : FuncData), Fun K x x st f fd ∧ mg x = some (.ref f)
/-- .. and keeps a promise -/
structure Has0 (P : Program) (w : World) (K : PySem.W.Frag) (mg : Str → Option Value) (base : Heap) (CX : CXT)
    (x : Str) (st : Stmt) (ps : List Str) (k : Nat) (sp : Sp) (f : Addr) (fd : FuncData) : Prop where
  fn : Fun K x x st f fd
  at_ : mg x = some (.ref f)
  bi : Binds K fd ps []
  ok : Fg P w K mg base CX k f fd ps sp
def Has (P : Program) (w : World) (K : PySem.W.Frag) (mg : Str → Option Value) (base : Heap) (CX : CXT)
    (x : Str) (st : Stmt) (ps : List Str) (k : Nat) (sp : Sp) : Prop := ∃ f fd, Has0 P w K mg base CX x st ps k sp f fd
theorem at_mk {K : PySem.W.Frag} {h : Heap} {mg : Str → Option Value} {x : Str} {st : Stmt} {f : Addr} {oc : Value} {od an : Option Addr} {osl : Array (Option Value)} {kV doc pm cdv ct : Value}
    (X : K.In h) (G : h.Ns mainGlobals mg) (a : PySem.W.nsIn K mainGlobals x = some (some (.ref f)))
    (l : K.lookup f = some ⟨oc, od, .func (PySem.W.fnOf x x (defArgs st) (defBody st) (defScope st) .none kV doc pm an cdv ct), osl⟩)
    (c : PySem.W.codeIn K cdv x = true) (k : PySem.W.keepIn K (.ref f) = true) : At K mg x st :=
  ⟨f, _, fun_mk (st := st) l c k, PySem.W.mg_of X G a⟩
section
variable {P : Program} {w : World} {K : PySem.W.Frag} {mg : Str → Option Value} {base : Heap}
theorem has_mk {x : Str} {st : Stmt} {N ps : List Str} {k : Nat} {sp : Sp} (D : At K mg x st)
    (S : FnScope N ps (defScope st)) (len : ∀ vs H Q E, sp vs H Q E → vs.length = ps.length)
    (hbi : ∀ (kV doc pm : Value) (an : Option Addr) (cdv ct : Value) (us : List Value), us.length = ps.length →
      bindArgs (PySem.W.fnOf x x (defArgs st) (defBody st) (defScope st) .none kV doc pm an cdv ct) ⟨us, []⟩ = pure (ps.zip us))
    (hb : ∀ (f : Addr) (cdv : Value) (A : Around) (outer : List Env) (s : Shared) (H : Hp) (vs : List V) (Q : VK) (E : XK),
      Room k (A.deeper (envOfC x (defScope st) s.heap.objs.size f cdv)) → Gd (A.deeper (envOfC x (defScope st) s.heap.objs.size f cdv)) →
      sp vs H Q E → ∃ t, PSs (cxOf CX0 P w K mg base N x (defScope st) f cdv A outer s H E).nox (defBody st) t ∧
        t { nx := fun _ H' => Q .non H', rt := Q } (start N vs) H) :
    Has P w K mg base CX0 x st ps (k + 1) sp := by
  obtain ⟨f, fd, F, hm⟩ := D
  exact ⟨f, fd, F, hm, F.binds hbi, ok0 F S len fun cdv A outer s H vs Q E hr hg h => hb f cdv A outer s H vs Q E hr hg h⟩
end
section
variable {X : Cx} {k : Nat} {st : Stmt} {ps : List Str} {sp : Sp} {x : Str} {p pos : Pos} {e : Expr} {es : List Expr} {t : TA} {kws : List Keyword} {tk : TA}
theorem peH (h : Has X.prog X.w X.K X.mg X.base CX0 x st ps k sp) (hr : Room k X.A) (hgd : Gd X.A) (hg : Gl X x)
    (ha : PA X (e :: es) t) (hdb : (x == ("__debug__" : Str)) = false := by decide)
    (he : starEach (e :: es) X.env = (false, eval e X.env) :: starEach es X.env := by rfl)
    (hpl : (backTo pos (starEach es X.env)).any (·.1) = false := by rfl) :
    PE X (.Call (.Name x p) (e :: es) [] pos) (tCall sp [] E0 t) := by
  obtain ⟨f, fd, h⟩ := h
  exact peC h.ok hr hgd hg h.at_ h.fn.kp h.bi .nil pass0 ha hdb he hpl
theorem peH0 (h : Has X.prog X.w X.K X.mg X.base CX0 x st ps k sp) (hr : Room k X.A) (hgd : Gd X.A) (hg : Gl X x)
    (hdb : (x == ("__debug__" : Str)) = false := by decide) : PE X (.Call (.Name x p) [] [] pos) (tCall sp [] E0 tNil) := by
  obtain ⟨f, fd, h⟩ := h
  exact peC0 h.ok hr hgd hg h.at_ h.fn.kp h.bi .nil pass0 hdb
/-- by keywords alone: the def's own parameters in their order -/
def HasZ (P : Program) (w : World) (K : PySem.W.Frag) (mg : Str → Option Value) (base : Heap) (CX : CXT)
    (x : Str) (st : Stmt) (ps ks : List Str) (k : Nat) (sp : Sp) (g : List Value → List Value) (gV : List V → List V) : Prop :=
  ∃ f fd, Has0 P w K mg base CX x st ps k sp f fd ∧ BindsK K fd ps ks g gV
theorem peHZ {ks : List Str} {g : List Value → List Value} {gV : List V → List V}
    (h : HasZ X.prog X.w X.K X.mg X.base CX0 x st ps ks k sp g gV) (hr : Room k X.A) (hgd : Gd X.A) (hg : Gl X x)
    (hkw : PK X kws tk) (hall : (backToKw pos (keywordEach kws X.env)).all (·.1.isSome) = true := by rfl)
    (hks : (backToKw pos (keywordEach kws X.env)).filterMap (·.1) = ks := by rfl)
    (hdb : (x == ("__debug__" : Str)) = false := by decide)
    (hpl : ((backTo pos (starEach [] X.env)).any (·.1) || (backToKw pos (keywordEach kws X.env)).any (·.1.isNone)) = false := by rfl) :
    PE X (.Call (.Name x p) [] kws pos) (tCallZ sp gV E0 tk) := by
  obtain ⟨f, fd, h, hb⟩ := h
  exact peZ h.ok hr hgd hg h.at_ h.fn.kp hb pass0 hkw hall hks hdb hpl
theorem Has.z {P : Program} {w : World} {K : PySem.W.Frag} {mg : Str → Option Value} {base : Heap} {CX : CXT} {ks : List Str} {g : List Value → List Value} {gV : List V → List V}
    (h : Has P w K mg base CX x st ps k sp)
    (hb : ∀ (kV doc pm : Value) (an : Option Addr) (cdv ct : Value) (ws : List Value), (g ws).length = ps.length →
      bindArgs (PySem.W.fnOf x x (defArgs st) (defBody st) (defScope st) .none kV doc pm an cdv ct) ⟨[], ks.zip ws⟩ = pure (ps.zip (g ws)))
    (hr : ∀ {zs : List V} {ws : List Value}, Vals zs ws → Vals (gV zs) (g ws)) : HasZ P w K mg base CX x st ps ks k sp g gV := by
  obtain ⟨f, fd, h⟩ := h
  refine ⟨f, fd, h, ?_, hr⟩
  obtain ⟨oc, od, kV, doc, pm, an, cdv, ct, osl, rfl, lk, hcd⟩ := h.fn.ex
  intro s ws _ hl
  exact BindsTo.of_eq (hb kV doc pm an cdv ct ws hl)
end

section
variable {X : Cx} {x : Str} {pos : Pos}
/-- a module's text, int -/
theorem pe_gS {z : Str} (hg : Gl X x) (h : ∃ t, X.mg x = some (.str z t)) (hd : (x == ("__debug__" : Str)) = false := by decide) : PE X (.Name x pos) (tC (.str z)) := by
  obtain ⟨t, h⟩ := h
  exact pe_glob hg h ⟨t, rfl⟩ hd
theorem pe_gI {i : Int} (hg : Gl X x) (h : ∃ t, X.mg x = some (.int i t)) (hd : (x == ("__debug__" : Str)) = false := by decide) : PE X (.Name x pos) (tC (.int i)) := by
  obtain ⟨t, h⟩ := h
  exact pe_glob hg h ⟨t, rfl⟩ hd
end

/-! ### heaps that change at some places alone -/
/-- all that stood outside M stands as it stood -/
def Rx (M : List Addr) (H H' : Hp) : Prop := ∀ a o, a ∉ M → H a = some o → H' a = some o
theorem Rx.refl {M : List Addr} (H : Hp) : Rx M H H := fun _ _ _ h => h
theorem Rx.trans {M : List Addr} {H H1 H2 : Hp} (a : Rx M H H1) (b : Rx M H1 H2) : Rx M H H2 := fun x o n h => b x o n (a x o n h)
theorem Rx.mono {M M' : List Addr} {H H1 : Hp} (a : Rx M H H1) (h : ∀ x ∈ M, x ∈ M') : Rx M' H H1 := fun x o n e => a x o (fun z => n (h x z)) e
theorem Rx.new {M : List Addr} {H : Hp} {p : Addr} {o : HO} (h : H p = none) : Rx M H (upd H p o) := fun a u _ e => by
  rw [upd_ne (ne_of_none e h)]
  exact e
theorem Rx.put {M : List Addr} {H : Hp} {p : Addr} {o : HO} (h : p ∈ M) : Rx M H (upd H p o) := fun a u n e => by
  have ne : a ≠ p := fun z => n (by rw [z]; exact h)
  rw [upd_ne ne]
  exact e
/-- something new, changed -/
theorem Rx.own {M : List Addr} {H H1 : Hp} {p : Addr} {o : HO} (r : Rx M H H1) (h : H p = none) : Rx M H (upd H1 p o) := fun a u n e => by
  rw [upd_ne (ne_of_none e h)]
  exact r a u n e
theorem Rx.same {M : List Addr} {H H1 : Hp} (r : Same H H1) : Rx M H H1 := fun a o _ h => r a o h
theorem Rx.toSame {H H1 : Hp} (r : Rx [] H H1) : Same H H1 := fun a o h => r a o List.not_mem_nil h
theorem Rx.sql {M : List Addr} {K : PySem.W.Frag} {H H' : Hp} {a : Addr} {xs : List V} (r : Rx M H H') (n : a ∉ M) (h : SqL K H a xs) : SqL K H' a xs := by
  rcases h with (h | ⟨o, h⟩) | h
  · exact .inl (.inl (r _ _ n h))
  · exact .inl (.inr ⟨o, r _ _ n h⟩)
  · exact .inr h
theorem Rx.sqt {M : List Addr} {K : PySem.W.Frag} {H H' : Hp} {a : Addr} {xs : List V} (r : Rx M H H') (n : a ∉ M) (h : SqT K H a xs) : SqT K H' a xs := by
  rcases h with (h | ⟨o, h⟩) | h
  · exact .inl (.inl (r _ _ n h))
  · exact .inl (.inr ⟨o, r _ _ n h⟩)
  · exact .inr h
theorem Rx.free {M : List Addr} {H H' : Hp} {a : Addr} (r : Rx M H H') (n : a ∉ M) (h : H' a = none) : H a = none := by
  cases q : H a with
  | none => rfl
  | some o => rw [r a o n q] at h; cases h
/-- the drawing list: a state, digits, a count -/
def Dr (p : Addr) (H : Hp) : Prop := ∃ s d c : Int, H p = some (.lst [.int s, .int d, .int c]) ∧ 0 ≤ s ∧ s < 2147483587 ∧ 0 ≤ d
theorem Dr.get {p : Addr} {H H' : Hp} {M : List Addr} (r : Rx M H H') (n : p ∉ M) (h : Dr p H) : Dr p H' := by
  obtain ⟨s, d, c, e, h⟩ := h
  exact ⟨s, d, c, r _ _ n e, h⟩
/-- a roll below n, from 1 on -/
def spRoll : Sp := fun vs H Q _ => ∃ (p : Addr) (n : Int), vs = [.ref p, .int n] ∧ Dr p H ∧ 0 < n ∧ n < 1073741824 ∧
  ∀ (i : Int) (H' : Hp), 0 ≤ i → i < n → Rx [p] H H' → Dr p H' → Q (.int i) H'
end G


namespace G
open PySem PySem.Spec PyProof.Rows L2
/-! ### readings with names -/
abbrev RC := List V → Hp → VK → Prop
def rInt1 : RC := fun xs H Q => (∃ i, xs = [.int i] ∧ Q (.int i) H) ∨ ∃ k, xs = [.bl k] ∧ Q (.int (if k then 1 else 0)) H
def rAbs : RC := fun xs H Q => ∃ i, xs = [.int i] ∧ Q (.int (if i < 0 then -i else i)) H
def rMax2 : RC := fun xs H Q => ∃ i j, xs = [.int i, .int j] ∧ Q (.int (if j > i then j else i)) H
def rMin2 : RC := fun xs H Q => ∃ i j, xs = [.int i, .int j] ∧ Q (.int (if j < i then j else i)) H
def rStrI : RC := fun xs H Q => ∃ i, xs = [.int i] ∧ i.natAbs.log2 < 1920 ∧ Q (.str (toString i)) H
def rLen (K : PySem.W.Frag) : RC := fun xs H Q => ∃ x n, xs = [x] ∧ LenV K x H n ∧ Q (.int n) H
def rTupOf (K : PySem.W.Frag) : RC := fun xs H Q => ∃ p ys, xs = [.ref p] ∧ ((SqL K H p ys ∧ ∀ l, H l = none → Q (.ref l) (upd H l (.tup ys))) ∨ (SqT K H p ys ∧ Q (.ref p) H))
def rLstOf (K : PySem.W.Frag) : RC := fun xs H Q => ∃ p ys, xs = [.ref p] ∧ (SqL K H p ys ∨ SqT K H p ys) ∧ ∀ l, H l = none → Q (.ref l) (upd H l (.lst ys))
def rRepr (K : PySem.W.Frag) : RC := fun xs H Q => ∃ (a : Addr) (d : PyData), xs = [.ref a] ∧ Dp K H (.ref a) d ∧ d.showable = true ∧ d.hasDict = false ∧ d.depth ≤ 60 ∧ d.shown.length ≤ sizeLine ∧ Q (.str d.shown) H
def rSign : R2 := fun x y H Q => ∃ (c : Nat) (z : Str), x = .str ⟨#[c]⟩ ∧ y = .str z ∧ Q (.bl (decide (c ∈ z.cps.toList))) H
def rAddS : R2 := fun x y H Q => ∃ i j, x = .str i ∧ y = .str j ∧ i.length + j.length ≤ sizeLine ∧ Q (.str (i ++ j)) H
def rLtS : R2 := fun x y H Q => ∃ i j : Str, x = .str i ∧ y = .str j ∧ Q (.bl (decide (i.cps.toList < j.cps.toList))) H
section
variable {X : Cx}
theorem c_int1 : CallR X (.type "int") rInt1 := call_int1
theorem c_abs : CallR X (.builtin "abs") rAbs := call_abs
theorem c_max2 (hc : X.calm = true) : CallR X (.builtin "max") rMax2 := call_max2 hc
theorem c_min2 (hc : X.calm = true) : CallR X (.builtin "min") rMin2 := call_min2 hc
theorem c_strI : CallR X (.type "str") rStrI := call_str_int
theorem c_len : CallR X (.builtin "len") (rLen X.K) := call_len
theorem c_tupOf : CallR X (.type "tuple") (rTupOf X.K) := call_tuple_of
theorem c_lstOf : CallR X (.type "list") (rLstOf X.K) := call_list_of
theorem c_repr (hgd : Gd X.A) (hu : X.A.units + 64 < cLine) : CallR X (.builtin "repr") (rRepr X.K) := cr_repr hgd hu
theorem o_sign : OpR X (compareOp .In) rSign := op_in_sign
theorem o_addS : OpR X (binaryOp .Add) rAddS := op_add_str
theorem o_ltS : OpR X (compareOp .Lt) rLtS := op_lt_str
end
/-! ### one step of a reading -/
section
variable {K : PySem.W.Frag} {σ : L2.St} {H : Hp} {Q : VK} {QB : Bool → Hp → Prop} {QA : List V → Hp → Prop} {D : Ends} {t u : TS} {te ta tb tc : TE} {tt uu : TT} {tr tx : TA} {g : TG} {r r' : R2} {rc : RC} {v x y : V} {i j : Int} {n : Nat}
theorem s_seq (h : t { D with nx := u D } σ H) : tSeq t u D σ H := h
theorem s_next (h : D.nx σ H) : tNext D σ H := h
theorem s_asg (h : te σ H fun x H1 => g x σ H1 D.nx) : tAsg te g D σ H := h
theorem s_par {a b : Nat} (h : tr σ H fun vs H1 => ∃ v w, vs = [v, w] ∧ D.nx ((σ.set a (some v)).set b (some w)) H1) : tPar a b tr D σ H := h
theorem s_par2 {a b : Nat} {v w : V} {N : L2.St → Hp → Prop} (h : N ((σ.set a (some v)).set b (some w)) H) : ∃ v' w', [v, w] = [v', w'] ∧ N ((σ.set a (some v')).set b (some w')) H := ⟨v, w, rfl, h⟩
theorem s_ret (h : te σ H D.rt) : tRet te D σ H := h
theorem s_retN (h : D.rt .non H) : tRetN D σ H := h
theorem s_if (h : tt σ H fun b H1 => if b = true then t D σ H1 else u D σ H1) : tIfS tt t u D σ H := h
theorem s_drop (h : te σ H fun _ H1 => D.nx σ H1) : tDrop te D σ H := h
theorem s_gn {P : L2.St → Hp → Prop} (h : P (σ.set n (some v)) H) : gName n v σ H P := h
theorem s_gsub {to ti : TE} {st : TSet} {P : L2.St → Hp → Prop} (h : to σ H fun o H1 => ti σ H1 fun i H2 => st o i v H2 fun H3 => P σ H3) : gSub to ti st v σ H P := h
theorem s_var (e : σ[n]? = some (some v)) (h : Q v H) : tVar n σ H Q := ⟨v, e, h⟩
theorem s_c (h : Q v H) : tC v σ H Q := h
theorem s_op (h : ta σ H fun x H1 => tb σ H1 fun y H2 => r x y H2 Q) : tOp r ta tb σ H Q := h
theorem s_un {ru : V → Hp → VK → Prop} (h : ta σ H fun x H1 => ru x H1 Q) : tUn ru ta σ H Q := h
theorem s_test (h : te σ H fun x H' => ∃ k, x = .bl k ∧ QB k H') : tTest te σ H QB := h
theorem s_tB (h : te σ H fun x H' => ∃ k, x = .bl k ∧ QB k H') : tB te σ H QB := h
theorem s_bl {b : Bool} (h : QB b H) : ∃ k, V.bl b = .bl k ∧ QB k H := ⟨b, rfl, h⟩
theorem s_and (h : tt σ H fun c H1 => if c = true then uu σ H1 QB else QB false H1) : tAnd tt uu σ H QB := h
theorem s_or (h : tt σ H fun c H1 => if c = true then QB true H1 else uu σ H1 QB) : tOr tt uu σ H QB := h
theorem s_not (h : tt σ H fun c H1 => QB (!c) H1) : tNot tt σ H QB := h
theorem s_andV (h : ta σ H fun x H1 => ∃ c, x = .bl c ∧ if c = true then tb σ H1 Q else Q (.bl false) H1) : tAndV ta tb σ H Q := h
theorem s_orV (h : ta σ H fun x H1 => ∃ c, x = .bl c ∧ if c = true then Q (.bl true) H1 else tb σ H1 Q) : tOrV ta tb σ H Q := h
theorem s_notV (h : ta σ H fun x H1 => ∃ c, x = .bl c ∧ Q (.bl (!c)) H1) : tNotV ta σ H Q := h
theorem s_ifE (h : tt σ H fun c H1 => if c = true then ta σ H1 Q else tb σ H1 Q) : tIf tt ta tb σ H Q := h
theorem s_chain (h : ta σ H fun x H1 => tb σ H1 fun y H2 => r x y H2 fun z H3 => ∃ k, z = .bl k ∧ (if k = true then tc σ H3 fun w' H4 => r' y w' H4 Q else Q (.bl false) H3)) : tChain r r' ta tb tc σ H Q := h
theorem s_nil (h : QA [] H) : tNil σ H QA := h
theorem s_cons (h : te σ H fun x H1 => tr σ H1 fun xs H2 => QA (x :: xs) H2) : tCons te tr σ H QA := h
theorem s_cb (h : tr σ H fun vs H1 => rc vs H1 Q) : tCB rc tr σ H Q := h
theorem s_call {sp : Sp} (h : tr σ H fun vs H1 => sp (vs ++ []) H1 Q E0) : tCall sp [] E0 tr σ H Q := h
theorem s_callZ {sp : Sp} {gV : List V → List V} (h : tr σ H fun vs H1 => sp (gV vs) H1 Q E0) : tCallZ sp gV E0 tr σ H Q := h
/-- a new object: the heap behind it by what is known of it -/
theorem s_new {o : HO} {P : Addr → Hp → Prop} (h : ∀ p H', H p = none → Same H H' → H' p = some o → P p H') : ∀ p, H p = none → P p (upd H p o) := fun p hp =>
  h p _ hp (fun a u e => by rw [upd_ne (ne_of_none e hp)]; exact e) upd_same
theorem s_lst (h : tr σ H fun xs H1 => xs.length ≤ sizeLine ∧ ∀ p H', H1 p = none → Same H1 H' → H' p = some (.lst xs) → Q (.ref p) H')
    (mono : ∀ P P' : List V → Hp → Prop, (∀ xs H, P xs H → P' xs H) → tr σ H P → tr σ H P') : tLst tr σ H Q :=
  mono _ _ (fun xs H1 q => ⟨q.1, s_new (P := fun p H' => Q (.ref p) H') q.2⟩) h
/-- a new object for Q -/
def Mk (o : HO) (H : Hp) (Q : VK) : Prop := ∀ p, H p = none → Q (.ref p) (upd H p o)
theorem s_mk {o : HO} (h : ∀ p H', H p = none → Same H H' → H' p = some o → Q (.ref p) H') : Mk o H Q := s_new (P := fun p H' => Q (.ref p) H') h
theorem s_lst' (h : tr σ H fun xs H1 => xs.length ≤ sizeLine ∧ Mk (.lst xs) H1 Q) : tLst tr σ H Q := h
theorem s_tup' (h : tr σ H fun xs H1 => xs.length ≤ sizeLine ∧ Mk (.tup xs) H1 Q) : tTup tr σ H Q := h
theorem s_sz {n : Nat} {B : Prop} (hn : n ≤ sizeLine) (h : B) : n ≤ sizeLine ∧ B := ⟨hn, h⟩
theorem s_I0 {g : Int → Int → V} (h : Q (g i j) H) : rI0 g (.int i) (.int j) H Q := ⟨i, j, rfl, rfl, h⟩
theorem s_I {C : Int → Int → Prop} {g : Int → Int → V} (c : C i j) (h : Q (g i j) H) : rI C g (.int i) (.int j) H Q := ⟨i, j, rfl, rfl, c, h⟩
theorem s_U {g : Int → V} (h : Q (g i) H) : rU g (.int i) H Q := ⟨i, rfl, h⟩
theorem s_eq (e : scal x y = true) (h : Q (.bl (decide (x = y))) H) : rEq x y H Q := ⟨e, h⟩
theorem s_ne (e : scal x y = true) (h : Q (.bl (!decide (x = y))) H) : rNe x y H Q := ⟨e, h⟩
theorem s_int1 (h : Q (.int i) H) : rInt1 [.int i] H Q := .inl ⟨i, rfl, h⟩
theorem s_abs (h : Q (.int (if i < 0 then -i else i)) H) : rAbs [.int i] H Q := ⟨i, rfl, h⟩
theorem s_max2 (h : Q (.int (if j > i then j else i)) H) : rMax2 [.int i, .int j] H Q := ⟨i, j, rfl, h⟩
theorem s_min2 (h : Q (.int (if j < i then j else i)) H) : rMin2 [.int i, .int j] H Q := ⟨i, j, rfl, h⟩
theorem s_strI (c : i.natAbs.log2 < 1920) (h : Q (.str (toString i)) H) : rStrI [.int i] H Q := ⟨i, rfl, c, h⟩
theorem s_lenS {z : Str} (c : z.length ≤ sizeLine) (h : Q (.int z.length) H) : rLen K [.str z] H Q := ⟨_, z.length, rfl, ⟨c, rfl⟩, h⟩
theorem s_lenL {p : Addr} {xs : List V} (c : SqL K H p xs) (h : Q (.int xs.length) H) : rLen K [.ref p] H Q := ⟨_, xs.length, rfl, .inl ⟨xs, c, rfl⟩, h⟩
theorem s_lenT {p : Addr} {xs : List V} (c : SqT K H p xs) (h : Q (.int xs.length) H) : rLen K [.ref p] H Q := ⟨_, xs.length, rfl, .inr ⟨xs, c, rfl⟩, h⟩
theorem s_tupL {p : Addr} {xs : List V} (c : SqL K H p xs) (h : ∀ p H', H p = none → Same H H' → H' p = some (.tup xs) → Q (.ref p) H') : rTupOf K [.ref p] H Q := ⟨p, xs, rfl, .inl ⟨c, s_new (P := fun p H' => Q (.ref p) H') h⟩⟩
theorem s_ixL {p : Addr} {xs : List V} (c : SqL K H p xs) (a : atI xs i = some v) (h : Q v H) : rIxL K (.ref p) (.int i) H Q := ⟨p, xs, i, v, rfl, rfl, c, a, h⟩
theorem s_ixT {p : Addr} {xs : List V} (c : SqT K H p xs) (a : atI xs i = some v) (h : Q v H) : rIxT K (.ref p) (.int i) H Q := ⟨p, xs, i, v, rfl, rfl, c, a, h⟩
theorem s_ixS {z : Str} {c : Nat} (l : z.length ≤ sizeLine) (a : atI z.cps.toList i = some c) (h : Q (.str ⟨#[c]⟩) H) : rIxS (.str z) (.int i) H Q := ⟨z, i, c, rfl, rfl, l, a, h⟩
theorem s_setL {p : Addr} {xs : List V} {k : Nat} {P : Hp → Prop} (e : H p = some (.lst xs)) (a : ixN xs.length i = some k) (h : P (upd H p (.lst (xs.set k v)))) : rSetL (.ref p) (.int i) v H P := ⟨p, xs, i, k, rfl, rfl, e, a, h⟩
theorem s_addS {a b : Str} (c : a.length + b.length ≤ sizeLine) (h : Q (.str (a ++ b)) H) : rAddS (.str a) (.str b) H Q := ⟨a, b, rfl, rfl, c, h⟩
theorem s_ltS {a b : Str} (h : Q (.bl (decide (a.cps.toList < b.cps.toList))) H) : rLtS (.str a) (.str b) H Q := ⟨a, b, rfl, rfl, h⟩
theorem s_sign {c : Nat} {z : Str} (h : Q (.bl (decide (c ∈ z.cps.toList))) H) : rSign (.str ⟨#[c]⟩) (.str z) H Q := ⟨c, z, rfl, rfl, h⟩
theorem s_cat {p q : Addr} {xs ys : List V} (a : H p = some (.lst xs)) (b : H q = some (.lst ys)) (c : xs.length + ys.length ≤ sizeLine)
    (h : ∀ p H', H p = none → Same H H' → H' p = some (.lst (xs ++ ys)) → Q (.ref p) H') : rCat (.ref p) (.ref q) H Q := ⟨p, q, xs, ys, rfl, rfl, a, b, c, s_new (P := fun p H' => Q (.ref p) H') h⟩
theorem s_sl {rs : V → Option Int → Option Int → Hp → VK → Prop} {tl th : TO} (h : te σ H fun x H1 => tl σ H1 fun l H2 => th σ H2 fun u H3 => rs x l u H3 Q) : L2.tSl rs te tl th σ H Q := h
theorem s_noP {QO : Option Int → Hp → Prop} (h : QO none H) : tNoPart σ H QO := h
theorem s_part {QO : Option Int → Hp → Prop} (h : te σ H fun x H1 => ∃ i, x = .int i ∧ QO (some i) H1) : tPart te σ H QO := h
theorem s_pi {QO : Option Int → Hp → Prop} (h : QO (some i) H) : ∃ k, V.int i = .int k ∧ QO (some k) H := ⟨i, rfl, h⟩
theorem s_slL {p : Addr} {xs : List V} {lo hi : Option Int} (c : SqL K H p xs) (h : ∀ p H', H p = none → Same H H' → H' p = some (.lst (cutV xs lo hi)) → Q (.ref p) H') : rSlL K (.ref p) lo hi H Q := ⟨p, xs, rfl, c, s_new (P := fun p H' => Q (.ref p) H') h⟩
theorem s_slS {z : Str} {lo hi : Option Int} (l : z.length ≤ sizeLine) (h : Q (.str (cutS z lo hi)) H) : rSlS (.str z) lo hi H Q := ⟨z, rfl, l, h⟩
def rRevL (K : PySem.W.Frag) : V → Hp → VK → Prop := fun x H1 Q => ∃ a xs, x = .ref a ∧ SqL K H1 a xs ∧ ∀ p, H1 p = none → Q (.ref p) (upd H1 p (.lst xs.reverse))
theorem s_rev {p : Addr} {xs : List V} (c : SqL K H p xs) (h : ∀ p H', H p = none → Same H H' → H' p = some (.lst xs.reverse) → Q (.ref p) H') : rRevL K (.ref p) H Q := ⟨p, xs, rfl, c, s_new (P := fun p H' => Q (.ref p) H') h⟩
theorem s_revL (h : te σ H fun x H1 => rRevL K x H1 Q) : tRevL K te σ H Q := h
theorem s_for {wi : TI} {tb : TS} (h : wi σ H fun J H1 => ∃ W : Nat → Nat → L2.St → Hp → Prop, (∃ m, W 0 m σ H1) ∧ ∀ i m σ H, W i m σ H →
  (J.stop i H ∧ D.nx σ H) ∨ (J.go i H ∧ ∃ N : L2.St → Hp → Prop, (∀ σ' H', N σ' H' → ∃ m', m' < m ∧ W (i + 1) m' σ' H') ∧ ∀ x H', J.yld i H x H' → g x σ H' fun σ2 H2 => tb { D with nx := N, ct := N, bk := D.nx } σ2 H2)) : tFor wi g tb D σ H := h
theorem s_dnew (h : Mk (.dK []) H Q) : tDNewK σ H Q := h
theorem s_bm {T : String} {ro : V → List V → Hp → VK → Prop} {to : TE} (h : to σ H fun x H1 => tyV K T x H1 ∧ tr σ H1 fun xs H2 => ro x xs H2 Q) : tBM K T ro to tr σ H Q := h
theorem s_tyL {p : Addr} {xs : List V} {B : Prop} (c : SqL K H p xs) (h : B) : tyV K "list" (.ref p) H ∧ B := ⟨.inl ⟨rfl, xs, c⟩, h⟩
theorem s_app {p : Addr} {xs : List V} (e : H p = some (.lst xs)) (c : xs.length < sizeLine) (h : Q .non (upd H p (.lst (xs ++ [y])))) : rAppend (.ref p) [y] H Q := ⟨p, xs, y, rfl, rfl, e, c, h⟩
theorem s_in {p : Addr} {xs : List V} (c : SqL K H p xs) (a : flatV x = true) (b : xs.all flatV = true) (h : Q (.bl (inV x xs)) H) : rIn K false x (.ref p) H Q := ⟨p, xs, rfl, .inl c, a, b, h⟩
theorem s_nin {p : Addr} {xs : List V} (c : SqL K H p xs) (a : flatV x = true) (b : xs.all flatV = true) (h : Q (.bl (!inV x xs)) H) : rIn K true x (.ref p) H Q := ⟨p, xs, rfl, .inl c, a, b, h⟩
theorem s_m1 {ro : V → List V → Hp → VK → Prop} {to : TE} (h : to σ H fun x H1 => (∃ a, x = .str a) ∧ te σ H1 fun y H2 => ro x [y] H2 Q) : tM1 ro to te σ H Q := h
theorem s_isStr {z : Str} {B : Prop} (h : B) : (∃ a, V.str z = .str a) ∧ B := ⟨⟨z, rfl⟩, h⟩
def rJoin (K : PySem.W.Frag) : V → List V → Hp → VK → Prop := fun x xs H Q => ∃ a p, ∃ ys : List Str, x = .str a ∧ xs = [.ref p] ∧ (SqL K H p (ys.map V.str) ∨ SqT K H p (ys.map V.str)) ∧ (ys.map (·.length)).sum + ys.length * a.length ≤ 16777216 ∧ Q (.str (Txt.join a ys)) H
theorem s_join {a : Str} {p : Addr} {ys : List Str} (e : H p = some (.lst (ys.map V.str))) (c : (ys.map (·.length)).sum + ys.length * a.length ≤ 16777216) (h : Q (.str (Txt.join a ys)) H) : rJoin K (.str a) [.ref p] H Q := ⟨a, p, ys, rfl, rfl, .inl (SqL.of e), c, h⟩
/-- bounds on sizes -/
theorem sz1 {n : Nat} (h : n ≤ 1000000) : n ≤ sizeLine := Nat.le_trans h (by decide)
theorem sz2 {n : Nat} (h : n < 1000000) : n < sizeLine := Nat.lt_of_lt_of_le h (by decide)
end
end G


namespace G
open PySem PySem.Spec PyProof.Rows L2
/-! ### rules with the written part named -/
section
variable {X : Cx} (K : PySem.W.Frag) (h : X.K = K := by rfl)
include h
theorem ixL : IxR X (rIxL K) := by subst h; exact ix_list
theorem ixT : IxR X (rIxT K) := by subst h; exact ix_tup
theorem ixQ : IxR X (rIx K) := by subst h; exact ix_seq
theorem inQ : OpR X (compareOp .In) (rIn K false) := by subst h; exact op_in_seq
theorem ninQ : OpR X (compareOp .NotIn) (rIn K true) := by subst h; exact op_notIn_seq
theorem isiK : CallR X (.builtin "isinstance") (rIsi K) := by subst h; exact call_isi
theorem lenK : CallR X (.builtin "len") (rLen K) := by subst h; exact c_len
theorem tupOfK : CallR X (.type "tuple") (rTupOf K) := by subst h; exact c_tupOf
theorem lstOfK : CallR X (.type "list") (rLstOf K) := by subst h; exact c_lstOf
theorem slLK : SlR X (rSlL K) := by subst h; exact sl_list
theorem allK (hc : X.calm = true := by rfl) : CallR X (.builtin "all") (rAll K) := by subst h; exact cr_all hc
theorem anyK (hc : X.calm = true := by rfl) : CallR X (.builtin "any") (rAny K) := by subst h; exact cr_any hc
theorem sumK (hc : X.calm = true := by rfl) : CallR X (.builtin "sum") (rSum K) := by subst h; exact cr_sum hc
theorem sortedSK : CallR X (.builtin "sorted") (rSortedS K) := by subst h; exact cr_sortedS
theorem eqDK (hu : X.A.units + 64 < cLine) : OpR X (compareOp .Eq) (rEqD K) := by subst h; exact op_eqD hu
theorem neDK (hu : X.A.units + 64 < cLine) : OpR X (compareOp .NotEq) (rNeD K) := by subst h; exact op_neD hu
theorem reprK (hgd : Gd X.A) (hu : X.A.units + 64 < cLine) : CallR X (.builtin "repr") (rRepr K) := by subst h; exact c_repr hgd hu
theorem piL {tg e : Expr} {t : TE} (he : PE X e t) : PI X tg e (iList K t) := by subst h; exact pi_list he
theorem piT {tg e : Expr} {t : TE} (he : PE X e t) : PI X tg e (iTup K t) := by subst h; exact pi_tup he
theorem revLK {e : Expr} {te : TE} {k : Nat} {p1 p2 p3 pos : Pos} (he : PE X e te) : PE X (.Subscript e (.Slice none none (some (.UnaryOp .USub (.Constant (.int 1) k p1) p2)) p3) pos) (tRevL K te) := by subst h; exact pe_revL he
theorem appendK {o e : Expr} {to : TE} {t : TA} {apos cpos : Pos} (ho : PE X o to) (ha : PA X [e] t)
    (hbase : attributeBase o "append" X.env (eval o X.env) = eval o X.env := by rfl)
    (hfew : ((backTo cpos (starEach [e] X.env)).all (fun x => !x.1) && (backToKw cpos (keywordEach [] X.env)).all (fun x => x.1.isSome)
      && decide ([e].length + ([] : List Keyword).length + (if ([] : List Keyword).isEmpty then 0 else 1) < 30)) = true := by rfl)
    (hline : (apos.endLine == cpos.line) = true := by rfl) (hs : starEach [e] X.env = (false, eval e X.env) :: starEach [] X.env := by rfl)
    (hplain : (backTo cpos (starEach [] X.env)).any (·.1) = false := by rfl) :
    PE X (.Call (.Attribute o "append" apos) [e] [] cpos) (tBM K "list" rAppend to t) := by
  subst h
  exact pe_bm PySem.F.plainAttrs_list PySem.F.slot_list_append PySem.F.type_list_append mt_append ho ha hbase hfew hline hs hplain
theorem joinK {o e : Expr} {to te : TE} {apos pos : Pos} (ho : PE X o to) (he : PE X e te) (hs : starEach [e] X.env = [(false, eval e X.env)] := by rfl)
    (hbase : attributeBase o "join" X.env (eval o X.env) = eval o X.env := by rfl) (hline : (apos.endLine == pos.line) = true := by rfl) :
    PE X (.Call (.Attribute o "join" apos) [e] [] pos) (tM1 (rJoin K) to te) := by
  subst h
  exact pe_join ho he hs hbase hline
end
end G


namespace G
open PySem PySem.Spec PyProof.Rows L2
/-- text * int -/
def rMulS : R2 := fun x y H Q => ∃ z n, x = .str z ∧ y = .int n ∧ MulOk z n ∧ Q (.str (Txt.mul z n)) H
theorem o_mulS {X : Cx} : OpR X (binaryOp .Mult) rMulS := by
  intro pins s σ H x y v u Q I rx ry h
  obtain ⟨z, n, rfl, rfl, ok, q⟩ := h
  obtain ⟨t, rfl⟩ := rx
  obtain ⟨t', rfl⟩ := ry
  exact SB.mul ok fun t k => ⟨.str _, H, I.tok _, ⟨_, rfl⟩, q⟩
/-- a comprehension over a text -/
theorem lc_str {z : Str} {g : TG} {tt : TT} {te : TE} {vs : List Nat} {σ : L2.St} {H1 : Hp} {D : Addr} {Qd : Hp → Prop} (Pv : Nat → Hp → Prop) (h0 : Pv 0 (upd H1 D (.lst [])))
    (hs : ∀ i c H, z.cps.toList[i]? = some c → Pv i H → g (.str ⟨#[c]⟩) (wipe σ vs) H fun σ2 H2 => wipe σ2 vs = wipe σ vs ∧ tt σ2 H2 fun b H3 =>
      if b = true then te σ2 H3 fun y H4 => ∃ acc, H4 D = some (.lst acc) ∧ acc.length < sizeLine ∧ Pv (i + 1) (upd H4 D (.lst (acc ++ [y]))) else Pv (i + 1) H3)
    (hd : ∀ H, Pv z.cps.size H → Qd H) :
    ∃ W : Nat → Nat → Hp → Prop, (∃ m, W 0 m (upd H1 D (.lst []))) ∧ ∀ i m H, W i m H →
      ((Its z).stop i H ∧ Qd H) ∨ ((Its z).go i H ∧ ∃ Nx : Hp → Prop, (∀ H', Nx H' → ∃ m', m' < m ∧ W (i + 1) m' H') ∧ ∀ x H', (Its z).yld i H x H' → g x (wipe σ vs) H' fun σ2 H2 => wipe σ2 vs = wipe σ vs ∧ tt σ2 H2 fun b H3 =>
        if b = true then te σ2 H3 fun y H4 => ∃ acc, H4 D = some (.lst acc) ∧ acc.length < sizeLine ∧ Nx (upd H4 D (.lst (acc ++ [y]))) else Nx H3) := by
  refine ⟨fun i m H => m = z.cps.size - i ∧ i ≤ z.cps.size ∧ Pv i H, ⟨z.cps.size, by simp, Nat.zero_le _, h0⟩, ?_⟩
  rintro i m H ⟨rfl, hi, p⟩
  by_cases hlt : i < z.cps.size
  · refine .inr ⟨hlt, Pv (i + 1), fun H' p' => ⟨z.cps.size - (i + 1), by omega, rfl, hlt, p'⟩, ?_⟩
    rintro x H' ⟨rfl, c, hc, rfl⟩
    exact hs i c _ (by rw [Array.getElem?_toList]; exact hc) p
  · have e : i = z.cps.size := by omega
    subst e
    exact .inl ⟨Nat.le_refl _, hd H p⟩
/-! ### things of any kind -/
def isS : V → Bool
  | .str _ => true
  | _ => false
def isI : V → Bool
  | .int _ => true
  | _ => false
def isB : V → Bool
  | .bl _ => true
  | _ => false
def tupH : Option HO → Option (List V)
  | some (.tup xs) => some xs
  | _ => none
def tupOf (H : Hp) : V → Option (List V)
  | .ref q => tupH (H q)
  | _ => none
theorem tupOf_ref {H : Hp} {q : Addr} {xs : List V} (h : H q = some (.tup xs)) : tupOf H (.ref q) = some xs := by
  show tupH (H q) = _
  rw [h]
  rfl
/-- all that stood outside A stands as it stood -/
def Ag (A : Addr → Prop) (H H' : Hp) : Prop := ∀ a o, ¬ A a → H a = some o → H' a = some o
/-- what is there -/
def Al (H : Hp) : Addr → Prop := fun a => H a ≠ none
theorem Rx.ag {M : List Addr} {A : Addr → Prop} {H H' : Hp} (r : Rx M H H') (h : ∀ a ∈ M, A a) : Ag A H H' := fun a o n e => r a o (fun z => n (h a z)) e
theorem Same.ag {A : Addr → Prop} {H H' : Hp} (r : Same H H') : Ag A H H' := fun a o _ e => r a o e
/-- a thing of depth n that holds nothing of A -/
def Th (A : Addr → Prop) (H : Hp) : Nat → V → Prop
  | _, .non => True
  | _, .bl _ => True
  | _, .int _ => True
  | _, .str z => z.length ≤ 100000
  | 0, .ref q => ¬ A q ∧ ((∃ xs, H q = some (.lst xs)) ∨ (∃ kvs, H q = some (.dK kvs)) ∨ ∃ xs, H q = some (.tup xs))
  | n + 1, .ref q => ¬ A q ∧ ((∃ xs, H q = some (.lst xs)) ∨ (∃ kvs, H q = some (.dK kvs)) ∨ ∃ xs, H q = some (.tup xs) ∧ xs.length ≤ 100 ∧ ∀ x ∈ xs, Th A H n x)
  | _, _ => False
theorem Th.stab {A : Addr → Prop} {H H' : Hp} (r : Ag A H H') : ∀ {n : Nat} {v : V}, Th A H n v → Th A H' n v := by
  intro n
  induction n with
  | zero =>
    intro v h
    cases v with
    | ref q =>
      obtain ⟨ne, h⟩ := h
      refine ⟨ne, ?_⟩
      rcases h with ⟨xs, h⟩ | ⟨xs, h⟩ | ⟨xs, h⟩
      · exact .inl ⟨xs, r _ _ ne h⟩
      · exact .inr (.inl ⟨xs, r _ _ ne h⟩)
      · exact .inr (.inr ⟨xs, r _ _ ne h⟩)
    | _ => exact h
  | succ n ih =>
    intro v h
    cases v with
    | ref q =>
      obtain ⟨ne, h⟩ := h
      refine ⟨ne, ?_⟩
      rcases h with ⟨xs, h⟩ | ⟨xs, h⟩ | ⟨xs, h, l, a⟩
      · exact .inl ⟨xs, r _ _ ne h⟩
      · exact .inr (.inl ⟨xs, r _ _ ne h⟩)
      · exact .inr (.inr ⟨xs, r _ _ ne h, l, fun x hx => ih (a x hx)⟩)
    | _ => exact h
theorem Th.anti {A A' : Addr → Prop} {H : Hp} (r : ∀ a, A a → A' a) : ∀ {n : Nat} {v : V}, Th A' H n v → Th A H n v := by
  intro n
  induction n with
  | zero =>
    intro v h
    cases v with
    | ref q => exact ⟨fun z => h.1 (r _ z), h.2⟩
    | _ => exact h
  | succ n ih =>
    intro v h
    cases v with
    | ref q =>
      obtain ⟨ne, h⟩ := h
      refine ⟨fun z => ne (r _ z), ?_⟩
      rcases h with h | h | ⟨xs, h, l, a⟩
      · exact .inl h
      · exact .inr (.inl h)
      · exact .inr (.inr ⟨xs, h, l, fun x hx => ih (a x hx)⟩)
    | _ => exact h
theorem Th.down {A : Addr → Prop} {H : Hp} {n : Nat} {v : V} (h : Th A H (n + 1) v) : Th A H 0 v := by
  cases v with
  | ref q =>
    obtain ⟨ne, h⟩ := h
    refine ⟨ne, ?_⟩
    rcases h with h | h | ⟨xs, h, _⟩
    · exact .inl h
    · exact .inr (.inl h)
    · exact .inr (.inr ⟨xs, h⟩)
  | _ => exact h
theorem Th.tup {A : Addr → Prop} {H : Hp} {n : Nat} {q : Addr} {xs : List V} (h : Th A H (n + 1) (.ref q)) (e : H q = some (.tup xs)) : xs.length ≤ 100 ∧ ∀ x ∈ xs, Th A H n x := by
  obtain ⟨ne, h⟩ := h
  rcases h with ⟨ys, h⟩ | ⟨ys, h⟩ | ⟨ys, h, l, a⟩
  · rw [e] at h; cases h
  · rw [e] at h; cases h
  · rw [e] at h; cases h; exact ⟨l, a⟩
/-- what is asked of its type -/
theorem Th.ty {A : Addr → Prop} {H : Hp} {n : Nat} {v : V} (K : PySem.W.Frag) (h : Th A H n v) : ∃ a : String, TyX K H v (.type a) ∧ kitB a "str" = some (isS v) ∧
    kitB a "int" = some (isI v || isB v) ∧ kitB a "bool" = some (isB v) ∧ kitB a "tuple" = some (tupOf H v).isSome := by
  have h0 : Th A H 0 v := by
    cases n with
    | zero => exact h
    | succ n => exact h.down
  cases v with
  | non => exact ⟨"NoneType", .base .non, (show kitB "NoneType" "str" = some false by decide +kernel), (show kitB "NoneType" "int" = some false by decide +kernel), (show kitB "NoneType" "bool" = some false by decide +kernel), (show kitB "NoneType" "tuple" = some false by decide +kernel)⟩
  | bl b => exact ⟨"bool", .base (.bl b), (show kitB "bool" "str" = some false by decide +kernel), (show kitB "bool" "int" = some true by decide +kernel), (show kitB "bool" "bool" = some true by decide +kernel), (show kitB "bool" "tuple" = some false by decide +kernel)⟩
  | int i => exact ⟨"int", .base (.int i), (show kitB "int" "str" = some false by decide +kernel), (show kitB "int" "int" = some true by decide +kernel), (show kitB "int" "bool" = some false by decide +kernel), (show kitB "int" "tuple" = some false by decide +kernel)⟩
  | str x => exact ⟨"str", .base (.str x), (show kitB "str" "str" = some true by decide +kernel), (show kitB "str" "int" = some false by decide +kernel), (show kitB "str" "bool" = some false by decide +kernel), (show kitB "str" "tuple" = some false by decide +kernel)⟩
  | byt b => exact h0.elim
  | flt b => exact h0.elim
  | ty b => exact h0.elim
  | ref q =>
    obtain ⟨ne, h0⟩ := h0
    rcases h0 with ⟨xs, e⟩ | ⟨xs, e⟩ | ⟨xs, e⟩
    · refine ⟨"list", .base (.lst e), (show kitB "list" "str" = some false by decide +kernel), (show kitB "list" "int" = some false by decide +kernel), (show kitB "list" "bool" = some false by decide +kernel), ?_⟩
      show _ = some (tupH (H q)).isSome
      rw [e]
      exact (show kitB "list" "tuple" = some false by decide +kernel)
    · refine ⟨"dict", .base (.dK e), (show kitB "dict" "str" = some false by decide +kernel), (show kitB "dict" "int" = some false by decide +kernel), (show kitB "dict" "bool" = some false by decide +kernel), ?_⟩
      show _ = some (tupH (H q)).isSome
      rw [e]
      exact (show kitB "dict" "tuple" = some false by decide +kernel)
    · refine ⟨"tuple", .base (.tup e), (show kitB "tuple" "str" = some false by decide +kernel), (show kitB "tuple" "int" = some false by decide +kernel), (show kitB "tuple" "bool" = some false by decide +kernel), ?_⟩
      show _ = some (tupH (H q)).isSome
      rw [e]
      exact (show kitB "tuple" "tuple" = some true by decide +kernel)
theorem s_isi {K : PySem.W.Frag} {H : Hp} {Q : VK} {v : V} {a n : String} {b : Bool} (ty : TyX K H v (.type a)) (e : kitB a n = some b) (h : Q (.bl b) H) : rIsi K [v, .ty n] H Q :=
  ⟨v, .ty n, .type a, .type n, b, rfl, .ty n, ty, kit_ty e, h⟩
theorem s_isiS {K : PySem.W.Frag} {H : Hp} {Q : VK} {v : V} {A : Addr → Prop} {n : Nat} (t : Th A H n v) (h : Q (.bl (isS v)) H) : rIsi K [v, .ty "str"] H Q := by
  obtain ⟨a, ty, e, _⟩ := t.ty K
  exact s_isi ty e h
theorem s_isiI {K : PySem.W.Frag} {H : Hp} {Q : VK} {v : V} {A : Addr → Prop} {n : Nat} (t : Th A H n v) (h : Q (.bl (isI v || isB v)) H) : rIsi K [v, .ty "int"] H Q := by
  obtain ⟨a, ty, _, e, _⟩ := t.ty K
  exact s_isi ty e h
theorem s_isiB {K : PySem.W.Frag} {H : Hp} {Q : VK} {v : V} {A : Addr → Prop} {n : Nat} (t : Th A H n v) (h : Q (.bl (isB v)) H) : rIsi K [v, .ty "bool"] H Q := by
  obtain ⟨a, ty, _, _, e, _⟩ := t.ty K
  exact s_isi ty e h
theorem s_isiT {K : PySem.W.Frag} {H : Hp} {Q : VK} {v : V} {A : Addr → Prop} {n : Nat} (t : Th A H n v) (h : Q (.bl (tupOf H v).isSome) H) : rIsi K [v, .ty "tuple"] H Q := by
  obtain ⟨a, ty, _, _, _, e⟩ := t.ty K
  exact s_isi ty e h
theorem ite_t {c : Bool} {A B : Prop} (e : c = true) (h : A) : if c = true then A else B := by
  rw [if_pos e]
  exact h
theorem ite_f {c : Bool} {A B : Prop} (e : c = false) (h : B) : if c = true then A else B := by
  rw [if_neg (by rw [e]; exact Bool.false_ne_true)]
  exact h
theorem ite_b {c : Bool} {A B : Prop} (h1 : c = true → A) (h2 : c = false → B) : if c = true then A else B := by
  cases e : c with
  | true => rw [if_pos rfl]; exact h1 e
  | false => rw [if_neg Bool.false_ne_true]; exact h2 e
theorem ite_nf {A B : Prop} (h : A) : if (!false) = true then A else B := h
theorem ite_nt {A B : Prop} (h : B) : if (!true) = true then A else B := h
theorem rtb {Q : VK} {H : Hp} {b b' : Bool} (h : Q (.bl b) H) (e : b' = b) : Q (.bl b') H := by
  rw [e]
  exact h
theorem isS_str {v : V} (h : isS v = true) : ∃ z, v = .str z := by
  cases v with
  | str z => exact ⟨z, rfl⟩
  | _ => cases h
theorem isI_int {v : V} (h : isI v = true) : ∃ i, v = .int i := by
  cases v with
  | int z => exact ⟨z, rfl⟩
  | _ => cases h
/-! ### names, symbols, values -/
def letS : Str := "abcdefghijklmnopqrstuvwxyz"
def digS : Str := "0123456789"
def nameS (z : Str) : Bool := decide (1 ≤ z.length ∧ z.length ≤ 8) && !decide (z = "view") && (match z.cps.toList with | c :: _ => decide (c ∈ letS.cps.toList) | [] => false) && z.cps.toList.all fun c => decide (c ∈ (letS ++ digS).cps.toList)
def nameV : V → Bool
  | .str z => nameS z
  | _ => false
def symV : V → Bool
  | .str z => decide (z = "@") || nameS z
  | _ => false
def natV : V → Bool
  | .int i => decide (0 ≤ i)
  | _ => false
def pairV (H : Hp) (v : V) : Bool := match tupOf H v with
  | some [a, b] => symV a && natV b
  | _ => false
def keyV (H : Hp) (v : V) : Str := match tupOf H v with
  | some (.str z :: _) => z
  | _ => Str.empty
def ascS : List Str → Bool
  | a :: b :: r => decide (a.cps.toList < b.cps.toList) && ascS (b :: r)
  | _ => true
def valsV (H : Hp) (v : V) : Bool := match tupOf H v with
  | some xs => xs.all (pairV H) && ascS (xs.map (keyV H))
  | none => false
def spAsk (n : Nat) (f : Hp → V → Bool) : Sp := fun vs H Q _ => ∃ (v : V) (A : Addr → Prop), vs = [v] ∧ Th A H n v ∧ ∀ H', Same H H' → Q (.bl (f H v)) H'
theorem tupOf_rx {M : List Addr} {H H' : Hp} (r : Rx M H H') {q : Addr} {xs : List V} (n : q ∉ M) (h : tupOf H (.ref q) = some xs) : tupOf H' (.ref q) = some xs := by
  have h : tupH (H q) = some xs := h
  show tupH (H' q) = some xs
  cases e : H q with
  | none => rw [e] at h; cases h
  | some o =>
    rw [e] at h
    rw [r _ _ n e]
    exact h
theorem tupOf_at {H : Hp} {v : V} {xs : List V} (h : tupOf H v = some xs) : ∃ q, v = .ref q ∧ H q = some (.tup xs) := by
  cases v with
  | ref q =>
    have h : tupH (H q) = some xs := h
    refine ⟨q, rfl, ?_⟩
    cases e : H q with
    | none => rw [e] at h; cases h
    | some o =>
      rw [e] at h
      cases o with
      | tup ys => cases h; rfl
      | _ => cases h
  | _ => cases h
end G


namespace G
open PySem PySem.Spec PyProof.Rows L2
/-- what a comprehension asks behind its iterable -/
def LC (J : It) (g : TG) (tt : TT) (te : TE) (vs : List Nat) (σ : L2.St) (Q : VK) (H1 : Hp) : Prop := ∀ D, H1 D = none → ∃ W : Nat → Nat → Hp → Prop, (∃ m, W 0 m (upd H1 D (.lst []))) ∧ ∀ i m H, W i m H →
  (J.stop i H ∧ Q (.ref D) H) ∨ (J.go i H ∧ ∃ Nx : Hp → Prop, (∀ H', Nx H' → ∃ m', m' < m ∧ W (i + 1) m' H') ∧ ∀ x H', J.yld i H x H' → g x (wipe σ vs) H' fun σ2 H2 => wipe σ2 vs = wipe σ vs ∧ tt σ2 H2 fun b H3 =>
    if b = true then te σ2 H3 fun y H4 => ∃ acc, H4 D = some (.lst acc) ∧ acc.length < sizeLine ∧ Nx (upd H4 D (.lst (acc ++ [y]))) else Nx H3)
/-- what a for asks behind its iterable -/
def FR (J : It) (g : TG) (tb : TS) (D : Ends) (σ : L2.St) (H1 : Hp) : Prop := ∃ W : Nat → Nat → L2.St → Hp → Prop, (∃ m, W 0 m σ H1) ∧ ∀ i m σ H, W i m σ H →
  (J.stop i H ∧ D.nx σ H) ∨ (J.go i H ∧ ∃ N : L2.St → Hp → Prop, (∀ σ' H', N σ' H' → ∃ m', m' < m ∧ W (i + 1) m' σ' H') ∧ ∀ x H', J.yld i H x H' → g x σ H' fun σ2 H2 => tb { D with nx := N, ct := N, bk := D.nx } σ2 H2)
section
variable {K : PySem.W.Frag} {σ : L2.St} {H : Hp} {Q : VK} {D : Ends} {wi : TI} {g : TG} {tt : TT} {te : TE} {tb : TS} {vs : List Nat} {tr : TA} {R : It → Hp → Prop} {p : Addr}
theorem s_lc (h : wi σ H fun J H1 => LC J g tt te vs σ Q H1) : tLc wi g tt te vs σ H Q := h
theorem s_fr (h : wi σ H fun J H1 => FR J g tb D σ H1) : tFor wi g tb D σ H := h
theorem s_iStr (h : te σ H fun v H1 => ∃ x, v = .str x ∧ R (Its x) H1) : iStr te σ H R := h
theorem s_iLst (h : te σ H fun x H1 => ∃ a, x = .ref a ∧ (∃ xs, SqL K H1 a xs) ∧ R (Itl K a) H1) : iList K te σ H R := h
theorem s_iTup (h : te σ H fun x H1 => ∃ a, x = .ref a ∧ (∃ xs, SqT K H1 a xs) ∧ R (Itt K a) H1) : iTup K te σ H R := h
theorem s_iR1 (h : tr σ H fun vs H1 => ∃ j : Int, vs = [.int j] ∧ -(2 ^ 62) ≤ j ∧ j < 2 ^ 62 ∧ R (Itr 0 j.toNat) H1) : iRng1 tr σ H R := h
theorem s_exL {xs : List V} {B : Prop} (c : SqL K H p xs) (h : B) : (∃ xs, SqL K H p xs) ∧ B := ⟨⟨xs, c⟩, h⟩
theorem s_exT {xs : List V} {B : Prop} (c : SqT K H p xs) (h : B) : (∃ xs, SqT K H p xs) ∧ B := ⟨⟨xs, c⟩, h⟩
theorem s_bd {j : Int} {B : Prop} (a : -(2 ^ 62) ≤ j) (b : j < 2 ^ 62) (h : B) : -(2 ^ 62) ≤ j ∧ j < 2 ^ 62 ∧ B := ⟨a, b, h⟩
theorem s_yes {QB : Bool → Hp → Prop} (h : QB true H) : tYes σ H QB := h
/-- walks that give the values xs -/
def strV (z : Str) : List V := z.cps.toList.map fun c => .str ⟨#[c]⟩
def rngV (n : Nat) : List V := (List.range n).map fun i => .int (i : Nat)
theorem wx_str {z : Str} : Walk (Its z) (strV z).length (fun _ => True) (YAt (strV z)) := by
  have e : (strV z).length = z.cps.size := by simp [strV]
  rw [e]
  refine walk_str.mono (fun _ h => h) ?_
  rintro i H x H' _ _ ⟨e, c, hc, rfl⟩
  refine ⟨e, ?_⟩
  simp [strV, hc]
theorem wx_rng {n : Nat} : Walk (Itr 0 n) (rngV n).length (fun _ => True) (YAt (rngV n)) := by
  have e : (rngV n).length = n := by simp [rngV]
  rw [e]
  refine walk_range.mono (fun _ h => h) ?_
  rintro i H x H' hi _ ⟨e, rfl⟩
  refine ⟨e, ?_⟩
  simp [rngV, hi]
/-- a comprehension that writes nothing: each value by f -/
theorem lcP {J : It} {xs : List V} {G : Hp → Prop} (w : Walk J xs.length G (YAt xs)) (f : V → V) (hG : ∀ H1, Same H H1 → G H1) (hl : xs.length ≤ 1000000)
    (hs : ∀ x H1 (Q1 : VK), x ∈ xs → Same H H1 → (∀ H2, Same H1 H2 → Q1 (f x) H2) → g x (wipe σ vs) H1 fun σ2 H2 => wipe σ2 vs = wipe σ vs ∧ te σ2 H2 Q1)
    (gm : ∀ x σ1 H1 (P P' : L2.St → Hp → Prop), (∀ a b, P a b → P' a b) → g x σ1 H1 P → g x σ1 H1 P')
    (h : ∀ D H', H D = none → Same H H' → H' D = some (.lst (xs.map f)) → Q (.ref D) H') : LC J g tYes te vs σ Q H := by
  intro D hD
  refine lc_it w (fun i H1 => Same H H1 ∧ H1 D = some (.lst ((xs.take i).map f))) ⟨?_, ?_⟩ (fun i H1 _ q => hG H1 q.1) ?_ ?_
  · intro a o e
    rw [upd_ne (ne_of_none e hD)]
    exact e
  · exact upd_same
  · rintro i x H1 H2 hi ⟨r, hd⟩ ⟨rfl, hx⟩
    refine gm _ _ _ _ _ ?_ (hs x H2 (fun y H4 => ∃ acc, H4 D = some (.lst acc) ∧ acc.length < sizeLine ∧ (Same H (upd H4 D (.lst (acc ++ [y]))) ∧ (upd H4 D (.lst (acc ++ [y]))) D = some (.lst ((xs.take (i + 1)).map f)))) (List.mem_of_getElem? hx) r ?_)
    · rintro σ2 H3 ⟨e, q⟩
      refine ⟨e, s_yes (iteT ?_)⟩
      exact q
    · intro H4 r4
      refine ⟨_, r4 _ _ hd, ?_, ?_, ?_⟩
      · rw [List.length_map, List.length_take]
        exact sz2 (by omega)
      · intro a o e
        rw [upd_ne (ne_of_none e hD)]
        exact r4 _ _ (r _ _ e)
      · rw [upd_same]
        have e : xs.take (i + 1) = xs.take i ++ [x] := by rw [List.take_add_one, hx]; rfl
        rw [e, List.map_append]
        rfl
  · rintro H1 ⟨r, hd⟩
    rw [List.take_length] at hd
    exact h D H1 hD r hd
theorem gm_name {n : Nat} : ∀ x σ1 H1 (P P' : L2.St → Hp → Prop), (∀ a b, P a b → P' a b) → gName n x σ1 H1 P → gName n x σ1 H1 P' := fun _ _ _ _ _ h q => h _ _ q
/-- a claim about a value and what it holds -/
structure Ft (P : (Addr → Prop) → V → Hp → Prop) : Prop where
  anti : ∀ A A' v H, (∀ a, A a → A' a) → P A' v H → P A v H
  stab : ∀ A v H1 H2, Ag A H1 H2 → P A v H1 → P A v H2
theorem Ft.th {n : Nat} : Ft (fun A v H => Th A H n v) := ⟨fun _ _ _ _ r h => Th.anti r h, fun _ _ _ _ r h => Th.stab r h⟩
theorem Ft.val {P : V → Prop} : Ft (fun _ v _ => P v) := ⟨fun _ _ _ _ _ h => h, fun _ _ _ _ _ h => h⟩
/-- a comprehension that draws from p: each value keeps P -/
theorem lcD {P : (Addr → Prop) → V → Hp → Prop} (fp : Ft P) {J : It} {xs : List V} {G : Hp → Prop} (w : Walk J xs.length G (YAt xs)) (d : Dr p H) (hG : ∀ H1, Rx [p] H H1 → G H1) (hl : xs.length ≤ 1000000)
    (hs : ∀ x H1 (Q1 : VK), x ∈ xs → Rx [p] H H1 → Dr p H1 → (∀ v H2, Rx [p] H1 H2 → Dr p H2 → P (Al H1) v H2 → Q1 v H2) → g x (wipe σ vs) H1 fun σ2 H2 => wipe σ2 vs = wipe σ vs ∧ te σ2 H2 Q1)
    (gm : ∀ x σ1 H1 (P P' : L2.St → Hp → Prop), (∀ a b, P a b → P' a b) → g x σ1 H1 P → g x σ1 H1 P')
    (h : ∀ D H' ys, H D = none → Rx [p] H H' → Dr p H' → H' D = some (.lst ys) → ys.length = xs.length → (∀ y ∈ ys, P (fun a => Al H a ∨ a = D) y H') → Q (.ref D) H') : LC J g tYes te vs σ Q H := by
  intro D hD
  obtain ⟨s0, d0, c0, hp, _⟩ := id d
  have npD : D ≠ p := (ne_of_none hp hD).symm
  have nD : D ∉ [p] := by simpa using npD
  have pA : ∀ a ∈ [p], (Al H a ∨ a = D) := by
    intro a ha
    obtain rfl : a = p := by simpa using ha
    exact .inl (by unfold Al; rw [hp]; exact Option.some_ne_none _)
  have dA : ∀ {H1 : Hp} {o : HO}, Ag (fun a => Al H a ∨ a = D) H1 (upd H1 D o) := by
    intro H1 o a u n e
    rw [upd_ne (fun z => n (.inr z))]
    exact e
  have upR : ∀ {H1 : Hp} {o : HO}, Rx [p] H H1 → Rx [p] H (upd H1 D o) := fun r => r.own hD
  have upD : ∀ {H1 : Hp} {o : HO}, Dr p H1 → Dr p (upd H1 D o) := by
    rintro H1 o ⟨s, dd, c, e, r⟩
    exact ⟨s, dd, c, by rw [upd_ne npD.symm]; exact e, r⟩
  refine lc_it w (fun i H1 => Rx [p] H H1 ∧ Dr p H1 ∧ ∃ ys, H1 D = some (.lst ys) ∧ ys.length = i ∧ ∀ y ∈ ys, P (fun a => Al H a ∨ a = D) y H1) ⟨upR (Rx.refl _), upD d, [], upd_same, rfl, fun y hy => (List.not_mem_nil hy).elim⟩ (fun i H1 _ q => hG H1 q.1) ?_ ?_
  · rintro i x H1 H2 hi ⟨r, d1, ys, hd, hy, ha⟩ ⟨rfl, hx⟩
    refine gm _ _ _ _ _ ?_ (hs x H2 (fun y H4 => ∃ acc, H4 D = some (.lst acc) ∧ acc.length < sizeLine ∧ (Rx [p] H (upd H4 D (.lst (acc ++ [y]))) ∧ Dr p (upd H4 D (.lst (acc ++ [y]))) ∧
      ∃ ys, (upd H4 D (.lst (acc ++ [y]))) D = some (.lst ys) ∧ ys.length = i + 1 ∧ ∀ z ∈ ys, P (fun a => Al H a ∨ a = D) z (upd H4 D (.lst (acc ++ [y]))))) (List.mem_of_getElem? hx) r d1 ?_)
    · rintro σ2 H3 ⟨e, q⟩
      refine ⟨e, s_yes (iteT ?_)⟩
      exact q
    · intro v H4 r4 d4 pv
      refine ⟨ys, r4 _ _ nD hd, sz2 (by omega), upR (r.trans r4), upD d4, ys ++ [v], upd_same, by simp [hy], ?_⟩
      intro z hz
      refine fp.stab _ _ H4 _ dA ?_
      rcases List.mem_append.mp hz with hz | hz
      · exact fp.stab _ _ H2 _ (r4.ag pA) (ha z hz)
      · obtain rfl : z = v := by simpa using hz
        refine fp.anti _ _ _ _ ?_ pv
        rintro a (q | rfl)
        · by_cases hap : a = p
          · subst hap
            obtain ⟨_, _, _, e, _⟩ := d1
            unfold Al
            rw [e]
            exact Option.some_ne_none _
          · unfold Al at q ⊢
            cases e : H a with
            | none => exact (q e).elim
            | some o =>
              rw [r a o (by simpa using hap) e]
              exact Option.some_ne_none _
        · unfold Al
          rw [hd]
          exact Option.some_ne_none _
  · rintro H1 ⟨r, d1, ys, hd, hy, ha⟩
    exact h D H1 ys hD r d1 hd hy ha
end
theorem s_all {K : PySem.W.Frag} {H : Hp} {Q : VK} {a : Addr} {bs : List Bool} (c : H a = some (.lst (bs.map V.bl))) (h : Q (.bl (bs.all id)) H) : rAll K [.ref a] H Q := ⟨a, bs, rfl, SqL.of c, h⟩
def sgV (S : Str) : V → V
  | .str z => .bl (match z.cps.toList with | [c] => decide (c ∈ S.cps.toList) | _ => false)
  | _ => .bl false
theorem sgV_map (S z : Str) : (strV z).map (sgV S) = (z.cps.toList.map fun c => decide (c ∈ S.cps.toList)).map V.bl := by
  unfold strV
  rw [List.map_map, List.map_map]
  rfl
theorem mem_strV {z : Str} {x : V} (h : x ∈ strV z) : ∃ c, x = .str ⟨#[c]⟩ := by
  obtain ⟨c, _, rfl⟩ := List.mem_map.mp h
  exact ⟨c, rfl⟩
theorem cons_of_len {z : Str} (h : 1 ≤ z.length) : ∃ c cs, z.cps.toList = c :: cs := by
  cases e : z.cps.toList with
  | nil =>
    have : z.cps.toList.length = 0 := by rw [e]; rfl
    rw [Array.length_toList] at this
    have h2 : z.length = z.cps.size := rfl
    omega
  | cons c cs => exact ⟨c, cs, rfl⟩
theorem strV_len {z : Str} : (strV z).length = z.length := by
  unfold strV
  rw [List.length_map, Array.length_toList]
  rfl
theorem atI_0 {α : Type} {x : α} {xs : List α} : atI (x :: xs) 0 = some x := by
  unfold atI ixN
  rw [if_pos (Int.le_refl 0), if_pos (by rw [List.length_cons]; omega)]
  rfl
theorem atI_of {α : Type} {xs : List α} {i : Nat} {x : α} (h : xs[i]? = some x) : atI xs (i : Int) = some x := by
  obtain ⟨hi, e⟩ := List.getElem?_eq_some_iff.mp h
  unfold atI ixN
  rw [if_pos (by omega), if_pos (by omega)]
  exact h
theorem atI_ofI {α : Type} {xs : List α} {i : Int} (h0 : 0 ≤ i) (h : i < xs.length) : ∃ x, atI xs i = some x ∧ x ∈ xs ∧ xs[i.toNat]? = some x := by
  have hi : i.toNat < xs.length := by omega
  refine ⟨xs[i.toNat], ?_, List.getElem_mem hi, by simp [hi]⟩
  unfold atI ixN
  rw [if_pos h0, if_pos h]
  show xs[i.toNat]? = _
  simp [hi]
end G


namespace G
open PySem PySem.Spec PyProof.Rows L2
def ltS (a b : Str) : Bool := decide (a.cps.toList < b.cps.toList)
theorem ascS_cons {a b : Str} {r : List Str} : ascS (a :: b :: r) = (ltS a b && ascS (b :: r)) := rfl
/-- by places -/
theorem ascS_range : ∀ l : List Str, ascS l = (List.range (l.length - 1)).all fun i => ltS (l.getD i Str.empty) (l.getD (i + 1) Str.empty)
  | [] => rfl
  | [_] => rfl
  | a :: b :: r => by
    rw [ascS_cons, ascS_range (b :: r)]
    show _ = (List.range (r.length + 1)).all _
    rw [List.range_succ_eq_map, List.all_cons, List.all_map]
    rfl
theorem ascS_snoc : ∀ (l : List Str) (a b : Str), ascS (l ++ [a, b]) = (ascS (l ++ [a]) && ltS a b)
  | [], a, b => by show (ltS a b && true) = (true && ltS a b); simp
  | [c], a, b => by show (ltS c a && (ltS a b && true)) = ((ltS c a && true) && ltS a b); simp
  | c :: d :: l, a, b => by
    show (ltS c d && ascS (d :: l ++ [a, b])) = ((ltS c d && ascS (d :: l ++ [a])) && ltS a b)
    rw [ascS_snoc (d :: l) a b, Bool.and_assoc]
theorem ascS_prefix : ∀ (l r : List Str), ascS (l ++ r) = true → ascS l = true
  | [], _, _ => rfl
  | [_], _, _ => rfl
  | a :: b :: l, r, h => by
    have h : (ltS a b && ascS (b :: l ++ r)) = true := h
    rw [Bool.and_eq_true] at h
    rw [ascS_cons, h.1, ascS_prefix (b :: l) r h.2]
    rfl
theorem ascS_take {l : List Str} {i : Nat} (h : ascS (l.take i) = false) : ascS l = false := by
  cases e : ascS l with
  | false => rfl
  | true =>
    have := ascS_prefix (l.take i) (l.drop i) (by rw [List.take_append_drop]; exact e)
    rw [this] at h
    cases h
theorem nameS_ne {z : Str} (h : nameS z = true) : ∃ c cs, z.cps.toList = c :: cs := by
  refine cons_of_len ?_
  unfold nameS at h
  simp only [Bool.and_eq_true, decide_eq_true_eq] at h
  exact h.1.1.1.1
theorem symV_str {v : V} (h : symV v = true) : ∃ z c cs, v = .str z ∧ z.cps.toList = c :: cs := by
  cases v with
  | str z =>
    have h : (decide (z = "@") || nameS z) = true := h
    rw [Bool.or_eq_true, decide_eq_true_eq] at h
    rcases h with h | h
    · subst h
      exact ⟨_, 64, [], rfl, by decide +kernel⟩
    · obtain ⟨c, cs, e⟩ := nameS_ne h
      exact ⟨z, c, cs, rfl, e⟩
  | _ => cases h
theorem natV_int {v : V} (h : natV v = true) : ∃ i, v = .int i ∧ 0 ≤ i := by
  cases v with
  | int i => exact ⟨i, rfl, of_decide_eq_true h⟩
  | _ => cases h
theorem pairV_of {H : Hp} {v a b : V} (h : tupOf H v = some [a, b]) : pairV H v = (symV a && natV b) := by
  unfold pairV
  rw [h]
theorem pairV_none {H : Hp} {v : V} (h : tupOf H v = none) : pairV H v = false := by
  unfold pairV
  rw [h]
theorem pairV_len {H : Hp} {v : V} {xs : List V} (h : tupOf H v = some xs) (n : xs.length ≠ 2) : pairV H v = false := by
  unfold pairV
  rw [h]
  match xs, n with
  | [], _ => rfl
  | [_], _ => rfl
  | [_, _], n => exact (n rfl).elim
  | _ :: _ :: _ :: _, _ => rfl
theorem two_of {xs : List V} (h : xs.length = 2) : ∃ a b, xs = [a, b] := by
  match xs, h with
  | [a, b], _ => exact ⟨a, b, rfl⟩
theorem pairV_iff {H : Hp} {v : V} (h : pairV H v = true) : ∃ (q : Addr) (z : Str) (c : Nat) (cs : List Nat) (i : Int), v = .ref q ∧ H q = some (.tup [.str z, .int i]) ∧ z.cps.toList = c :: cs ∧ 0 ≤ i ∧ keyV H v = z := by
  cases e : tupOf H v with
  | none => rw [pairV_none e] at h; cases h
  | some xs =>
    by_cases hl : xs.length = 2
    · obtain ⟨a, b, rfl⟩ := two_of hl
      rw [pairV_of e, Bool.and_eq_true] at h
      obtain ⟨q, rfl, hq⟩ := tupOf_at e
      obtain ⟨z, c, cs, rfl, hc⟩ := symV_str h.1
      obtain ⟨i, rfl, hi⟩ := natV_int h.2
      refine ⟨q, z, c, cs, i, rfl, hq, hc, hi, ?_⟩
      unfold keyV
      rw [e]
    · rw [pairV_len e hl] at h
      cases h
theorem valsV_none {H : Hp} {v : V} (h : tupOf H v = none) : valsV H v = false := by
  unfold valsV
  rw [h]
theorem valsV_some {H : Hp} {v : V} {xs : List V} (h : tupOf H v = some xs) : valsV H v = (xs.all (pairV H) && ascS (xs.map (keyV H))) := by
  unfold valsV
  rw [h]
theorem valsV_bad {H : Hp} {v x : V} {xs : List V} (h : tupOf H v = some xs) (m : x ∈ xs) (b : pairV H x = false) : valsV H v = false := by
  rw [valsV_some h]
  have : xs.all (pairV H) = false := by
    cases e : xs.all (pairV H) with
    | false => rfl
    | true =>
      rw [List.all_eq_true] at e
      rw [e x m] at b
      cases b
  rw [this]
  rfl
theorem empty_lt {z : Str} {c : Nat} {cs : List Nat} (h : z.cps.toList = c :: cs) : decide ((Str.ofString "").cps.toList < z.cps.toList) = true := by
  rw [h, decide_eq_true_eq]
  exact List.nil_lt_cons c cs
theorem tupOf_stab {A : Addr → Prop} {H H' : Hp} {n : Nat} {v : V} (r : Ag A H H') (t : Th A H n v) : tupOf H' v = tupOf H v := by
  cases v with
  | ref q =>
    have t0 : Th A H 0 (.ref q) := by
      cases n with
      | zero => exact t
      | succ n => exact t.down
    obtain ⟨ne, h⟩ := t0
    show tupH (H' q) = tupH (H q)
    rcases h with ⟨xs, h⟩ | ⟨xs, h⟩ | ⟨xs, h⟩ <;> rw [h, r _ _ ne h]
  | _ => rfl
theorem pairV_stab {H H' : Hp} {A : Addr → Prop} {n : Nat} {v : V} (r : Same H H') (t : Th A H n v) : pairV H' v = pairV H v := by
  unfold pairV
  rw [tupOf_stab (Same.ag (A := A) r) t]
end G


namespace G
open PySem PySem.Spec PyProof.Rows L2
def spCell (K : PySem.W.Frag) : Sp := fun vs H Q _ => ∃ (a : Addr) (ns : List Int) (k : Int), vs = [.ref a, .int k] ∧ SqL K H a (ns.map V.int) ∧ ns.length ≤ 63 ∧ 0 ≤ k ∧ k ≤ 100 ∧
  ∀ (m : Int) (H' : Hp), Same H H' → Q (.int m) H'
def spHeap : Sp := fun vs H Q _ => ∃ m : Int, vs = [.int m] ∧ ∀ (p : Addr) (H' : Hp), H p = none → Same H H' → Dr p H' → Q (.ref p) H'
def spPick (K : PySem.W.Frag) : Sp := fun vs H Q _ => ∃ (p : Addr) (x : V), vs = [.ref p, x] ∧ Dr p H ∧
  ((∃ q xs, x = .ref q ∧ q ≠ p ∧ SqL K H q xs ∧ xs ≠ [] ∧ xs.length ≤ 1000 ∧ ∀ v H', v ∈ xs → Rx [p] H H' → Dr p H' → Q v H') ∨
   (∃ z : Str, x = .str z ∧ 1 ≤ z.length ∧ z.length ≤ 1000 ∧ ∀ c H', c ∈ z.cps.toList → Rx [p] H H' → Dr p H' → Q (.str ⟨#[c]⟩) H'))
/-- plain signs -/
def asc (z : Str) : Prop := ∀ c ∈ z.cps.toList, c < 128
/-- one to eight plain signs -/
def Nm (z : Str) : Prop := 1 ≤ z.length ∧ z.length ≤ 8 ∧ asc z
instance (z : Str) : Decidable (asc z) := inferInstanceAs (Decidable (∀ c ∈ z.cps.toList, c < 128))
instance (z : Str) : Decidable (Nm z) := inferInstanceAs (Decidable (_ ∧ _ ∧ _))
def spName : Sp := fun vs H Q _ => ∃ p : Addr, vs = [.ref p] ∧ Dr p H ∧ ∀ (z : Str) H', Nm z → Rx [p] H H' → Dr p H' → Q (.str z) H'
def spNames : Sp := fun vs H Q _ => ∃ (p : Addr) (n : Int), vs = [.ref p, .int n] ∧ Dr p H ∧ 1 ≤ n ∧ n ≤ 8 ∧
  ∀ q (zs : List Str) H', H q = none → (zs.length : Int) = n → (∀ z ∈ zs, Nm z) → Rx [p] H H' → Dr p H' → H' q = some (.lst (zs.map V.str)) → Q (.ref q) H'
def spBent : Sp := fun vs H Q _ => ∃ (p : Addr) (z : Str), vs = [.ref p, .str z] ∧ z.length ≤ 8 ∧ Dr p H ∧ ∀ (y : Str) H', y.length ≤ 20 → Rx [p] H H' → Dr p H' → Q (.str y) H'
def spOdd : Sp := fun vs H Q _ => ∃ (p : Addr) (z : Str), vs = [.ref p, .str z] ∧ z.length ≤ 8 ∧ Dr p H ∧ ∀ v H', Th (Al H) H' 2 v → Rx [p] H H' → Dr p H' → Q v H'
def spPairs : Sp := fun vs H Q _ => ∃ (p q : Addr) (zs : List Str), vs = [.ref p, .ref q] ∧ Dr p H ∧ q ≠ p ∧ H q = some (.lst (zs.map V.str)) ∧ 1 ≤ zs.length ∧ zs.length ≤ 8 ∧ (∀ z ∈ zs, z.length ≤ 8) ∧
  ∀ v H', Th (Al H) H' 2 v → Rx [p] H H' → Dr p H' → Q v H'
def spRight : Sp := fun vs H Q _ => ∃ p : Addr, vs = [.ref p] ∧ Dr p H ∧ ∀ H', Rx [p] H H' → Dr p H' → Q (.bl true) H'
def spLaw (K : PySem.W.Frag) : Sp := fun vs H Q _ => ∃ (a : Addr) (ns : List Int), vs = [.ref a] ∧ SqL K H a (ns.map V.int) ∧ ns.length ≤ 63 ∧ ∀ H', Q (.bl true) H'
theorem Same.sqt {K : PySem.W.Frag} {H H' : Hp} {a : Addr} {xs : List V} (e : Same H H') (h : SqT K H a xs) : SqT K H' a xs := by
  rcases h with (h | ⟨o, h⟩) | h
  · exact .inl (.inl (e _ _ h))
  · exact .inl (.inr ⟨o, e _ _ h⟩)
  · exact .inr h
theorem lc_of {J : It} {n : Nat} {G : Hp → Prop} {Y : Nat → Hp → V → Hp → Prop} {g : TG} {tb : TS} {D : Ends} {σ : L2.St} {H : Hp} (w : Walk J n G Y) (Pv : Nat → L2.St → Hp → Prop) (h0 : Pv 0 σ H) (hG : ∀ i σ H, i ≤ n → Pv i σ H → G H)
    (hs : ∀ i x σ H H', i < n → Pv i σ H → Y i H x H' → g x σ H' fun σ2 H2 => tb { D with nx := Pv (i + 1), ct := Pv (i + 1), bk := D.nx } σ2 H2) (hd : ∀ σ H, Pv n σ H → D.nx σ H) : FR J g tb D σ H := for_it w Pv h0 hG hs hd
theorem valsV_take {H : Hp} {v : V} {xs : List V} {i : Nat} (h : tupOf H v = some xs) (b : ascS ((xs.map (keyV H)).take i) = false) : valsV H v = false := by
  rw [valsV_some h, ascS_take b, Bool.and_false]
/-- one more key -/
theorem asc_more {l : List Str} {i : Nat} {a b : Str} (ha : l[i]? = some a) (hb : l[i + 1]? = some b) : ascS (l.take (i + 2)) = (ascS (l.take (i + 1)) && ltS a b) := by
  have e1 : l.take (i + 1) = l.take i ++ [a] := by rw [List.take_add_one, ha]; rfl
  have e2 : l.take (i + 2) = l.take i ++ [a, b] := by
    rw [show i + 2 = (i + 1) + 1 from rfl, List.take_add_one, hb, e1, List.append_assoc]
    rfl
  rw [e1, e2, ascS_snoc]
theorem mem_ints {ns : List Int} {x : V} (h : x ∈ ns.map V.int) : ∃ i, x = .int i := by
  obtain ⟨i, _, rfl⟩ := List.mem_map.mp h
  exact ⟨i, rfl⟩
theorem mem_cut {xs : List V} {lo hi : Option Int} {x : V} (h : x ∈ cutV xs lo hi) : x ∈ xs := List.mem_of_mem_drop (List.mem_of_mem_take h)
end G


namespace G
open PySem PySem.Spec PyProof.Rows L2 PySem.StrLaws
theorem len_app (a b : Str) : (a ++ b).length = a.length + b.length := by
  show (a.cps ++ b.cps).size = _
  rw [Array.size_append]
  rfl
theorem len_cut (z : Str) (lo hi : Option Int) : (cutS z lo hi).length ≤ z.length := by
  show (List.toArray _).size ≤ _
  rw [List.size_toArray, List.length_take, List.length_drop, Array.length_toList]
  have : z.length = z.cps.size := rfl
  omega
theorem len_cut_to (z : Str) (n : Nat) : (cutS z none (some (n : Int))).length ≤ n := by
  show (List.toArray _).size ≤ _
  rw [List.size_toArray, List.length_take]
  refine Nat.le_trans (Nat.min_le_left _ _) ?_
  show HT.sIx z.length z.length (some (n : Int)) - HT.sIx z.length 0 none ≤ n
  have h : HT.sIx z.length z.length (some (n : Int)) ≤ n := by
    unfold HT.sIx
    simp
    rw [if_neg (by omega)]
    exact Nat.min_le_left _ _
  omega
theorem len_join (ys : List Str) : (Txt.join (Str.ofString "") ys).length = (ys.map (·.length)).sum := by
  have h := size_glued (Str.ofString "") ys
  have e : (Str.ofString "").length = 0 := by decide
  rw [e, Nat.mul_zero, Nat.add_zero] at h
  exact h
theorem Dr.same {p : Addr} {H H' : Hp} (r : Same H H') (h : Dr p H) : Dr p H' := by
  obtain ⟨s, d, c, e, h⟩ := h
  exact ⟨s, d, c, r _ _ e, h⟩
theorem Dr.ne {p q : Addr} {H : Hp} (h : Dr p H) (e : H q = none) : q ≠ p := by
  obtain ⟨s, d, c, e1, _⟩ := h
  exact (ne_of_none e1 e).symm
theorem Dr.al {p : Addr} {H : Hp} (h : Dr p H) : Al H p := by
  obtain ⟨s, d, c, e1, _⟩ := h
  unfold Al
  rw [e1]
  exact Option.some_ne_none _
/-- signs as texts -/
theorem sum_ones : ∀ {cs : List Nat}, ((cs.map fun c => (⟨#[c]⟩ : Str)).map (·.length)).sum = cs.length
  | [] => rfl
  | c :: cs => by
    rw [List.map_cons, List.map_cons, List.sum_cons, sum_ones, List.length_cons]
    show 1 + _ = _
    omega
theorem signs_of : ∀ {ys : List V}, (∀ y ∈ ys, ∃ c : Nat, y = .str ⟨#[c]⟩ ∧ c < 128) → ∃ cs : List Nat, ys = (cs.map fun c => (⟨#[c]⟩ : Str)).map V.str ∧ cs.length = ys.length ∧ ∀ c ∈ cs, c < 128
  | [], _ => ⟨[], rfl, rfl, by simp⟩
  | y :: ys, h => by
    obtain ⟨c, rfl, hc⟩ := h y (by simp)
    obtain ⟨cs, e, l, a⟩ := signs_of (ys := ys) fun y hy => h y (by simp [hy])
    refine ⟨c :: cs, ?_, by simp [l], ?_⟩
    · rw [List.map_cons, List.map_cons, ← e]
    · intro d hd
      rcases List.mem_cons.mp hd with rfl | hd
      · exact hc
      · exact a d hd
theorem strs_of : ∀ {ys : List V} {n : Nat}, (∀ y ∈ ys, ∃ z : Str, y = .str z ∧ z.length ≤ n) → ∃ zs : List Str, ys = zs.map V.str ∧ zs.length = ys.length ∧ ∀ z ∈ zs, z.length ≤ n
  | [], _, _ => ⟨[], rfl, rfl, by simp⟩
  | y :: ys, n, h => by
    obtain ⟨c, rfl, hc⟩ := h y (by simp)
    obtain ⟨cs, e, l, a⟩ := strs_of (ys := ys) fun y hy => h y (by simp [hy])
    refine ⟨c :: cs, by rw [List.map_cons, ← e], by simp [l], ?_⟩
    intro z hz
    rcases List.mem_cons.mp hz with rfl | hz
    · exact hc
    · exact a z hz
theorem asc_app {a b : Str} (ha : asc a) (hb : asc b) : asc (a ++ b) := by
  intro c hc
  have e : (a ++ b).cps.toList = a.cps.toList ++ b.cps.toList := by
    show (a.cps ++ b.cps).toList = _
    rw [Array.toList_append]
  rw [e] at hc
  rcases List.mem_append.mp hc with h | h
  · exact ha c h
  · exact hb c h
theorem asc_cut {z : Str} {lo hi : Option Int} (h : asc z) : asc (cutS z lo hi) := by
  intro c hc
  have hc : c ∈ (z.cps.toList.drop (HT.sIx z.length 0 lo)).take (HT.sIx z.length z.length hi - HT.sIx z.length 0 lo) := by simpa [cutS] using hc
  exact h c (List.mem_of_mem_drop (List.mem_of_mem_take hc))
theorem asc_one {c : Nat} (h : c < 128) : asc ⟨#[c]⟩ := by
  intro d hd
  have : d = c := by simpa using hd
  omega
theorem cps_app (a b : Str) : (a ++ b).cps.toList = a.cps.toList ++ b.cps.toList := by
  show (a.cps ++ b.cps).toList = _
  rw [Array.toList_append]
theorem join_signs (cs : List Nat) : (Txt.join (Str.ofString "") (cs.map fun c => (⟨#[c]⟩ : Str))).cps.toList = cs := by
  rw [show Txt.join (Str.ofString "") (cs.map fun c => (⟨#[c]⟩ : Str)) = Str.join (Str.ofString "") (cs.map fun c => (⟨#[c]⟩ : Str)) from glued_eq_join _ _]
  induction cs with
  | nil => rfl
  | cons c cs ih =>
    cases cs with
    | nil => rfl
    | cons d cs =>
      show ((⟨#[c]⟩ : Str) ++ (Str.ofString "") ++ Str.join (Str.ofString "") ((d :: cs).map fun c => (⟨#[c]⟩ : Str))).cps.toList = _
      rw [cps_app, cps_app, ih]
      rfl
theorem ok_asc {z : Str} (h : asc z) : PyData.strOk z = true := by
  unfold PyData.strOk
  rw [← Array.all_toList, List.all_eq_true]
  intro c hc
  have := h c hc
  exact decide_eq_true (by omega)
theorem Nm.len {z : Str} (h : Nm z) : z.length ≤ 8 := h.2.1
end G


namespace G
open PySem PySem.Spec PyProof.Rows L2
theorem nodup_le {α : Type} [DecidableEq α] : ∀ (s l : List α), s.Nodup → (∀ x ∈ s, x ∈ l) → s.length ≤ l.length
  | [], _, _, _ => Nat.zero_le _
  | x :: s, l, nd, h => by
    have hx : x ∈ l := h x (by simp)
    have nd' := List.nodup_cons.mp nd
    have := nodup_le s (l.erase x) nd'.2 fun y hy => by
      refine (List.mem_erase_of_ne ?_).mpr (h y (by simp [hy]))
      rintro rfl
      exact nd'.1 hy
    rw [List.length_erase_of_mem hx] at this
    have := List.length_pos_of_mem hx
    simp
    omega
theorem pigeon {α : Type} [DecidableEq α] (f : Nat → α) (n : Nat) (l : List α) (inj : ∀ i j, i < n → j < n → f i = f j → i = j) (h : l.length < n) : ∃ i, i < n ∧ f i ∉ l := by
  refine Classical.byContradiction fun no => ?_
  have all : ∀ i, i < n → f i ∈ l := fun i hi => Classical.byContradiction fun z => no ⟨i, hi, z⟩
  have nd : ((List.range n).map f).Nodup := by
    rw [List.nodup_iff_pairwise_ne, List.pairwise_map]
    refine List.Pairwise.imp_of_mem ?_ List.nodup_range
    intro a b ha hb ne e
    exact ne (inj a b (List.mem_range.mp ha) (List.mem_range.mp hb) e)
  have := nodup_le _ l nd fun x hx => by
    obtain ⟨i, hi, rfl⟩ := List.mem_map.mp hx
    exact all i (List.mem_range.mp hi)
  simp at this
  omega
theorem tsS (j : Nat) (h : j < 8) : (Str.ofString (toString (j : Int))).length = 1 := by
  have : ∀ k : Fin 8, (Str.ofString (toString ((k.1 : Nat) : Int))).length = 1 := by decide +kernel
  exact this ⟨j, h⟩
theorem tsS_inj (i j : Nat) (hi : i < 8) (hj : j < 8) (e : Str.ofString (toString (i : Int)) = Str.ofString (toString (j : Int))) : i = j := by
  have : ∀ k l : Fin 8, Str.ofString (toString ((k.1 : Nat) : Int)) = Str.ofString (toString ((l.1 : Nat) : Int)) → k.1 = l.1 := by decide +kernel
  exact this ⟨i, hi⟩ ⟨j, hj⟩ e
theorem tsS_asc (j : Nat) (h : j < 8) : asc (Str.ofString (toString (j : Int))) := by
  have : ∀ k : Fin 8, asc (Str.ofString (toString ((k.1 : Nat) : Int))) := by decide +kernel
  exact this ⟨j, h⟩
theorem app_inj {a b c : Str} (h : a ++ b = a ++ c) : b = c := by
  have h : a.cps ++ b.cps = a.cps ++ c.cps := congrArg Str.cps h
  have h := congrArg Array.toList h
  rw [Array.toList_append, Array.toList_append] at h
  have h2 : b.cps.toList = c.cps.toList := List.append_cancel_left h
  exact Str.ext' (Array.toList_inj.mp h2)
theorem inV_strs {s : Str} {zs : List Str} : inV (.str s) (zs.map V.str) = decide (s ∈ zs) := by
  unfold inV
  rw [List.any_map, Bool.eq_iff_iff, List.any_eq_true, decide_eq_true_eq]
  constructor
  · rintro ⟨x, hx, e⟩
    have e : (x == s) = true := e
    rw [beq_iff_eq] at e
    rw [← e]
    exact hx
  · intro h
    exact ⟨s, h, by show (s == s) = true; simp⟩
theorem flat_strs {zs : List Str} : (zs.map V.str).all flatV = true := by
  rw [List.all_map, List.all_eq_true]
  intro x _
  rfl
theorem small_log {j : Int} (h0 : 0 ≤ j) (h : j < 1000) : j.natAbs.log2 < 1920 := by
  have := Nat.log2_le_self j.natAbs
  omega
/-- a filter -/
theorem lcF {σ : L2.St} {H : Hp} {Q : VK} {tt : TT} {vs : List Nat} {n : Nat} {J : It} {xs : List V} {G : Hp → Prop} (w : Walk J xs.length G (YAt xs)) (b : V → Bool) (hG : ∀ H1, Same H H1 → G H1) (hl : xs.length ≤ 1000000)
    (hw : ∀ v : V, wipe ((wipe σ vs).set n (some v)) vs = wipe σ vs) (hv : ∀ v : V, ((wipe σ vs).set n (some v))[n]? = some (some v))
    (hs : ∀ x H1 (Q1 : Bool → Hp → Prop), x ∈ xs → Same H H1 → (∀ H2, Same H1 H2 → Q1 (b x) H2) → tt ((wipe σ vs).set n (some x)) H1 Q1)
    (h : ∀ D H', H D = none → Same H H' → H' D = some (.lst (xs.filter b)) → Q (.ref D) H') : LC J (gName n) tt (tVar n) vs σ Q H := by
  intro D hD
  refine lc_it w (fun i H1 => Same H H1 ∧ H1 D = some (.lst ((xs.take i).filter b))) ⟨?_, upd_same⟩ (fun i H1 _ q => hG H1 q.1) ?_ ?_
  · intro a o e
    rw [upd_ne (ne_of_none e hD)]
    exact e
  · rintro i x H1 H2 hi ⟨r, hd⟩ ⟨rfl, hx⟩
    have et : xs.take (i + 1) = xs.take i ++ [x] := by rw [List.take_add_one, hx]; rfl
    refine ⟨hw x, hs x H2 _ (List.mem_of_getElem? hx) r fun H3 r3 => ?_⟩
    refine ite_b (fun e => ?_) (fun e => ?_)
    · refine ⟨x, hv x, _, r3 _ _ hd, ?_, ?_, ?_⟩
      · have := List.length_filter_le b (xs.take i)
        rw [List.length_take] at this
        exact sz2 (by omega)
      · intro a o ea
        rw [upd_ne (ne_of_none ea hD)]
        exact r3 _ _ (r _ _ ea)
      · rw [upd_same, et, List.filter_append, List.filter_cons, if_pos e, List.filter_nil]
    · refine ⟨r.trans r3, ?_⟩
      rw [r3 _ _ hd, et, List.filter_append, List.filter_cons, if_neg (by rw [e]; exact Bool.false_ne_true), List.filter_nil, List.append_nil]
  · rintro H1 ⟨r, hd⟩
    rw [List.take_length] at hd
    exact h D H1 hD r hd
theorem nAl {H Hk : Hp} {q : Addr} (r : Same H Hk) (h : Hk q = none) : ¬ Al H q := fun z => z (r.free h)
theorem nAlR {M : List Addr} {H Hk : Hp} {q : Addr} (r : Rx M H Hk) (n : q ∉ M) (h : Hk q = none) : ¬ Al H q := fun z => z (r.free n h)
theorem Rx.freeD {p q : Addr} {H Hk : Hp} (r : Rx [p] H Hk) (d : Dr p Hk) (h : Hk q = none) : H q = none := r.free (by simpa using d.ne h) h
theorem nAlD {p q : Addr} {H Hk : Hp} (r : Rx [p] H Hk) (d : Dr p Hk) (h : Hk q = none) : ¬ Al H q := fun z => z (r.freeD d h)
/-- {text: v} -/
theorem s_disp1 {σ : L2.St} {H : Hp} {Q : VK} {i : Nat} {z : Str} {v : V} (e : σ[i]? = some (some (.str z))) (h : ∀ p H', H p = none → Same H H' → H' p = some (.dK [(Sum.inr z, v)]) → Q (.ref p) H') : tDisp [(tVar i, tC v)] σ H Q := by
  intro p hp
  refine ⟨_, e, upd_same, [(Sum.inr z, v)], rfl, by simp, ?_⟩
  have e2 : mergeK [] [((Sum.inr z : Key), v)] = [(Sum.inr z, v)] := rfl
  rw [e2]
  refine h p _ hp ?_ upd_same
  intro a o ea
  rw [upd_ne (ne_of_none ea hp), upd_ne (ne_of_none ea hp)]
  exact ea
theorem dp_strs {K : PySem.W.Frag} {H : Hp} : ∀ {zs : List Str}, DpAll K H (zs.map V.str) (zs.map PyData.str)
  | [] => .nil
  | z :: zs => .cons (.str z) dp_strs
/-- ways that meet behind a statement -/
theorem s_seqJ {t u : TS} {D : Ends} {σ : L2.St} {H : Hp} (Pj : L2.St → Hp → Prop) (hu : ∀ σ' H', Pj σ' H' → u D σ' H') (ht : ∀ N : L2.St → Hp → Prop, (∀ σ' H', Pj σ' H' → N σ' H') → t { D with nx := N } σ H) : tSeq t u D σ H := ht (u D) hu
theorem s_seqIf {tt : TT} {t u v : TS} {D : Ends} {σ : L2.St} {H : Hp} (h : tSeq (tIfS tt t u) v D σ H) : tSeq (tIfS tt t u) v D σ H := h
theorem canLay_strs : ∀ {zs : List Str}, (∀ z ∈ zs, asc z) → PyData.canLayAll0 (zs.map PyData.str) = true ∧ PyData.depthAll (zs.map PyData.str) = 0
  | [], _ => ⟨rfl, rfl⟩
  | z :: zs, h => by
    obtain ⟨a, b⟩ := canLay_strs (zs := zs) fun y hy => h y (by simp [hy])
    constructor
    · show (PyData.strOk z && PyData.canLayAll0 (zs.map PyData.str)) = true
      rw [ok_asc (h z (by simp)), a]
      rfl
    · show max 0 (PyData.depthAll (zs.map PyData.str)) = 0
      rw [b]
      rfl
theorem shaped_strs {zs : List Str} (h : ∀ z ∈ zs, asc z) : SeqAt.shaped (.list (zs.map PyData.str)) = true := by
  obtain ⟨a, b⟩ := canLay_strs h
  show (PyData.canLayAll0 (zs.map PyData.str) && decide (PyData.depthAll (zs.map PyData.str) + 1 ≤ 64)) = true
  rw [a, b]
  rfl
end G


namespace G
open PySem PySem.Spec PyProof.Rows L2
/-- a fact that no search is to find -/
structure Hide (P : Prop) : Prop where
  get : P
/-- a new pair of a short text and an int -/
def Pr (A : Addr → Prop) (v : V) (H : Hp) : Prop := ∃ (q : Addr) (z : Str) (i : Int), v = .ref q ∧ ¬ A q ∧ H q = some (.tup [.str z, .int i]) ∧ z.length ≤ 8
theorem Ft.pr : Ft Pr := by
  constructor
  · rintro A A' v H r ⟨q, z, i, e, n, h, l⟩
    exact ⟨q, z, i, e, fun a => n (r _ a), h, l⟩
  · rintro A v H1 H2 r ⟨q, z, i, e, n, h, l⟩
    exact ⟨q, z, i, e, n, r _ _ n h, l⟩
theorem Th.str {A : Addr → Prop} {H : Hp} {z : Str} (h : z.length ≤ 100000) : ∀ {n : Nat}, Th A H n (.str z)
  | 0 => h
  | _ + 1 => h
theorem Th.int {A : Addr → Prop} {H : Hp} {i : Int} : ∀ {n : Nat}, Th A H n (.int i)
  | 0 => trivial
  | _ + 1 => trivial
theorem Th.bl {A : Addr → Prop} {H : Hp} {i : Bool} : ∀ {n : Nat}, Th A H n (.bl i)
  | 0 => trivial
  | _ + 1 => trivial
theorem Th.non {A : Addr → Prop} {H : Hp} : ∀ {n : Nat}, Th A H n .non
  | 0 => trivial
  | _ + 1 => trivial
theorem th_tup {A : Addr → Prop} {H : Hp} {n : Nat} {t : Addr} {xs : List V} (a : ¬ A t) (h : H t = some (.tup xs)) (l : xs.length ≤ 100) (k : ∀ x ∈ xs, Th A H n x) : Th A H (n + 1) (.ref t) :=
  ⟨a, .inr (.inr ⟨xs, h, l, k⟩)⟩
theorem th_lst {A : Addr → Prop} {H : Hp} : ∀ {n : Nat} {t : Addr} {xs : List V}, ¬ A t → H t = some (.lst xs) → Th A H n (.ref t)
  | 0, _, xs, a, h => ⟨a, .inl ⟨xs, h⟩⟩
  | _ + 1, _, xs, a, h => ⟨a, .inl ⟨xs, h⟩⟩
theorem Pr.th {A : Addr → Prop} {H : Hp} {v : V} (h : Pr A v H) : Th A H 1 v := by
  obtain ⟨q, z, i, rfl, n, h, l⟩ := h
  refine th_tup n h (by simp) ?_
  intro x hx
  have : x = .str z ∨ x = .int i := by simpa using hx
  rcases this with rfl | rfl
  · exact Th.str (by omega)
  · exact Th.int
theorem s_sortS {K : PySem.W.Frag} {H : Hp} {Q : VK} {a : Addr} {xs : List Str} (c : SqL K H a (xs.map V.str)) (l : xs.length < 64)
    (h : ∀ (ys : List Str) p H', ys.Perm xs → sortedS ys = true → H p = none → Same H H' → H' p = some (.lst (ys.map V.str)) → Q (.ref p) H') : rSortedS K [.ref a] H Q :=
  ⟨a, xs, rfl, c, l, fun ys p pe so => s_new (P := fun p H' => Q (.ref p) H') (fun p H' hp r e => h ys p H' pe so hp r e) p⟩
theorem Al.mono {p : Addr} {H H' : Hp} (r : Rx [p] H H') (d : Dr p H') : ∀ a, Al H a → Al H' a := by
  intro a h
  by_cases e : a = p
  · subst e
    exact d.al
  · unfold Al at h ⊢
    cases q : H a with
    | none => exact (h q).elim
    | some o =>
      rw [r a o (by simpa using e) q]
      exact Option.some_ne_none _
theorem cutV_mem {xs : List V} {lo hi : Option Int} {x : V} (h : x ∈ cutV xs lo hi) : x ∈ xs := List.mem_of_mem_drop (List.mem_of_mem_take h)
theorem valsV_stab {H H' : Hp} {A : Addr → Prop} {v : V} (r : Same H H') (t : Th A H 2 v) : valsV H' v = valsV H v := by
  have e := tupOf_stab (Same.ag (A := A) r) t
  cases q : tupOf H v with
  | none => rw [valsV_none q, valsV_none (by rw [e]; exact q)]
  | some xs =>
    obtain ⟨a, rfl, ha⟩ := tupOf_at q
    obtain ⟨_, hx⟩ := t.tup ha
    have e1 : ∀ x ∈ xs, pairV H' x = pairV H x := fun x m => pairV_stab r (hx x m)
    have e2 : ∀ x ∈ xs, keyV H' x = keyV H x := fun x m => by
      unfold keyV
      rw [tupOf_stab (Same.ag (A := A) r) (hx x m)]
    rw [valsV_some q, valsV_some (by rw [e]; exact q)]
    have h1 : xs.all (pairV H') = xs.all (pairV H) := by
      rw [Bool.eq_iff_iff, List.all_eq_true, List.all_eq_true]
      exact ⟨fun h x m => (e1 x m) ▸ h x m, fun h x m => (e1 x m).symm ▸ h x m⟩
    have h2 : xs.map (keyV H') = xs.map (keyV H) := List.map_congr_left e2
    rw [h1, h2]
/-- repr of a list of bools -/
def bsD (bs : List Bool) : PyData := .list (bs.map PyData.bool)
theorem dp_bls {K : PySem.W.Frag} {H : Hp} : ∀ {bs : List Bool}, DpAll K H (bs.map V.bl) (bs.map PyData.bool)
  | [] => .nil
  | b :: bs => .cons (.bl b) dp_bls
theorem s_reprB {K : PySem.W.Frag} {H : Hp} {Q : VK} {a : Addr} {b1 b2 b3 b4 b5 b6 : Bool} (c : H a = some (.lst [.bl b1, .bl b2, .bl b3, .bl b4, .bl b5, .bl b6])) (h : Q (.str (bsD [b1, b2, b3, b4, b5, b6]).shown) H) : rRepr K [.ref a] H Q := by
  refine ⟨a, bsD [b1, b2, b3, b4, b5, b6], rfl, .lst (SqL.of c) (dp_bls (bs := [b1, b2, b3, b4, b5, b6])), rfl, rfl, by simp [bsD, PyData.depth, PyData.depthAll], sz1 ?_, h⟩
  cases b1 <;> cases b2 <;> cases b3 <;> cases b4 <;> cases b5 <;> cases b6 <;> decide +kernel
theorem mulOk_a9 : MulOk "a" 9 := ⟨by decide, fun _ _ => by decide +kernel, fun _ _ => by decide +kernel⟩
theorem has_fg {P : Program} {w : World} {K : PySem.W.Frag} {mg : Str → Option Value} {base : Heap} {CX : CXT} {x : Str} {st : Stmt} {ps : List Str} {k : Nat} {sp : Sp} {f : Addr} {fd : FuncData}
    (F : Fun K x x st f fd) (hm : mg x = some (.ref f)) (h : Has P w K mg base CX x st ps k sp) : Fg P w K mg base CX k f fd ps sp := by
  obtain ⟨f', fd', h⟩ := h
  have e := h.at_.symm.trans hm
  cases e
  obtain ⟨_, _, _, _, _, _, _, _, _, _, l1, _⟩ := F.ex
  obtain ⟨_, _, _, _, _, _, _, _, _, _, l2, _⟩ := h.fn.ex
  rw [l1] at l2
  cases l2
  exact h.ok
end G


namespace G
open PySem PySem.Spec PyProof.Rows L2
section
variable {prog : Program} {w : World} {K : Type} [DecidableEq K] {knd : KeyKind prog w K} {A : Around} {E : Value → Shared → Prop} {s : Shared}
/-- a key that is not there yet -/
theorem wpAny_putNew {d : Addr} {kvs : List (K × Value)} {k : K} {key v : Value} {Q : Unit → Shared → Prop} (hkey : knd.is k key = true) (hm : s.heap.DictOf knd d kvs) (hnew : k ∉ kvs.map (·.1))
    (hQ : ∀ h', h'.DictOf knd d (kvs ++ [(k, v)]) → Heap.SameBut d s.heap h' → Q () { s with heap := h' }) (hsz : kvs.length ≤ sizeLine) :
    wpAny (model prog w) A (dictPut d (knd.hash k) key v) Q E s := by
  obtain ⟨o, es, ep, ho, hc, hd, hk, hp, hn⟩ := hm
  have hl := hp.length
  have hes : es.size ≤ sizeLine := by
    rw [Array.length_toList] at hl
    omega
  have hidx : (es.findIdx? fun e => knd.is k e.key) = kvs.findIdx? fun kv => decide (kv.1 = k) := by
    rw [← hp.findIdx k]
    obtain ⟨l⟩ := es
    simp
  have hnone : (es.findIdx? fun e => knd.is k e.key) = none := by
    rw [hidx, List.findIdx?_eq_none_iff]
    intro x hx
    refine decide_eq_false ?_
    rintro rfl
    exact hnew (List.mem_map.mpr ⟨x, hx, rfl⟩)
  unfold dictPut
  refine wpAny_bind (wpAny_dictFind_of hkey ho hd hk ?_)
  rw [hnone]
  refine wpAny_updateDictKeys (hz := hes) ho hd (hQ _ ⟨_, _, ep + 1, Heap.get?_update_self _ ho (Obj.isFreed_of_dict (Obj.data_mapDictKeys hd _)), hc.mapDictKeys _, Obj.data_mapDictKeys hd _, hk.push hkey _, ?_, ?_⟩ (Heap.SameBut.update ..))
  · have := hp.append hkey (knd.hash k) v
    obtain ⟨l⟩ := es
    simpa using this
  · rw [List.map_append, List.nodup_append]
    refine ⟨hn, by simp, ?_⟩
    intro a ha b hb
    obtain rfl : b = k := by simpa using hb
    exact fun e => hnew (e ▸ ha)
theorem wp_merge {d a : Addr} {more : List (K × Value)} {Q : Unit → Shared → Prop} (ne : d ≠ a) (haS : (a == sysModules) = false)
    (hd : s.heap.DictOf knd d []) (ha : s.heap.DictOf knd a more) (hv : ∀ k v, knd.is k v = true → ∀ b, v ≠ .ref b)
    (hQ : ∀ h', h'.DictOf knd d more → Heap.SameBut d s.heap h' → Q () { s with heap := h' }) (hsz : more.length ≤ sizeLine) :
    wpAny (model prog w) A (mergeMapping d (.ref a) true) Q E s := by
  obtain ⟨od, esd, epd, hod, hcd, hdd, hkd, hpd, hnd⟩ := id hd
  obtain ⟨oo, eso, epo, hoo, hco, hdo', hko, hpo, hno⟩ := id ha
  have hlen : more.length = eso.size := by
    rw [← hpo.length]
    simp
  have tyA : s.TypeIs (.ref a) "dict" := ha.typeIs
  unfold mergeMapping
  refine wpAny_bind (wpAny_isInstance tyA (b := true) (by first | rfl | with_unfolding_all rfl | decide) ?_)
  simp only [if_true]
  refine wpAny_bind (wpAny_specialOf tyA F.slot_dict_iter.lookup ?_)
  refine wpAny_bind (wpAny_pure ?_)
  have e1 : (some (Value.builtin "dict.__iter__") == some (Value.builtin "dict.__iter__")) = true := by decide +kernel
  rw [e1]
  simp only []
  rw [if_neg (by rw [haS]; exact Bool.false_ne_true)]
  refine wpAny_bind (wpAny_dictEntries hod hdd ?_)
  have hemp : esd.isEmpty = true := by
    have := hpd.length
    rw [Array.length_toList] at this
    simpa using this
  rw [if_pos hemp]
  refine wpAny_bind (wpAny_dictEntries hoo hdo' ?_)
  refine wpAny_bind ?_
  rw [← Array.forIn_toList]
  refine wpAny_forIn_list _ (fun rest _ s' => s' = s ∧ ∀ e ∈ rest, e ∈ eso.toList) _ ?_ ?_ _ _ ⟨rfl, fun e he => he⟩
  · rintro e rest b s' ⟨rfl, hin⟩
    have he : e ∈ eso.toList := hin e (by simp)
    obtain ⟨k, hkey, _⟩ := hko e (by simpa using he)
    have nr := hv k e.key hkey
    split
    · rename_i z q
      exact (nr z q).elim
    · exact wpAny_pure ⟨rfl, fun x hx => hin x (by simp [hx])⟩
  · rintro b s' ⟨rfl, _⟩
    refine wpAny_bind (wpAny_dictEntries hoo hdo' ?_)
    refine wpAny_bind (wpAny_dictEpoch hoo hdo' ?_)
    refine wpAny_bind ?_
    refine wpAny_forIn_list _ (fun rest _ s2 => ∃ h' i, s2 = { s' with heap := h' } ∧ rest = List.range' i (eso.size - i) ∧ i ≤ eso.size ∧ h'.DictOf knd d (more.take i) ∧ h'.get? a = some oo ∧ Heap.SameBut d s'.heap h')
      _ ?_ ?_ _ _ ⟨s'.heap, 0, rfl, by rw [List.range_eq_range']; rfl, Nat.zero_le _, by simpa using hd, hoo, Heap.SameBut.refl _ _⟩
    · rintro x rest b s2 ⟨h', i, rfl, hr, hi, hd', hoo', hs'⟩
      have hlt : i < eso.size := by
        rcases Nat.lt_or_ge i eso.size with h | h
        · exact h
        · rw [Nat.sub_eq_zero_of_le h] at hr
          simp at hr
      obtain ⟨rfl, hrest⟩ : x = i ∧ rest = List.range' (i + 1) (eso.size - (i + 1)) := by
        have e : eso.size - i = (eso.size - (i + 1)) + 1 := by omega
        rw [e, List.range'_succ] at hr
        injection hr with h1 h2
        exact ⟨h1, h2⟩
      refine wpAny_bind (wpAny_dictEntries hoo' hdo' ?_)
      rw [Array.getElem?_eq_getElem hlt]
      have hxm : x < more.length := by rw [hlen]; exact hlt
      obtain ⟨kv, hkv⟩ : ∃ kv, more[x]? = some kv := ⟨more[x], List.getElem?_eq_getElem _⟩
      obtain ⟨k, v⟩ := kv
      obtain ⟨hkey, hval⟩ := hpo.get? (e := eso[x]) (by simp [hlt]) hkv
      obtain ⟨k', hkey', hhash⟩ := hko eso[x] (Array.getElem_mem hlt)
      obtain rfl : k' = k := knd.inj _ _ _ hkey' hkey
      have hsplit : more = more.take x ++ (k', v) :: more.drop (x + 1) := by
        have e := List.take_append_drop x more
        rw [List.drop_eq_getElem_cons hxm] at e
        have e2 : more[x] = (k', v) := by
          rw [List.getElem?_eq_getElem hxm] at hkv
          exact Option.some.inj hkv
        rw [e2] at e
        exact e.symm
      have hnew : k' ∉ (more.take x).map (·.1) := by
        rw [hsplit, List.map_append, List.nodup_append] at hno
        intro hm
        exact hno.2.2 k' hm k' (by simp) rfl
      have htl : (more.take x).length ≤ sizeLine := by
        rw [List.length_take]
        omega
      obtain ⟨o2, es2, ep2, ho2, hc2, hd2, hk2, hp2, hn2⟩ := id hd'
      have hidx : (es2.findIdx? fun e => knd.is k' e.key) = none := by
        have : (es2.findIdx? fun e => knd.is k' e.key) = (more.take x).findIdx? fun kv => decide (kv.1 = k') := by
          rw [← hp2.findIdx k']
          obtain ⟨l⟩ := es2
          simp
        rw [this, List.findIdx?_eq_none_iff]
        intro y hy
        refine decide_eq_false ?_
        rintro rfl
        exact hnew (List.mem_map.mpr ⟨y, hy, rfl⟩)
      show wpAny _ _ (holding [eso[x].key, eso[x].val] _ >>= _) _ _ _
      rw [hhash, hval]
      refine wpAny_bind (wpAny_holding (wpAny_bind (wpAny_dictFind_of hkey' ho2 hd2 hk2 ?_)))
      rw [hidx]
      refine (wpAny_putNew (hsz := htl) hkey' hd' hnew fun h'' hd'' hs'' => ?_)
      have hoo'' : h''.get? a = some oo := (hs''.2 a (Ne.symm ne)).trans hoo'
      refine wpAny_bind (wpAny_dictEpoch hoo'' hdo' ?_)
      rw [if_neg (by simp)]
      refine wpAny_pure ⟨h'', x + 1, rfl, hrest, hlt, ?_, hoo'', hs'.trans hs''⟩
      have e : more.take (x + 1) = more.take x ++ [(k', v)] := by rw [List.take_add_one, hkv]; rfl
      rw [e]
      exact hd''
    · rintro b s2 ⟨h', i, rfl, hr, hi, hd', hoo', hs'⟩
      have hin : i = eso.size := by
        rcases Nat.lt_or_ge i eso.size with h | h
        · have e : eso.size - i = (eso.size - (i + 1)) + 1 := by omega
          rw [e, List.range'_succ] at hr
          exact nomatch hr
        · exact Nat.le_antisymm hi h
      refine wpAny_pure (hQ h' ?_ hs')
      rw [hin, ← hlen, List.take_length] at hd'
      exact hd'
end
end G


namespace G
open PySem PySem.Spec PyProof.Rows L2
section
variable {prog : Program} {w : World} {A : Around} {E : Value → Shared → Prop} {s : Shared}
theorem mix_noref : ∀ k v, (mixKind prog w).is k v = true → ∀ b, v ≠ Value.ref b := by
  intro k v h b e
  rcases keyIs_shape h with ⟨i, t, _, q⟩ | ⟨x, t, _, q⟩
  · rw [q] at e; cases e
  · rw [q] at e; cases e
theorem wp_nsSetNew {d : Addr} {kvs : List (Key × Value)} {k : Str} {v : Value} {Q : Unit → Shared → Prop} (hm : s.heap.DictOf (mixKind prog w) d kvs) (hnew : (Sum.inr k : Key) ∉ kvs.map (·.1))
    (hQ : ∀ h', h'.DictOf (mixKind prog w) d (kvs ++ [(Sum.inr k, v)]) → Heap.SameBut d s.heap h' → Q () { s with heap := h', toks := s.toks + 1 }) :
    wpAny (model prog w) A (nsSet d k v) Q E s := by
  obtain ⟨o, es, ep, ho, hc, hd, hk, hp, hn⟩ := hm
  unfold nsSet
  refine wpAny_bind ?_
  unfold strHash
  refine wpAny_bind (wpAny_askSetting (wpAny_pure ?_))
  refine wpAny_bind (wpAny_mkText ?_)
  refine wpAny_bind (wpAny_loadPart ho ?_)
  rw [hd]
  have hall : ∀ e ∈ es, e.refKey = false := by
    intro e he
    obtain ⟨k', hk', _⟩ := hk e he
    have nr := mix_noref (prog := prog) (w := w) k' e.key hk'
    unfold DictEntry.refKey
    split
    · rename_i z q
      exact (nr z q).elim
    · rfl
  have hmay : aRefKeyMayBeTheName k es = false := by
    rw [aRefKeyMayBeTheName_at]
    have : es.any (·.refKey) = false := by
      rw [Array.any_eq_false']
      intro e he
      rw [hall e he]
      exact Bool.false_ne_true
    rw [this, Bool.and_false]
  dsimp only
  rw [if_neg (by rw [hmay]; exact Bool.false_ne_true)]
  have hnone : es.findIdx? (·.key.isStr k) = none := by
    rw [Array.findIdx?_eq_none_iff]
    intro e he
    obtain ⟨k', hk', _⟩ := hk e he
    cases q : e.key.isStr k with
    | false => rfl
    | true =>
      have hk2 : (mixKind prog w).is (Sum.inr k) e.key = true := by
        show Value.isStrOf k e.key = true
        cases z : e.key with
        | str y t => rw [z] at q; exact q
        | _ => rw [z] at q; cases q
      have ek : (Sum.inr k : Key) = k' := (mixKind prog w).inj _ _ _ hk2 hk'
      have hpos := hp.findIdx (Sum.inr k)
      have hmem : e ∈ es.toList := by simpa using he
      cases hf : (es.toList.findIdx? fun e => (mixKind prog w).is (Sum.inr k) e.key) with
      | none =>
        rw [List.findIdx?_eq_none_iff] at hf
        rw [hf e hmem] at hk2
        cases hk2
      | some i =>
        rw [hf] at hpos
        have := hpos.symm
        rw [List.findIdx?_eq_some_iff_getElem] at this
        obtain ⟨hi, hb, _⟩ := this
        have hb := of_decide_eq_true hb
        exact (hnew (List.mem_map.mpr ⟨kvs[i], List.getElem_mem hi, hb⟩)).elim
  refine wpAny_updatePart ho ?_
  have hkey : (mixKind prog w).is (Sum.inr k) (Value.str k s.toks) = true := mixKind_str prog w k s.toks
  have hput : Obj.putName k (hashStr w k) (Value.str k s.toks) v o = { o with data := .dict (es.push ⟨hashStr w k, .str k s.toks, v⟩) (ep + 1) } := by
    rw [Obj.putName_eq]
    obtain ⟨c, dd, dt, sl⟩ := o
    simp only at hd
    subst hd
    unfold Obj.putNameByArray
    simp only [hnone]
  have hget := Heap.get?_update_self (h := s.heap) (a := d) (Obj.putName k (hashStr w k) (Value.str k s.toks) v) ho (by rw [hput]; rfl)
  refine hQ _ ⟨_, _, ep + 1, hget.trans (congrArg some hput), ?_, rfl, hk.push hkey _, ?_, ?_⟩ (Heap.SameBut.update ..)
  · exact hc
  · have := hp.append hkey (hashStr w k) v
    obtain ⟨l⟩ := es
    simpa using this
  · rw [List.map_append, List.nodup_append]
    refine ⟨hn, by simp, ?_⟩
    intro a ha b hb
    obtain rfl : b = Sum.inr k := by simpa using hb
    exact fun e => hnew (e ▸ ha)
/-- pairs by text -/
def inrs {α : Type} (zs : List (Str × α)) : List (Key × α) := zs.map fun p => (Sum.inr p.1, p.2)
theorem inrs_fst {α : Type} (zs : List (Str × α)) : (inrs zs).map (·.1) = zs.map fun p => (Sum.inr p.1 : Key) := by
  unfold inrs
  rw [List.map_map]
  rfl
/-- the keywords of a dict -/
theorem wp_keywordsIn {d : Addr} {f : Value} {zs : List (Str × Value)} {Q : List (Str × Value) → Shared → Prop} (hd : s.heap.DictOf (mixKind prog w) d (inrs zs)) (h : Q zs s) : wpAny (model prog w) A (keywordsIn f d) Q E s := by
  obtain ⟨o, es, ep, ho, hc, hdd, hk, hp, hn⟩ := hd
  unfold keywordsIn
  refine wpAny_bind (wpAny_dictEntries ho hdd ?_)
  refine wpAny_bind ?_
  rw [← Array.forIn_toList]
  have hlen := hp.length
  refine wpAny_forIn_list _ (fun rest b s' => s' = s ∧ ∃ i, rest = es.toList.drop i ∧ i ≤ es.toList.length ∧ b = zs.take i) _ ?_ ?_ _ _ ⟨rfl, 0, rfl, Nat.zero_le _, rfl⟩
  · rintro e rest b s' ⟨rfl, i, hr, hi, rfl⟩
    have hlt : i < es.toList.length := by
      rcases Nat.lt_or_ge i es.toList.length with q | q
      · exact q
      · rw [List.drop_eq_nil_of_le q] at hr
        cases hr
    rw [List.drop_eq_getElem_cons hlt] at hr
    injection hr with h1 h2
    subst h1
    have hzl : i < zs.length := by
      rw [hlen] at hlt
      simpa [inrs] using hlt
    have hkv : (inrs zs)[i]? = some (Sum.inr zs[i].1, zs[i].2) := by
      simp [inrs, hzl]
    obtain ⟨hkey, hval⟩ := hp.get? (e := es.toList[i]) (by simp [hlt]) hkv
    obtain ⟨t, ht⟩ := Value.isStrOf_shape (show Value.isStrOf zs[i].1 es.toList[i].key = true from hkey)
    rw [ht]
    refine wpAny_pure ⟨rfl, i + 1, h2, hlt, ?_⟩
    have e2 : zs.take (i + 1) = zs.take i ++ [zs[i]] := by rw [List.take_add_one, List.getElem?_eq_getElem hzl]; rfl
    rw [hval, e2]
  · rintro b s' ⟨rfl, i, hr, hi, rfl⟩
    have hin : es.toList.length ≤ i := by
      rcases Nat.lt_or_ge i es.toList.length with q | q
      · rw [List.drop_eq_getElem_cons q] at hr
        cases hr
      · exact q
    have e : zs.take i = zs := List.take_of_length_le (by rw [hlen] at hin; simpa [inrs] using hin)
    rw [e]
    exact wpAny_pure h
end
end G


namespace G
open PySem PySem.Spec PyProof.Rows L2 StX
/-- a def's promise by its arguments as they are passed: by position, by keywords -/
def Fk (P : Program) (w : World) (K : PySem.W.Frag) (mg : Str → Option Value) (base : Heap) (CX : CXT) (k : Nat) (f : Addr) (sp : List V → List (Str × V) → Hp → VK → XK → Prop) : Prop :=
  ∀ (A : Around) (outer : List Env) (s : Shared) (H : Hp) (us : List Value) (vs : List V) (zs : List (Str × Value)) (ys : List (Str × V)) (Q : VK) (E : XK),
    Room k A → Gd A → Env0 P w K mg base A outer s H → Vals vs us → KV ys zs → sp vs ys H Q E → codeAny (model P w) A (.call (.ref f) ⟨us, zs⟩) (CR CX outer P w H s Q E) s
section
variable {CX : CXT} {P : Program} {w : World} {K : PySem.W.Frag} {mg : Str → Option Value} {base : Heap} {k : Nat} {f : Addr} {fn qual : Str} {params : Arguments} {body : List Stmt} {scope : Scope} {dV kV doc pm cdv ct oc : Value} {an od : Option Addr}
  {osl : Array (Option Value)} {N ps : List Str}
theorem run_bndG {A : Around} {outer : List Env} {s : Shared} {H : Hp} {args : Args} {Q : VK} {E : XK} {Gv : List V → Hp → Prop}
    (lk : K.lookup f = some ⟨oc, od, .func (PySem.W.fnOf fn qual params body scope dV kV doc pm an cdv ct), osl⟩) (hcd : PySem.W.codeIn K cdv qual = true)
    (S : FnScope N ps scope) (hr : Room (k + 1) A) (hgd : Gd A) (e0 : Env0 P w K mg base A outer s H)
    (hb : Bnd CX P w K mg base (PySem.W.fnOf fn qual params body scope dV kV doc pm an cdv ct) args ps A outer s H E Gv)
    (hbody : ∀ (s2 : Shared) (H2 : Hp) (vs : List V), Gv vs H2 → Room k (A.deeper (envOfC qual scope s2.heap.objs.size f cdv)) → Gd (A.deeper (envOfC qual scope s2.heap.objs.size f cdv)) →
      ∃ t, PSs (cxOf CX P w K mg base N qual scope f cdv A outer s2 H2 E) body t ∧ t { nx := fun _ H' => Q .non H', rt := Q } (start N vs) H2) :
    codeAny (model P w) A (.call (.ref f) args) (CR CX outer P w H s Q E) s := by
  have KX : K.In s.heap := e0.mod.kin.keeps fun b o e => (e0.bs b o e).1
  apply codeAny_call_function hr.depth (KX _ _ lk) rfl S.co S.gen rfl (PySem.W.codeRec_of KX hcd)
  apply hb
  intro s2 H2 vs us e2 un ho hx r hl g
  have lim : s2.heap.NoLimit := e0.mod.nolimit.keeps fun b o e => (e2.bs b o e).1
  have hkind : ∀ y ∈ ps.zip us, scope.names.lookup y.1 = some .local ∨
      (scope.names.lookup y.1 = some .cell ∧ ((cellsFrom (s2.heap.objs.size + 1) scope.names []).lookup y.1).isSome = true) := by
    intro y hy
    cases S.par y.1 (List.of_mem_zip hy).1 with
    | inl q => exact Or.inl q
    | inr q => exact Or.inr ⟨q, PySem.W.cellsFrom_some _ _ _ (Or.inl q)⟩
  apply wpAny_newFunctionEnv_cells (s := s2) S.kind hkind
  intro env he s1 x
  subst he
  constructor
  · exact lim.keeps x.toInCall.keep
  apply codeAny_func
  obtain ⟨t, ht, hq⟩ := hbody s2 H2 vs g (hr.deeper _) hgd.deeper
  have I := inv_start (CX := CX) (E := E) S hr.hd e2 hl r x
  apply wpAny_mono (ht.run [] s1 _ _ _ I hq)
  · intro fl s' hs
    have fin : ∀ {σ' : L2.St} {H' : Hp} {v : V} {u : Value}, Inv (cxOf CX P w K mg base N qual scope f cdv A outer s2 H2 E) [] σ' H' s' →
        RelV v u → Q v H' → CE outer P w H s Q u s' := fun J rv q => ⟨_, _, J.os.trans ho, J.bare, un.trans J.base, J.hok, rv, q⟩
    cases fl with
    | ret u => obtain ⟨v, σ', H', J, rv, q⟩ := hs; exact fin J rv q
    | next => obtain ⟨σ', H', J, q⟩ := hs; exact fin (v := V.non) J rfl q
    | brk => obtain ⟨_, _, _, q⟩ := hs; exact q.elim
    | cont => obtain ⟨_, _, _, q⟩ := hs; exact q.elim
  · intro e s' hs
    exact wpAny_mono hs (fun _ s'' z => hx e s'' z) fun e' s'' z => hx e' s'' z
/-- the keywords that are left over, in a new dict -/
theorem wp_kwDict {prog : Program} {w : World} {A : Around} {E : Value → Shared → Prop} {d : Addr} : ∀ (zs acc : List (Str × Value)) (s : Shared) (Q : PUnit → Shared → Prop),
    s.heap.DictOf (mixKind prog w) d (inrs acc) → ((acc ++ zs).map (·.1)).Nodup →
    (∀ h' tk, h'.DictOf (mixKind prog w) d (inrs (acc ++ zs)) → Heap.SameBut d s.heap h' → Q PUnit.unit { s with heap := h', toks := tk }) →
    wpAny (model prog w) A (forIn zs PUnit.unit fun x (_ : PUnit) => (do nsSet d x.1 x.2; pure (ForInStep.yield PUnit.unit) : Sem (ForInStep PUnit))) Q E s
  | [], acc, s, Q, hd, hn, hQ => by
    rw [List.forIn_nil]
    refine wpAny_pure ?_
    have := hQ s.heap s.toks (by rw [List.append_nil]; exact hd) (Heap.SameBut.refl _ _)
    exact this
  | (k, v) :: zs, acc, s, Q, hd, hn, hQ => by
    rw [List.forIn_cons]
    have hnew : (Sum.inr k : Key) ∉ (inrs acc).map (·.1) := by
      rw [inrs_fst]
      intro hm
      obtain ⟨p, hp, e⟩ := List.mem_map.mp hm
      have e : p.1 = k := Sum.inr.inj e
      rw [List.map_append, List.nodup_append] at hn
      exact hn.2.2 p.1 (List.mem_map.mpr ⟨p, hp, rfl⟩) k (by simp) e
    refine wpAny_bind (wpAny_bind (wp_nsSetNew hd hnew fun h' hd' hs' => wpAny_pure ?_))
    have e1 : inrs acc ++ [(Sum.inr k, v)] = inrs (acc ++ [(k, v)]) := by
      unfold inrs
      rw [List.map_append]
      rfl
    rw [e1] at hd'
    refine wp_kwDict zs (acc ++ [(k, v)]) { s with heap := h', toks := s.toks + 1 } Q hd' (by simpa using hn) ?_
    intro h'' tk hd'' hs''
    refine hQ h'' tk (by simpa using hd'') (hs'.trans hs'')
end
end G


namespace G
open PySem PySem.Spec PyProof.Rows L2 StX
section
variable {prog : Program} {w : World} {A : Around} {E : Value → Shared → Prop} {s : Shared}
theorem wp_bindKw {fd : FuncData} {a1 a2 : Arg} {u : Value} {zs : List (Str × Value)} {Q : List (Str × Value) → Shared → Prop}
    (hp : fd.params = { posonlyargs := [], args := [a1], vararg := none, kwonlyargs := [], kw_defaults := [], kwarg := some a2, defaults := [] }) (hdf : fd.defaults = .none)
    (hz : ∀ p ∈ zs, (p.1 == a1.arg) = false) (hn : (zs.map (·.1)).Nodup) (hl : zs.length ≤ sizeLine)
    (hQ : ∀ h' tk, h'.DictOf (mixKind prog w) s.heap.objs.size (inrs zs) → (∀ b o, s.heap.get? b = some o → h'.get? b = some o) → s.heap.objs.size < h'.objs.size → Q [(a1.arg, u), (a2.arg, .ref s.heap.objs.size)] { s with heap := h', toks := tk }) :
    wpAny (model prog w) A (bindArgs fd ⟨[u], zs⟩) Q E s := by
  unfold bindArgs
  simp only [hp, hdf]
  refine wpAny_bind ?_
  refine wpAny_forIn_list _ (fun rest b s' => s' = s ∧ ∃ i, rest = zs.drop i ∧ i ≤ zs.length ∧ b = ([(a1.arg, u)], zs.take i)) _ ?_ ?_ _ _ ⟨rfl, 0, rfl, Nat.zero_le _, rfl⟩
  · rintro ⟨k, v⟩ rest b s' ⟨rfl, i, hr, hi, rfl⟩
    have hlt : i < zs.length := by
      rcases Nat.lt_or_ge i zs.length with q | q
      · exact q
      · rw [List.drop_eq_nil_of_le q] at hr
        cases hr
    rw [List.drop_eq_getElem_cons hlt] at hr
    injection hr with h1 h2
    have hk : (k == a1.arg) = false := by
      have := hz zs[i] (List.getElem_mem hlt)
      rw [← h1] at this
      exact this
    have hc : ((List.map (fun x => x.arg) [a1]).contains k || (List.map (fun (x : Arg) => x.arg) []).contains k) = false := by
      simp only [List.map_cons, List.map_nil, List.contains_cons, List.contains_nil, Bool.or_false]
      exact hk
    dsimp only
    rw [if_neg (by rw [hc]; exact Bool.false_ne_true), if_pos (show (some a2).isSome = true from rfl)]
    refine wpAny_pure ⟨rfl, i + 1, h2, hlt, ?_⟩
    have e2 : zs.take (i + 1) = zs.take i ++ [zs[i]] := by rw [List.take_add_one, List.getElem?_eq_getElem hlt]; rfl
    rw [e2, ← h1]
  · rintro b s' ⟨rfl, i, hr, hi, rfl⟩
    have hin : zs.length ≤ i := by
      rcases Nat.lt_or_ge i zs.length with q | q
      · rw [List.drop_eq_getElem_cons q] at hr
        cases hr
      · exact q
    have e : zs.take i = zs := List.take_of_length_le hin
    rw [e]
    dsimp only
    refine wpAny_bind ?_
    show wpAny (model prog w) A (pure none) _ _ _
    refine wpAny_pure ?_
    rw [if_neg (by simp)]
    have hmiss : (List.filter (fun n => (List.lookup n [(a1.arg, u)]).isNone) [a1.arg]) = [] := by
      simp [List.lookup]
    rw [if_neg (by simp [List.lookup])]
    simp only [List.map_cons, List.map_nil, List.nil_append, List.length_cons, List.length_nil, Option.getD_none]
    simp only [List.drop_nil, List.length_nil, List.zip_nil_right, List.forIn_nil]
    refine wpAny_bind (wpAny_pure ?_)
    refine wpAny_bind (wpAny_pure ?_)
    rw [if_neg (by simp), if_neg (by omega)]
    refine wpAny_bind (wpAny_alloc ?_)
    have hnew := Heap.DictOf.new (knd := mixKind prog w) s'.heap
    refine wpAny_bind (wp_kwDict zs [] _ _ hnew (by simpa using hn) ?_)
    intro h' tk hd' hs'
    refine wpAny_pure ?_
    have keep : ∀ b o, s'.heap.get? b = some o → h'.get? b = some o := by
      intro b o eb
      rw [hs'.2 b (Nat.ne_of_lt (Heap.lt_size eb))]
      exact Heap.get?_push_of_some _ eb
    have hlt : s'.heap.objs.size < h'.objs.size := by
      obtain ⟨o, _, _, ho, _⟩ := hd'
      exact Heap.lt_size ho
    have := hQ h' tk (by simpa using hd') keep hlt
    have e3 : List.filterMap (fun n => Option.map (fun x => (n, x)) (List.lookup n [(a1.arg, u)])) ([a1.arg] ++ []) ++ [(a2.arg, Value.ref s'.heap.objs.size)] = [(a1.arg, u), (a2.arg, Value.ref s'.heap.objs.size)] := by
      simp [List.lookup]
    rw [e3]
    exact this
end
end G


namespace G
open PySem PySem.Spec PyProof.Rows L2 StX
section
variable {P : Program} {w : World} {K : PySem.W.Frag} {mg : Str → Option Value} {base : Heap} {A : Around} {outer : List Env} {s : Shared} {H : Hp}
theorem env0_new {a : Addr} {u : HO} {h' : Heap} {tk : Nat} (e0 : Env0 P w K mg base A outer s H) (kp : ∀ b x, s.heap.get? b = some x → h'.get? b = some x) (ha : s.heap.objs.size ≤ a) (hz : s.heap.objs.size ≤ h'.objs.size)
    (new : ObjOk P w (upd H a u) h' a u) : Env0 P w K mg base A outer { s with heap := h', toks := tk } (upd H a u) := by
  refine ⟨e0.frames, e0.mod, ?_, Nat.le_trans e0.bsz hz, Heap.FunFrames.of_keeps (fun b x e _ => ⟨x, kp b x e, rfl⟩) e0.funs, ?_, e0.hok.laid kp ha new, e0.bare⟩
  · intro b x e
    have q := e0.bs b x e
    refine ⟨kp b x q.1, ?_⟩
    rw [upd_ne (Nat.ne_of_lt (Nat.lt_of_lt_of_le (Heap.lt_size q.1) ha))]
    exact q.2
  · intro b hb
    obtain ⟨_, x, hx, _⟩ := e0.funs.mem hb
    rw [upd_ne (Nat.ne_of_lt (Nat.lt_of_lt_of_le (Heap.lt_size hx) ha))]
    exact e0.frf b hb
end
section
variable {CX : CXT} {P : Program} {w : World} {K : PySem.W.Frag} {mg : Str → Option Value} {base : Heap} {k : Nat} {f : Addr} {fn qual : Str} {params : Arguments} {body : List Stmt} {scope : Scope} {kV doc pm cdv ct oc : Value} {an od : Option Addr}
  {osl : Array (Option Value)} {N : List Str}
theorem KV.fst {κ : Type} : ∀ {ys : List (κ × V)} {zs : List (κ × Value)}, KV ys zs → ys.map (·.1) = zs.map (·.1)
  | _, _, .nil => rfl
  | _, _, .cons h t => by rw [List.map_cons, List.map_cons, h.1, KV.fst t]
theorem KV.len {κ : Type} {ys : List (κ × V)} {zs : List (κ × Value)} (h : KV ys zs) : ys.length = zs.length := by
  have := congrArg List.length (KV.fst h)
  simpa using this
theorem KV.inrs : ∀ {ys : List (Str × V)} {zs : List (Str × Value)}, KV ys zs → KV (G.inrs ys) (G.inrs zs)
  | _, _, .nil => .nil
  | _, _, .cons h t => .cons ⟨congrArg Sum.inr h.1, h.2⟩ (KV.inrs t)
/-- def f(a, **d) -/
theorem fk_kw {a1 a2 : Arg} {sp : Sp} (lk : K.lookup f = some ⟨oc, od, .func (PySem.W.fnOf fn qual params body scope .none kV doc pm an cdv ct), osl⟩) (hcd : PySem.W.codeIn K cdv qual = true)
    (hp : params = { posonlyargs := [], args := [a1], vararg := none, kwonlyargs := [], kw_defaults := [], kwarg := some a2, defaults := [] })
    (S : FnScope N [a1.arg, a2.arg] scope) (hCX : CXUp CX)
    (hb : ∀ (A : Around) (outer : List Env) (s : Shared) (H : Hp) (vs : List V) (Q : VK) (E : XK), Room k (A.deeper (envOfC qual scope s.heap.objs.size f cdv)) → Gd (A.deeper (envOfC qual scope s.heap.objs.size f cdv)) →
      sp vs H Q E → ∃ t, PSs (cxOf CX P w K mg base N qual scope f cdv A outer s H E) body t ∧ t { nx := fun _ H' => Q .non H', rt := Q } (start N vs) H) :
    Fk P w K mg base CX (k + 1) f (fun vs ys H Q E => ∃ v, vs = [v] ∧ (∀ p ∈ ys, (p.1 == a1.arg) = false) ∧ (ys.map (·.1)).Nodup ∧ ys.length ≤ sizeLine ∧ ∀ d, H d = none → sp [v, .ref d] (upd H d (.dK (inrs ys))) Q E) := by
  intro A outer s H us vs zs ys Q E hr hgd e0 r rz hsp
  obtain ⟨v, rfl, hne, hnd, hln, hq⟩ := hsp
  obtain ⟨u, rfl, ru⟩ : ∃ u, us = [u] ∧ RelV v u := by
    cases r with
    | cons h t => cases t; exact ⟨_, rfl, h⟩
  have hn : H s.heap.objs.size = none := e0.hok.fresh (Nat.le_refl _)
  have ef := KV.fst rz
  have hne' : ∀ p ∈ zs, (p.1 == a1.arg) = false := by
    intro p hp'
    have : p.1 ∈ ys.map (·.1) := by rw [ef]; exact List.mem_map.mpr ⟨p, hp', rfl⟩
    obtain ⟨q, hq', e⟩ := List.mem_map.mp this
    rw [← e]
    exact hne q hq'
  refine run_bndG lk hcd S hr hgd e0 (Gv := fun xs H2 => ∃ d, H d = none ∧ xs = [v, .ref d] ∧ H2 = upd H d (.dK (inrs ys))) ?_ ?_
  · intro A' Ex Q' h
    refine wp_bindKw (a1 := a1) (a2 := a2) hp rfl hne' (by rw [← ef]; exact hnd) (by rw [← KV.len rz]; exact hln) ?_
    intro h' tk hd kp hlt
    have big := env0_big e0
    have new : ObjOk P w (upd H s.heap.objs.size (.dK (inrs ys))) h' s.heap.objs.size (.dK (inrs ys)) :=
      ⟨by unfold inrs; rw [List.length_map]; exact hln, beq_eq_false_iff_ne.mpr (Ne.symm (Nat.ne_of_lt big)), inrs zs, KV.inrs rz, hd⟩
    have un : Un (frs outer) [] H (upd H s.heap.objs.size (.dK (inrs ys))) s.heap h' := Un.laid kp (Nat.le_refl _) hn
    exact h { s with heap := h', toks := tk } _ [v, .ref s.heap.objs.size] [u, .ref s.heap.objs.size] (env0_new e0 kp (Nat.le_refl _) (Nat.le_of_lt hlt) new) un rfl (fun e s' => hCX outer s H _ _ E e s' un kp rfl) (.cons ru (.cons rfl .nil)) rfl ⟨_, hn, rfl, rfl⟩
  · rintro s2 H2 xs ⟨d, hd, rfl, rfl⟩ hr' hg'
    exact hb A outer s2 _ _ Q E hr' hg' (hq d hd)
end
/-! ### C(**d) -/
section
variable {X : Cx} {CX : CXT} {k : Nat} {f C : Addr} {E : XK} {x : Str} {p pos kp : Pos} {e : Expr} {te : TE} {sp : List V → List (Str × V) → Hp → VK → XK → Prop}
theorem run_makeG {pins : List (Addr × Obj)} {σ : L2.St} {H : Hp} {s : Shared} {Q : VK} {us : List Value} {vs : List V} {zs : List (Str × Value)} {ys : List (Str × V)} (M : L2.Mk X.K C f) (F : Fk X.prog X.w X.K X.mg X.base CX k f sp) (hr : Room (k + 1) X.A) (hgd : Gd X.A) (hx : Passes CX X E)
    (I : Inv X pins σ H s) (r : Vals vs us) (rz : KV ys zs)
    (h : ∀ x dx, H x = none → H dx = none → dx ≠ x → sp (.ref x :: vs) ys (upd (upd H dx (.own x)) x (.ins C dx [])) (fun v H2 => v = .non ∧ Q (.ref x) H2) E) :
    wpAny (model X.prog X.w) X.A (call (.ref C) us zs) (EP X pins σ Q) X.xe s := by
  have hq := h (s.heap.objs.size + 1) s.heap.objs.size (I.hok.fresh (Nat.le_succ _)) (I.hok.fresh (Nat.le_refl _)) (Nat.ne_of_lt (Nat.lt_succ_self _))
  have I2 := Inv.made (C := C) I
  have gd2 : Gd (X.A.under (.builtin "type.__call__" ⟨.ref C :: us, zs⟩)) := by
    unfold Gd at hgd ⊢
    first | exact hgd | simpa [Around.under, Code.guards, Code.isGuard, pushGuards, guardIds] using hgd
  have run := F _ X.stack _ _ (Value.ref (s.heap.objs.size + 1) :: us) (V.ref (s.heap.objs.size + 1) :: vs) zs ys _ E (hr.make C us zs) gd2 (I2.env0.make C us zs) (.cons rfl r) rz hq
  refine wpAny_call (make_map (f := f) I.kIn M.makes M.init (beq_iff_eq.mp M.fn) (codeAny_mono run ?_))
  intro rs s' hq'
  cases rs with
  | error e => exact hx pins σ _ _ e s' I2 hq'
  | ok fl => cases fl with
    | ret u =>
      obtain ⟨v, H', I3, rv, ev, q3⟩ := I2.after hq'
      subst ev
      exact ⟨rv, ⟨V.ref (s.heap.objs.size + 1), H', I3, rfl, q3⟩⟩
    | next => exact hq'.elim
    | brk => exact hq'.elim
    | cont => exact hq'.elim
end
end G


namespace G
open PySem PySem.Spec PyProof.Rows L2 StX
def tMakeSS (C : Addr) (sp : List V → List (Str × V) → Hp → VK → XK → Prop) (E : XK) (te : TE) : TE := fun σ H Q => te σ H fun v H1 => ∃ d ys, v = .ref d ∧ H1 d = some (.dK (inrs ys)) ∧ ∀ x dx, H1 x = none → H1 dx = none → dx ≠ x →
  sp [.ref x] ys (upd (upd H1 dx (.own x)) x (.ins C dx [])) (fun v H2 => v = .non ∧ Q (.ref x) H2) E
theorem callWith_ss {M : Model} {A : Around} {E : Value → Shared → Prop} {s : Shared} {pos : Pos} {f : Value} {first : List Value} {Q : Value → Shared → Prop} {Ph : Heap → Prop} {args : List (Bool × Sem Value)} {keywords : List (Option Str × Sem Value)}
    (hst : (args.any (·.1) || keywords.any (·.1.isNone)) = true)
    (hk : ∀ h, Ph h → ∃ k, (k = Keeper.frame ∨ k = Keeper.machine ∨ k = Keeper.boundFrame) ∧ PySem.W.Looks M h (keeperOf f) k)
    (h : wpAny M A (evalArgs f true args keywords) (fun a s₁ => Ph s₁.heap ∧ wpAny M A (call f (first ++ a.pos) a.kw) Q E s₁) E s) : wpAny M A (callWith pos f first args keywords) Q E s := by
  unfold callWith
  refine wpAny_bind (wpAny_holding (wpAny_mono h ?_ fun _ _ x => x))
  intro a s₁ h₁
  refine wpAny_bind (wpAny_standAt ?_)
  obtain ⟨k, hk', L⟩ := hk _ h₁.1
  simp only [hst]
  refine wpAny_bind (L.here ?_)
  have tail : ∀ {t : Sem Value}, wpAny M A t Q E s₁ → wpAny M A (t >>= fun r => holding [r] point >>= fun _ => pure r) Q E s₁ := by
    intro t ht
    refine wpAny_bind (wpAny_mono ht ?_ fun _ _ x => x)
    intro r s₂ hr
    exact wpAny_bind (wpAny_holding (wpAny_point (wpAny_pure hr)))
  have marked : ∀ mk : Value, wpAny M A (callMarked mk f (first ++ a.pos) a.kw) Q E s₁ := by
    intro mk
    unfold callMarked
    exact Calls.wpAny_keep h₁.2
  rcases hk' with rfl | rfl | rfl
  · exact tail (marked _)
  · exact tail (PyProof.Rows.wpAny_operate' h₁.2)
  · exact tail (PyProof.Rows.wpAny_operate' h₁.2)
section
variable {X : Cx} {CX : CXT} {k : Nat} {f C : Addr} {E : XK} {x : Str} {p pos kp : Pos} {e : Expr} {te : TE} {sp : List V → List (Str × V) → Hp → VK → XK → Prop}
theorem KV.of_inrs : ∀ {ys : List (Str × V)} {vs : List (Key × Value)}, KV (G.inrs ys) vs → ∃ zs, vs = G.inrs zs ∧ KV ys zs
  | [], _, r => by
    cases r
    exact ⟨[], rfl, .nil⟩
  | y :: ys, _, r => by
    cases r with
    | @cons a b as bs h t =>
      obtain ⟨zs, e, q⟩ := KV.of_inrs (ys := ys) t
      obtain ⟨b1, b2⟩ := b
      refine ⟨(y.1, b2) :: zs, ?_, .cons ⟨rfl, h.2⟩ q⟩
      have h1 : Sum.inr y.1 = b1 := h.1
      subst h1
      rw [e]
      rfl
theorem pe_makeSS (M : L2.Mk X.K C f) (F : Fk X.prog X.w X.K X.mg X.base CX k f sp) (hr : Room (k + 1) X.A) (hgd : Gd X.A) (hg : Gl X x) (hm : X.mg x = some (.ref C)) (hx : Passes CX X E) (he : PE X e te)
    (hdb : (x == ("__debug__" : Str)) = false := by decide) : PE X (.Call (.Name x p) [] [⟨none, e, kp⟩] pos) (tMakeSS C sp E te) := by
  constructor
  intro pins s σ H Q I h
  apply wpAny_Call_Name_kw
  refine ld_glob I hg hm ?_ hdb
  have hkw : backToKw pos (keywordEach [⟨none, e, kp⟩] X.env) = [(none, do let v ← eval e X.env; standAt pos; pure v)] := rfl
  have hst : backTo pos (starEach [] X.env) = [] := rfl
  rw [hkw, hst]
  refine callWith_ss (Ph := X.K.In) rfl (fun h X' => PySem.W.keeps_K M.kp h X') ?_
  unfold evalArgs
  refine wpAny_bind ?_
  show wpAny _ _ (pure []) _ _ _
  refine wpAny_pure (wpAny_bind (wpAny_pure (wpAny_holding ?_)))
  dsimp only
  rw [if_neg (by simp)]
  refine wpAny_bind ?_
  unfold mergedKeywords
  refine wpAny_bind (wpAny_alloc (wpAny_bind (wpAny_holding ?_)))
  dsimp only
  rw [List.forIn_cons]
  refine wpAny_bind (wpAny_bind ?_)
  dsimp only
  refine wpAny_bind ?_
  rw [if_pos (show ([] : List (Str × Sem Value)).isEmpty = true from rfl)]
  refine wpAny_pure ?_
  have hfr : H s.heap.objs.size = none := I.hok.fresh (Nat.le_refl _)
  have kpt : ∀ b o, s.heap.get? b = some o → (s.heap.push ({ cls := .type "dict", data := .dict #[] } : Obj)).get? b = some o := fun b o q => Heap.get?_push_of_some _ q
  have I0 : Inv X pins σ H { s with heap := s.heap.push ({ cls := .type "dict", data := .dict #[] } : Obj), toks := s.toks } := I.kept kpt
  have I1 : Inv X ((s.heap.objs.size, ({ cls := .type "dict", data := .dict #[] } : Obj)) :: pins) σ H { s with heap := s.heap.push ({ cls := .type "dict", data := .dict #[] } : Obj), toks := s.toks } := by
    refine I0.pins_of ?_
    intro q hq
    rcases List.mem_cons.mp hq with rfl | hq
    · exact ⟨Heap.get?_push_size _ rfl, hfr, Nat.ne_of_gt I.lt, I.nofs (Nat.le_refl _), fun v z => nomatch z⟩
    · exact I0.pin q (List.mem_append_right _ hq)
  refine wpAny_bind (wpAny_bind (thn (he.run _ _ σ H _ I1 h) ?_))
  rintro u s2 ⟨v, H2, I2, rv, d, ys, rfl, hd, hq⟩
  obtain rfl : u = Value.ref d := rv
  refine wpAny_bind (wpAny_standAt (wpAny_pure ?_))
  obtain ⟨hz, hsys, vs, rk, hD⟩ := dk_of I2.hok hd
  obtain ⟨zs, rfl, rz⟩ := KV.of_inrs rk
  have hpin := I2.pin (s.heap.objs.size, ({ cls := .type "dict", data := .dict #[] } : Obj)) (List.mem_append_right _ List.mem_cons_self)
  obtain ⟨hg0, hf0, hl0, _, _⟩ := hpin
  have ned : s.heap.objs.size ≠ d := by
    intro z
    rw [z, hd] at hf0
    cases hf0
  have hempty : s2.heap.DictOf (mixKind X.prog X.w) s.heap.objs.size [] := ⟨_, #[], 0, hg0, ⟨rfl, rfl, rfl⟩, rfl, fun e he => absurd he (by simp), .nil, List.nodup_nil⟩
  refine wpAny_bind (wpAny_onRaise (wpAny_holding (wpAny_tryCatch (wpAny_onRaise (wp_merge ned hsys hempty hD mix_noref ?_ ?_)))))
  · intro h' hd' hs'
    refine wpAny_pure ?_
    dsimp only
    rw [List.forIn_nil]
    refine wpAny_pure ?_
    rw [if_pos (show ([] : List (Str × Sem Value)).isEmpty = true from rfl)]
    refine wpAny_pure (wpAny_pure ?_)
    refine wpAny_bind (wpAny_pure ?_)
    refine wpAny_bind (wpAny_holding (wp_keywordsIn hd' ?_))
    refine wpAny_pure ?_
    have I3 : Inv X pins σ H2 { s2 with heap := h', toks := s2.toks } := by
      have Ib : Inv X pins σ H2 s2 := I2.pins_of fun q hq => I2.pin q (List.mem_append_right _ (List.mem_cons_of_mem _ hq))
      refine Ib.turned (it := s.heap.objs.size) (fun b o hb eb => ?_) hf0 hl0 (.inr I.sz) ?_ ?_
      · rw [hs'.2 b hb]
        exact eb
      · intro y c ec z
        obtain ⟨v, o, ho, _⟩ := I.cell y c ec
        exact absurd (Heap.lt_size ho) (by rw [z]; exact Nat.lt_irrefl _)
      · intro q hq z
        have := (I.pin q hq).1
        exact absurd (Heap.lt_size this) (by rw [z]; exact Nat.lt_irrefl _)
    refine ⟨I3.kIn, ?_⟩
    exact run_makeG (us := []) (vs := []) M F hr hgd hx I3 .nil rz hq
  · have := KV.len rz
    unfold inrs at hz ⊢
    rw [List.length_map] at hz ⊢
    omega
end
end G


namespace G
open PySem PySem.Spec PyProof.Rows L2 StX
/-- an own class whose operator nm is the def at f -/
structure Opr (K : PySem.W.Frag) (C : Addr) (nm : Str) (f : Addr) : Prop where
  first : PySem.W.selfFirst K C = true
  at_ : PySem.W.findIn K (.ref C) nm = some (some (.ref f))
  fn : PySem.W.isFn K (.ref f) = true
section
variable {X : Cx} {CX : CXT} {k : Nat} {f C : Addr} {fd : FuncData} {ps : List Str} {sp : Sp} {E : XK}
theorem RelV.back {Q : VK} {pins : List (Addr × Obj)} {σ : L2.St} {u : Value} {s : Shared} (h : EP X pins σ Q u s) : PySem.W.CmpBack (EP X pins σ Q) u s := by
  obtain ⟨v, H, I, r, q⟩ := h
  cases v with
  | non => cases r; exact ⟨.non, H, I, rfl, q⟩
  | bl b => cases r; exact ⟨.bl b, H, I, rfl, q⟩
  | int i => obtain ⟨t, rfl⟩ := r; exact ⟨.int i, H, I, ⟨t, rfl⟩, q⟩
  | str i => obtain ⟨t, rfl⟩ := r; exact ⟨.str i, H, I, ⟨t, rfl⟩, q⟩
  | byt i => obtain ⟨t, rfl⟩ := r; exact ⟨.byt i, H, I, ⟨t, rfl⟩, q⟩
  | flt i => obtain ⟨t, rfl⟩ := r; exact ⟨.flt i, H, I, ⟨t, rfl⟩, q⟩
  | ref a => cases r; exact ⟨.ref a, H, I, rfl, q⟩
  | ty a => cases r; exact ⟨.ty a, H, I, rfl, q⟩
/-- a op b, both of the own class -/
def rOwn2 (C : Addr) (sp : Sp) (E : XK) : R2 := fun x y H Q => ∃ a dx fs b dy gs, x = .ref a ∧ y = .ref b ∧ H a = some (.ins C dx fs) ∧ H b = some (.ins C dy gs) ∧ sp [x, y] H Q E
theorem op_own2 {op : Operator} (O : Opr X.K C (PySem.dunder op.info.2) f) (F : Fg X.prog X.w X.K X.mg X.base CX k f fd ps sp) (hr : Room k X.A) (hgd : Gd X.A) (hb : Binds X.K fd ps []) (hx : Passes CX X E) : OpR X (binaryOp op) (rOwn2 C sp E) := by
  intro pins s σ H x y v u Q I rx ry h
  obtain ⟨a, dx, fs, b, dy, gs, rfl, rfl, ha, hb', hq⟩ := h
  cases rx
  cases ry
  obtain ⟨ox, od, J, _⟩ := insC_at I (.inr ⟨dx, fs, ha⟩)
  obtain ⟨oy, oe, J2, _⟩ := insC_at I (.inr ⟨dy, gs, hb'⟩)
  obtain ⟨m, Fr⟩ := I.fr
  refine PySem.W.binop_K Fr I.ok.mod.kin J J2.type O.first O.at_ O.fn ?_
  refine thn (runG (us := [.ref a, .ref b]) (vs' := [.ref a, .ref b]) (us' := [.ref a, .ref b]) F hr hgd hx I (fun hl => ?_) (.cons rfl (.cons rfl .nil)) hq) fun r s' q => RelV.back q
  have := hb s [.ref a, .ref b] I.kIn (by simpa using hl)
  simpa using this
/-- a op i, i an int -/
def rOwnI (C : Addr) (sp : Sp) (E : XK) : R2 := fun x y H Q => ∃ a dx fs i, x = .ref a ∧ y = .int i ∧ H a = some (.ins C dx fs) ∧ sp [x, y] H Q E
theorem op_ownI {op : Operator} {fo ro rc : Option Value} (O : Opr X.K C (PySem.dunder op.info.2) f) (hR : PySem.W.findIn X.K (.ref C) (PySem.dunderR op.info.2) = some rc) (hp : rc = none ∨ ∃ g : Addr, rc = some (.ref g))
    (h1 : PySem.W.findIn X.K (.type "int") (PySem.dunder op.info.2) = some fo) (h2 : PySem.W.findIn X.K (.type "int") (PySem.dunderR op.info.2) = some ro) (hsub : PySem.W.subIn X.K (.type "int") (.ref C) = some false)
    (F : Fg X.prog X.w X.K X.mg X.base CX k f fd ps sp) (hr : Room k X.A) (hgd : Gd X.A) (hb : Binds X.K fd ps []) (hx : Passes CX X E) : OpR X (binaryOp op) (rOwnI C sp E) := by
  intro pins s σ H x y v u Q I rx ry h
  obtain ⟨a, dx, fs, i, rfl, rfl, ha, hq⟩ := h
  cases rx
  obtain ⟨t, rfl⟩ := ry
  obtain ⟨ox, od, J, _⟩ := insC_at I (.inr ⟨dx, fs, ha⟩)
  obtain ⟨m, Fr⟩ := I.fr
  refine PySem.W.ksp_binT Fr I.ok.mod.kin J (T := "int") rfl O.first O.at_ O.fn hR hp h1 h2 hsub ?_
  refine thn (runG (us := [.ref a, .int i t]) (vs' := [.ref a, .int i]) (us' := [.ref a, .int i t]) F hr hgd hx I (fun hl => ?_) (.cons rfl (.cons ⟨t, rfl⟩ .nil)) hq) fun r s' q => RelV.back q
  have := hb s [.ref a, .int i t] I.kIn (by simpa using hl)
  simpa using this
/-- -a -/
def rOwnU (C : Addr) (sp : Sp) (E : XK) : V → Hp → VK → Prop := fun x H Q => ∃ a dx fs, x = .ref a ∧ H a = some (.ins C dx fs) ∧ sp [x] H Q E
theorem un_own (O : Opr X.K C "__neg__" f) (F : Fg X.prog X.w X.K X.mg X.base CX k f fd ps sp) (hr : Room k X.A) (hgd : Gd X.A) (hb : Binds X.K fd ps []) (hx : Passes CX X E) : UnR X (unaryOp .USub) (rOwnU C sp E) := by
  intro pins s σ H x v Q I rx h
  obtain ⟨a, dx, fs, rfl, ha, hq⟩ := h
  cases rx
  obtain ⟨ox, od, J, _⟩ := insC_at I (.inr ⟨dx, fs, ha⟩)
  obtain ⟨m, Fr⟩ := I.fr
  refine PySem.W.ksp_neg Fr I.ok.mod.kin J O.at_ O.fn ?_
  refine runG (us := [.ref a]) (vs' := [.ref a]) (us' := [.ref a]) F hr hgd hx I (fun hl => ?_) (.cons rfl .nil) hq
  have := hb s [.ref a] I.kIn (by simpa using hl)
  simpa using this
end
end G


namespace G
open PySem PySem.Spec PyProof.Rows L2 StX ClX
theorem Gd.in1 {A : Around} (h : Gd A) : Gd A.in1 := by
  unfold Gd at h ⊢
  first | exact h | simpa [Around.in1] using h
section
variable {X : Cx} {CX : CXT} {k : Nat} {f g C : Addr} {fd : FuncData} {ps : List Str} {sp : Sp} {E : XK} {ds : List Value} {dvs : List V} {m : Str} {o e : Expr} {es : List Expr} {ta : TE} {t : TA} {apos pos : Pos}
/-- o.m(e, ..) -/
theorem peM {pl : Sem Bool} (he : PE X o ta) (c : Cls X.K C) (hm : Meth X.K C m f) (F : Fg X.prog X.w X.K X.mg X.base CX k f fd ps sp) (hr : Room k X.A) (hgd : Gd X.A) (hb : Binds X.K fd ps ds) (hd : Vals dvs ds) (hx : Passes CX X E) (ha : PA X (e :: es) t)
    (hst : starEach (e :: es) X.env = (false, eval e X.env) :: starEach es X.env := by rfl)
    (hpl : (backTo pos (starEach es X.env)).any (·.1) = false := by rfl)
    (ht : eval (.Call (.Attribute o m apos) (e :: es) [] pos) X.env = (do
      let ov ← eval o X.env
      standAt apos.atName
      let (f, first) ← holding [ov] (getMethod ov m pl)
      callWith pos f first (backTo pos (starEach (e :: es) X.env)) (backToKw pos (keywordEach [] X.env))) := by rfl) :
    PE X (.Call (.Attribute o m apos) (e :: es) [] pos) (tMeth C m sp dvs E ta t) := by
  constructor
  intro pins s σ H Q I h
  refine PySem.W.methodCall_KW (pl := pl) (thn (he.run pins s σ H _ I h) ?_) ht
  rintro u s1 ⟨x, H1, I1, rx, a, dx, fs, ex, ea, l, q⟩
  subst ex
  obtain rfl : u = Value.ref a := rx
  refine getmeth_ok I1 ea c hm l ?_
  refine PySem.W.callWith_K (first := [.ref a]) (h₀ := X.base) I.ok.mod.kin hm.kp (thn (ha.run pos pins s1 σ H1 _ I1 q) ?_) hst hpl
  rintro us s2 ⟨vs, H2, I2, r, q2⟩
  exact ⟨I2.kIn, runG (us := .ref a :: us) F hr hgd hx I2 (fun hl => hb s2 (.ref a :: us) I2.kIn hl) (Vals.append (xs := .ref a :: vs) (.cons rfl r) hd) q2⟩
/-- o.m() -/
theorem peM0 {pl : Sem Bool} (he : PE X o ta) (c : Cls X.K C) (hm : Meth X.K C m f) (F : Fg X.prog X.w X.K X.mg X.base CX k f fd ps sp) (hr : Room k X.A) (hgd : Gd X.A) (hb : Binds X.K fd ps ds) (hd : Vals dvs ds) (hx : Passes CX X E)
    (ht : eval (.Call (.Attribute o m apos) [] [] pos) X.env = (do
      let ov ← eval o X.env
      standAt apos.atName
      let (f, first) ← holding [ov] (getMethod ov m pl)
      callWith pos f first (backTo pos (starEach [] X.env)) (backToKw pos (keywordEach [] X.env))) := by rfl) :
    PE X (.Call (.Attribute o m apos) [] [] pos) (tMeth C m sp dvs E ta tNil) := by
  constructor
  intro pins s σ H Q I h
  refine PySem.W.methodCall_KW (pl := pl) (thn (he.run pins s σ H _ I h) ?_) ht
  rintro u s1 ⟨x, H1, I1, rx, a, dx, fs, ex, ea, l, q⟩
  subst ex
  obtain rfl : u = Value.ref a := rx
  refine getmeth_ok I1 ea c hm l ?_
  exact PySem.W.callWith_K0 (first := [.ref a]) I1.kIn hm.kp (runG (us := [.ref a]) F hr hgd hx I1 (fun hl => hb s1 [.ref a] I1.kIn hl) (Vals.append (xs := [.ref a]) (.cons rfl .nil) hd) q)
/-- C.m is a staticmethod: its record at p, its def at g -/
structure SMet (K : PySem.W.Frag) (C : Addr) (mc : Value) (m : Str) (p g : Addr) : Prop where
  at_ : PySem.W.findCls K (.ref C) mc m = some (.get (.builtin "staticmethod.__get__") (.ref p) .none (.ref C))
  rc : ∃ rest, PySem.W.recIn K p "staticmethod" = some (.ref g :: rest)
  hd : PySem.W.handedIn (.ref g) = true
  kp : PySem.W.keepIn K (.ref g) = true
def tSMeth (C : Addr) (sp : Sp) (dvs : List V) (E : XK) (ta : TE) (t : TA) : TE := fun σ H Q => ta σ H fun x H1 => x = .ref C ∧ t σ H1 fun vs H2 => sp (vs ++ dvs) H2 Q E
/-- C.m(e, ..), m a staticmethod -/
theorem peSM {pl : Sem Bool} {mc : Value} {p : Addr} (he : PE X o ta) (r : CRead X.K C mc) (c : SMet X.K C mc m p g) (F : Fg X.prog X.w X.K X.mg X.base CX k g fd ps sp) (hr : Room k X.A) (hgd : Gd X.A) (hb : Binds X.K fd ps ds) (hd : Vals dvs ds) (hx : Passes CX X E) (ha : PA X (e :: es) t)
    (hst : starEach (e :: es) X.env = (false, eval e X.env) :: starEach es X.env := by rfl)
    (hpl : (backTo pos (starEach es X.env)).any (·.1) = false := by rfl)
    (ht : eval (.Call (.Attribute o m apos) (e :: es) [] pos) X.env = (do
      let ov ← eval o X.env
      standAt apos.atName
      let (f, first) ← holding [ov] (getMethod ov m pl)
      callWith pos f first (backTo pos (starEach (e :: es) X.env)) (backToKw pos (keywordEach [] X.env))) := by rfl) :
    PE X (.Call (.Attribute o m apos) (e :: es) [] pos) (tSMeth C sp dvs E ta t) := by
  constructor
  intro pins s σ H Q I h
  refine PySem.W.methodCall_KW (pl := pl) (thn (he.run pins s σ H _ I h) ?_) ht
  rintro u s1 ⟨x, H1, I1, rx, ex, q⟩
  subst ex
  obtain rfl : u = Value.ref C := rx
  obtain ⟨rest, hp⟩ := c.rc
  refine PySem.W.method_cls I1.kIn r.ga (PySem.W.cls_bind I1.kIn r.rd c.at_ ?_)
  refine wpAny_call (PySem.W.sm_get (s := { s1 with toks := s1.toks + 1 }) I1.kIn hp (PySem.W.handed_on c.hd ?_))
  have I2 := I1.tok (s1.toks + 1)
  refine PySem.W.callWith_K (first := []) (h₀ := X.base) I.ok.mod.kin c.kp (thn (ha.run pos pins _ σ H1 _ I2 q) ?_) hst hpl
  rintro us s2 ⟨vs, H2, I3, rv, q2⟩
  exact ⟨I3.kIn, runG (us := us) F hr hgd hx I3 (fun hl => hb s2 us I3.kIn hl) (rv.append hd) q2⟩
/-- str(o), o of an own class with its own __str__ -/
def rStrO (C : Addr) (sp : Sp) (E : XK) : List V → Hp → VK → Prop := fun xs H Q => ∃ a dx fs, xs = [.ref a] ∧ H a = some (.ins C dx fs) ∧ sp [.ref a] H (fun v H' => (∃ z, v = .str z) ∧ Q v H') E
theorem c_strO (O : Opr X.K C "__str__" f) (F : Fg X.prog X.w X.K X.mg X.base CX k f fd ps sp) (hr : Room (k + 2) X.A) (hgd : Gd X.A) (hb : Binds X.K fd ps []) (hx : Passes CX X E) : CallR X (.type "str") (rStrO C sp E) := by
  intro pins s σ H xs us Q I r h
  obtain ⟨a, dx, fs, rfl, ha, hq⟩ := h
  cases r with
  | cons r0 rr =>
    cases rr
    obtain rfl : _ = Value.ref a := r0
    obtain ⟨ox, od, J, _⟩ := insC_at I (.inr ⟨dx, fs, ha⟩)
    have hr1 : Room (k + 1) X.A.in1 := hr.in1
    have hr2 : Room k X.A.in1.in1 := hr1.in1
    refine PySem.W.kso_call hr2.units0 I.kIn J O.at_ O.fn ?_
    have hl : [V.ref a].length = ps.length := F.len _ _ _ _ hq
    have bb := hb s [.ref a] I.kIn (by simpa using hl)
    refine wpAny_call (codeAny_mono (F.go X.A.in1.in1 X.stack s H ⟨[.ref a], []⟩ [.ref a] [.ref a] _ E hr2 hgd.in1.in1 I.env0.in1.in1 (by simpa using bb) (.cons rfl .nil) hq) ?_)
    intro rs s' hq'
    cases rs with
    | error e => exact hx pins σ H s e s' I hq'
    | ok fl => cases fl with
      | ret u =>
        obtain ⟨v, H', I3, rv, ⟨z, hz⟩, q3⟩ := I.after hq'
        subst hz
        obtain ⟨t, rfl⟩ := rv
        exact ⟨.str z, H', I3, ⟨t, rfl⟩, q3⟩
      | next => exact hq'.elim
      | brk => exact hq'.elim
      | cont => exact hq'.elim
end
end G


/-! sorted of pairs of a text and an int -/
namespace SrtG
open SrtO hiding Str
open PySem PySem.Spec PyProof.Rows
def lxB (p q : Str × Int) : Bool := if p.1 = q.1 then decide (p.2 < q.2) else decide (p.1.cps.toList < q.1.cps.toList)
theorem cps_inj {a b : Str} (h : a.cps.toList = b.cps.toList) : a = b := by
  cases a with
  | mk x =>
    cases b with
    | mk y =>
      have : x = y := Array.toList_inj.mp h
      rw [this]
theorem lxB_iff {p q : Str × Int} : lxB p q = true ↔ p.1.cps.toList < q.1.cps.toList ∨ (p.1 = q.1 ∧ p.2 < q.2) := by
  unfold lxB
  by_cases e : p.1 = q.1
  · rw [if_pos e, decide_eq_true_eq]
    constructor
    · exact fun h => .inr ⟨e, h⟩
    · rintro (h | h)
      · rw [e] at h
        exact absurd h (List.lt_irrefl _)
      · exact h.2
  · rw [if_neg e, decide_eq_true_eq]
    constructor
    · exact .inl
    · rintro (h | h)
      · exact h
      · exact absurd h.1 e
theorem lxB_no {p q : Str × Int} : lxB p q = false ↔ ¬ (p.1.cps.toList < q.1.cps.toList ∨ (p.1 = q.1 ∧ p.2 < q.2)) := by
  rw [← lxB_iff]
  cases lxB p q <;> simp
theorem lst_asym {a b : List Nat} (h : a < b) : ¬ b < a := fun h' => List.lt_irrefl _ (List.lt_trans h h')
theorem lst_tri {a b : List Nat} (h : ¬ a < b) (h' : ¬ b < a) : a = b := List.le_antisymm h' h
theorem swo_lx (α : Type) (k : α → Str × Int) : Swo fun v u => lxB (k v) (k u) := by
  refine ⟨fun x y h => ?_, fun x y z h1 h2 => ?_⟩
  · refine lxB_no.mpr ?_
    rcases lxB_iff.mp h with a | ⟨a, b⟩
    · rintro (c | ⟨c, d⟩)
      · exact lst_asym a c
      · rw [c] at a
        exact List.lt_irrefl _ a
    · rintro (c | ⟨c, d⟩)
      · rw [a] at c
        exact List.lt_irrefl _ c
      · omega
  · have a := lxB_no.mp h1
    have b := lxB_no.mp h2
    refine lxB_no.mpr ?_
    have a1 : ¬ (k y).1.cps.toList < (k x).1.cps.toList := fun h => a (.inl h)
    have b1 : ¬ (k z).1.cps.toList < (k y).1.cps.toList := fun h => b (.inl h)
    rintro (c | ⟨c, d⟩)
    · by_cases e : (k x).1.cps.toList < (k y).1.cps.toList
      · exact b1 (List.lt_trans c e)
      · have e1 := lst_tri e a1
        rw [e1] at c
        exact b1 c
    · rw [c] at b1
      have e1 := cps_inj (lst_tri b1 a1)
      have a2 : ¬ (k y).2 < (k x).2 := fun h => a (.inr ⟨e1.symm, h⟩)
      have b2 : ¬ (k z).2 < (k y).2 := fun h => b (.inr ⟨c.trans e1, h⟩)
      omega
def IsSI (h : Heap) (v : Value) (x : Str) (y : Int) : Prop := ∃ a o t u n, v = .ref a ∧ h.get? a = some o ∧ o.cls = .type "tuple" ∧ o.data = .seq #[.str x t, .int y u] n
theorem IsSI.keeps {h h' : Heap} {v : Value} {x : Str} {y : Int} (p : IsSI h v x y) (k : ∀ b o, h.get? b = some o → o.cls = .type "tuple" → h'.get? b = some o) : IsSI h' v x y := by
  obtain ⟨a, o, t, u, n, e, ho, hc, hd⟩ := p
  exact ⟨a, o, t, u, n, e, k a o ho hc, hc, hd⟩
theorem firsts_si {h : Heap} : ∀ {vs : List Value}, (∀ v ∈ vs, ∃ x y, IsSI h v x y) → ∃ fs : List Value, PySem.W.KatTups h vs fs ∧ fs.length = vs.length ∧ ∀ f ∈ fs, ∃ x t, f = Value.str x t
  | [], _ => ⟨[], PySem.W.KatTups.nil, rfl, fun _ hm => by simp at hm⟩
  | v :: vs, hp => by
    obtain ⟨fs, h1, h2, h3⟩ := firsts_si (vs := vs) fun v' hm => hp v' (List.mem_cons_of_mem _ hm)
    obtain ⟨x, y, a, o, t, u, n, e, ho, hc, hd⟩ := hp v (List.mem_cons_self ..)
    subst e
    refine ⟨.str x t :: fs, PySem.W.KatTups.cons ho hc hd rfl h1, by rw [List.length_cons, List.length_cons, h2], fun f hm => ?_⟩
    rcases List.mem_cons.mp hm with rfl | hm
    · exact ⟨x, t, rfl⟩
    · exact h3 f hm
section
variable {prog : Program} {w : World} {A : Around} {s : Shared} {E : Value → Shared → Prop}
theorem si_cmp {vs : List Value} {k : Value → Str × Int} (hp : ∀ v ∈ vs, IsSI s.heap v (k v).1 (k v).2) : Cmp prog w A s (tuples' true) (fun p => p.1 ∈ vs) (lt2 fun v u => lxB (k v) (k u)) := by
  intro p q hm hm'
  have h1 := hp _ hm
  have h2 := hp _ hm'
  show wpAny (model prog w) A (keyLt' (tuples' true) p.1 q.1) (fun r s' => s' = s ∧ r = lxB (k p.1) (k q.1)) (fun _ _ => False) s
  unfold lxB
  generalize (k p.1).1 = x at h1 ⊢
  generalize (k p.1).2 = y at h1 ⊢
  generalize (k q.1).1 = x' at h2 ⊢
  generalize (k q.1).2 = y' at h2 ⊢
  obtain ⟨a, o, t, u, n, e, ho, hc, hd⟩ := h1
  obtain ⟨a', o', t', u', n', e', ho', hc', hd'⟩ := h2
  rw [e, e']
  refine PySem.W.kat_lt ho hd ho' hd' ?_
  show PySem.W.KatLex prog w A true (decide (2 < 2)) _ [(.str x t, .str x' t'), (.int y u, .int y' u')] 0 s
  refine PySem.W.kat_cons (SeqAt.EqAt.str_str x t x' t' prog w _ _ ?_)
  refine PySem.W.kat_go (fun e1 => ?_) (fun e1 => ?_)
  · have ex : x = x' := by simpa using e1
    refine PySem.W.kat_yes (PySem.W.kat_cons (SeqAt.EqAt.int_int y u y' u' prog w _ _ ?_))
    refine PySem.W.kat_go (fun e2 => ?_) (fun e2 => ?_)
    · have ey : y = y' := by simpa using e2
      have e3 : (if x = x' then decide (y < y') else decide (x.cps.toList < x'.cps.toList)) = false := by
        rw [if_pos ex, ey]
        exact decide_eq_false (Int.lt_irrefl _)
      exact PySem.W.kat_yes (PySem.W.kat_nil ⟨rfl, e3.symm⟩)
    · have e3 : (if x = x' then decide (y < y') else decide (x.cps.toList < x'.cps.toList)) = decide (y < y') := if_pos ex
      refine PySem.W.kat_no (PySem.W.kat_one _ _ (PyProof.Rows.lt_int ?_))
      exact (show s = s ∧ decide (y < y') = (if x = x' then decide (y < y') else decide (x.cps.toList < x'.cps.toList)) from ⟨rfl, e3.symm⟩)
  · have ex : ¬ x = x' := by simpa using e1
    have e3 : (if x = x' then decide (y < y') else decide (x.cps.toList < x'.cps.toList)) = decide (x.cps.toList < x'.cps.toList) := if_neg ex
    exact PySem.W.kat_no (PyProof.Rows.oneLt_any_str ⟨rfl, e3.symm⟩)
theorem si_sortableO {a : Addr} {vs : List Value} {k : Value → Str × Int} (h0 : 0 < vs.length) (hp : ∀ v ∈ vs, IsSI s.heap v (k v).1 (k v).2) (ha : ∀ o, s.heap.get? a = some o → o.cls ≠ .type "tuple") : SortableO prog w A s a vs fun v u => lxB (k v) (k u) := by
  intro h' keep
  have hp' : ∀ v ∈ vs, IsSI h' v (k v).1 (k v).2 := fun v hm => (hp v hm).keeps fun b o e c => keep b o (fun z => by subst z; exact ha o e c) e
  obtain ⟨fs, h1, h2, h3⟩ := firsts_si fun v hm => ⟨_, _, hp' v hm⟩
  refine ⟨tuples' true, fun Q E hq => ?_, si_cmp hp'⟩
  refine PySem.W.kat_kind (T := .type "str") h1 (by omega) (fun f hm => ?_) (by rfl) ?_
  · obtain ⟨x, t, rfl⟩ := h3 f hm
    exact PySem.W.Looks.now
  · have e : (Value.type "str" != Value.type "tuple") = true := by first | decide +kernel | rfl | decide
    rw [e]
    exact hq
theorem sorted_si {l : Addr} {vs : List Value} {k : Value → Str × Int} {Q : Value → Shared → Prop} (hl : s.heap.IsList l vs.toArray) (hz : vs.length ≤ sizeLine) (hp : ∀ v ∈ vs, IsSI s.heap v (k v).1 (k v).2)
    (h : ∀ (h' : Heap) (d : Addr) (out : List Value), Srtd (fun v u => lxB (k v) (k u)) out → Stb (fun v u => lxB (k v) (k u)) out vs → (∀ b o, s.heap.get? b = some o → h'.get? b = some o) → s.heap.objs.size ≤ d → (∃ n, h'.get? d = some (seqObj "list" out.toArray n)) → Q (.ref d) { s with heap := h' }) :
    wpAny (model prog w) A (call (.builtin "sorted") [.ref l]) Q E s := by
  refine sorted_ord (swo_lx _ k) hl hz (fun h2 h₁ a ha kk => ?_) fun out hs hb => ?_
  · refine si_sortableO (s := { s with heap := h₁ }) (by omega) (fun v hm => (hp v hm).keeps fun b o e _ => (kk b o e).2) fun o e => ?_
    have e' : some o = some (seqObj "list" vs.toArray 0) := e.symm.trans ha
    cases e'
    intro c
    exact absurd (Value.type.inj c) (by decide)
  · exact h _ _ out hs hb (fun b o e => sortedAll_old e) (Nat.le_succ _) (sortedAll_at s.heap vs out.toArray)
end
end SrtG
namespace G
open PySem PySem.Spec PyProof.Rows L2
/-- the rows of a list of pair tuples -/
inductive PrsL (H : Hp) : List V → List (Str × Int) → Prop
  | nil : PrsL H [] []
  | cons {t : Addr} {x : Str} {i : Int} {xs : List V} {r : List (Str × Int)} : H t = some (.tup [.str x, .int i]) → PrsL H xs r → PrsL H (.ref t :: xs) ((x, i) :: r)
theorem PrsL.len {H : Hp} : ∀ {xs : List V} {r : List (Str × Int)}, PrsL H xs r → xs.length = r.length
  | _, _, .nil => rfl
  | _, _, .cons _ h => by simp [h.len]
theorem PrsL.same {H H' : Hp} (s : ∀ (a : Addr) o, H a = some o → H' a = some o) : ∀ {xs : List V} {r : List (Str × Int)}, PrsL H xs r → PrsL H' xs r
  | _, _, .nil => .nil
  | _, _, .cons h t => .cons (s _ _ h) (t.same s)
theorem PrsL.get {H : Hp} : ∀ {xs : List V} {r : List (Str × Int)} {i : Nat} {p : Str × Int}, PrsL H xs r → r[i]? = some p → ∃ t, xs[i]? = some (.ref t) ∧ H t = some (.tup [.str p.1, .int p.2])
  | _, _, _, _, .nil, e => by simp at e
  | _, _, 0, _, .cons h _, e => by
    cases e
    exact ⟨_, rfl, h⟩
  | _, _, i + 1, _, .cons _ h, e => h.get (i := i) (by simpa using e)
theorem PrsL.mem {H : Hp} : ∀ {xs : List V} {r : List (Str × Int)} {v : V}, PrsL H xs r → v ∈ xs → ∃ t p, v = .ref t ∧ p ∈ r ∧ H t = some (.tup [.str p.1, .int p.2])
  | _, _, _, .nil, e => by simp at e
  | _, _, v, .cons (t := t) (x := x) (i := i) h hr, e => by
    rcases List.mem_cons.mp e with rfl | e
    · exact ⟨t, (x, i), rfl, List.mem_cons_self, h⟩
    · obtain ⟨t, p, a, b, c⟩ := hr.mem e
      exact ⟨t, p, a, List.mem_cons_of_mem _ b, c⟩
theorem PrsL.app {H : Hp} : ∀ {xs ys : List V} {r q : List (Str × Int)}, PrsL H xs r → PrsL H ys q → PrsL H (xs ++ ys) (r ++ q)
  | _, _, _, _, .nil, h => h
  | _, _, _, _, .cons a h, h' => .cons a (h.app h')
/-- what row an item holds -/
def rowOf (H : Hp) (v : V) : Str × Int := match v with
  | .ref t => match H t with
    | some (.tup [.str x, .int i]) => (x, i)
    | _ => (Str.empty, 0)
  | _ => (Str.empty, 0)
theorem PrsL.rows {H : Hp} : ∀ {xs : List V} {r : List (Str × Int)}, PrsL H xs r → xs.map (rowOf H) = r
  | _, _, .nil => rfl
  | _, _, .cons h t => by
    rw [List.map_cons, t.rows]
    congr 1
    simp [rowOf, h]
theorem PrsL.of {H : Hp} : ∀ {xs : List V}, (∀ x ∈ xs, ∃ t p, x = .ref t ∧ H t = some (.tup [.str (p : Str × Int).1, .int p.2])) → PrsL H xs (xs.map (rowOf H))
  | [], _ => .nil
  | x :: xs, h => by
    obtain ⟨t, p, rfl, e⟩ := h x List.mem_cons_self
    have e1 : rowOf H (.ref t) = p := by simp [rowOf, e]
    rw [List.map_cons, e1]
    exact .cons e (PrsL.of fun y hy => h y (List.mem_cons_of_mem _ hy))
/-- sorted(xs) of pairs of a text and an int -/
def rSortSI (K : PySem.W.Frag) : List V → Hp → VK → Prop := fun vs H Q => ∃ (a : Addr) (xs : List V) (r : List (Str × Int)), vs = [V.ref a] ∧ SqL K H a xs ∧ PrsL H xs r ∧
  ∀ ys q p, SrtO.Srtd SrtG.lxB q → q.Perm r → PrsL H ys q → H p = none → Q (.ref p) (upd H p (.lst ys))
theorem cr_sortSI {X : Cx} : CallR X (.builtin "sorted") (rSortSI X.K) := by
  intro pins s σ H vs us Q I r h
  obtain ⟨a, xs, rw_, rfl, hs, hx, q⟩ := h
  obtain ⟨its, rv, hl, hz⟩ := I.list hs
  obtain ⟨u, rfl, ru⟩ := vals1 r
  obtain rfl : u = Value.ref a := ru
  obtain ⟨e1, e2⟩ := refs_back rv fun x m => by
    obtain ⟨t, _, e, _, _⟩ := hx.mem m
    exact ⟨t, e⟩
  have O := SrtG.swo_lx V (rowOf H)
  refine SrtG.sorted_si (k := fun u => rowOf H (backV u)) hl.isList (by rw [← rv.length]; exact hz) (fun v hv => ?_) fun h' d out h1 h2 kp hd hn => ?_
  · obtain ⟨t, rfl⟩ := e2 v hv
    have hm : V.ref t ∈ xs := by rw [e1]; exact List.mem_map.mpr ⟨_, hv, rfl⟩
    obtain ⟨t', p, e, _, ht⟩ := hx.mem hm
    cases e
    have er : rowOf H (.ref t) = p := by simp [rowOf, ht]
    obtain ⟨_, its2, r2, o, ho, hc, n, hd⟩ := I.hok _ _ ht
    obtain ⟨u1, u2, rfl, ri, rj⟩ := vals2 r2
    obtain ⟨t1, rfl⟩ := ri
    obtain ⟨t2, rfl⟩ := rj
    show SrtG.IsSI _ _ (rowOf H (.ref t)).1 (rowOf H (.ref t)).2
    rw [er]
    exact ⟨t, o, t1, t2, n, rfl, ho, hc, hd⟩
  · have h3 : ∀ u ∈ out, ∃ a, u = Value.ref a := fun u hu => e2 u (h2.perm.mem_iff.mp hu)
    obtain ⟨n, hn⟩ := hn
    have hb : SrtO.Stb (fun x y => SrtG.lxB (rowOf H x) (rowOf H y)) (out.map backV) xs := by
      rw [e1]
      exact SrtO.Stb.map O backV h2
    have hp : ((out.map backV).map (rowOf H)).Perm rw_ := by
      rw [← hx.rows]
      exact hb.perm.map _
    refine ⟨.ref d, upd H d (.lst (out.map backV)), I.laid (t' := s.toks) kp hd ⟨?_, out, n, vals_back h3, hn⟩, rfl, q _ ((out.map backV).map (rowOf H)) d ?_ hp (PrsL.of fun x hxm => ?_) (I.hok.fresh hd)⟩
    · rw [hb.len]
      exact hz
    · exact SrtO.srtd_map (f := rowOf H) (SrtO.srtd_map h1)
    · obtain ⟨t, p, e, _, ht⟩ := hx.mem (hb.perm.mem_iff.mp hxm)
      exact ⟨t, p, e, ht⟩
end G


namespace G
open PySem PySem.Spec PyProof.Rows L2
abbrev Row := List (Str × Int)
/-- a row as a dict's entries -/
def kvR (r : Row) : List (Key × V) := r.map fun p => (Sum.inr p.1, V.int p.2)
/-- a tuple whose own object is known to have no dict -/
def FT (H : Hp) (a : Addr) (xs : List V) : Prop := ∃ o : Obj, o.dict = none ∧ H a = some (.frz o (.tup xs))
theorem FT.sqt {K : PySem.W.Frag} {H : Hp} {a : Addr} {xs : List V} (h : FT H a xs) : SqT K H a xs := by
  obtain ⟨o, _, h⟩ := h
  exact .inl (.inr ⟨o, h⟩)
theorem FT.same {H H' : Hp} {a : Addr} {xs : List V} (r : Same H H') (h : FT H a xs) : FT H' a xs := by
  obtain ⟨o, d, h⟩ := h
  exact ⟨o, d, r _ _ h⟩
theorem FT.rx {M : List Addr} {H H' : Hp} {a : Addr} {xs : List V} (r : Rx M H H') (n : a ∉ M) (h : FT H a xs) : FT H' a xs := by
  obtain ⟨o, d, h⟩ := h
  exact ⟨o, d, r _ _ n h⟩
/-- tuple(list), told so -/
def rTupF (K : PySem.W.Frag) : RC := fun vs H Q => ∃ p ys, vs = [.ref p] ∧ SqL K H p ys ∧ ∀ l (o : Obj), o.dict = none → H l = none → Q (.ref l) (upd H l (.frz o (.tup ys)))
theorem cr_tupF {X : Cx} : CallR X (.type "tuple") (rTupF X.K) := by
  intro pins s σ H xs us Q I r h
  obtain ⟨p, ys, rfl, hq, q⟩ := h
  obtain ⟨u, rfl, rx⟩ := vals1 r
  cases rx
  obtain ⟨its, r', pl, hz⟩ := I.list hq
  have hlen := r'.length
  refine call_tuple_list pl.isList (fun h' kp => ?_) (by simp only [List.size_toArray] <;> omega)
  have I1 : Inv X pins σ H { s with heap := h' } := I.kept (t' := s.toks) kp
  have I2 : Inv X pins σ (upd H h'.objs.size (.frz { cls := .type "tuple", data := .seq its.toArray } (.tup ys))) { s with heap := h'.push { cls := .type "tuple", data := .seq its.toArray } } :=
    I1.laid (t' := s.toks) (fun b o e => Heap.get?_push_of_some _ e) (Nat.le_refl _) (show ObjOk X.prog X.w _ _ _ (.frz _ (.tup ys)) from ⟨Heap.get?_push_size _ rfl, hz, its, r', IsTup.new _ _⟩)
  exact ⟨.ref h'.objs.size, _, I2, rfl, q _ _ rfl (I1.hok.fresh (Nat.le_refl _))⟩
/-- a written tuple, told so -/
def tTupF (t : TA) : TE := fun σ H Q => t σ H fun xs H1 => xs.length ≤ sizeLine ∧ ∀ p (o : Obj), o.dict = none → H1 p = none → Q (.ref p) (upd H1 p (.frz o (.tup xs)))
theorem pe_tupF {X : Cx} {es : List Expr} {t : TA} {x1} {pos : Pos} (h : PA X es t) : PE X (.Tuple es x1 pos) (tTupF t) := by
  refine ⟨fun pins s σ H Q I hq => ?_⟩
  refine wpAny_Tuple_spliced (thn (h.run pos pins s σ H _ I hq) fun us s1 ⟨xs, H1, I1, r, z, q⟩ => ⟨by rw [← r.length]; exact z, ?_⟩)
  have hf : H1 s1.heap.objs.size = none := I1.hok.fresh (Nat.le_refl _)
  refine ⟨.ref s1.heap.objs.size, upd H1 s1.heap.objs.size (.frz { cls := .type "tuple", data := .seq us.toArray } (.tup xs)), I1.laid (t' := s1.toks) (fun b u e => Heap.get?_push_of_some _ e) (Nat.le_refl _) ?_, rfl, q _ _ rfl hf⟩
  exact ⟨Heap.get?_push_size _ rfl, z, us, r, ⟨_, Heap.get?_push_size _ rfl, rfl, _, rfl⟩⟩
/-- pair tuples as the machine has them -/
theorem prsV {X : Cx} {pins : List (Addr × Obj)} {σ : L2.St} {H : Hp} {s : Shared} (I : Inv X pins σ H s) : ∀ {xs : List V} {r : Row}, PrsL H xs r →
    ∃ (ts : List Addr) (ps : List (Value × Value)) (kvs : List (Key × Value)), xs = ts.map V.ref ∧ ps.length = ts.length ∧ kvs.length = ts.length ∧ KV (kvR r) kvs ∧
      ∀ (j : Nat) (k v : Value), ps[j]? = some (k, v) → (∃ b, ts[j]? = some b ∧ IsTup s.heap b #[k, v]) ∧ ∃ q, kvs[j]? = some (q, v) ∧ keyIs q k = true
  | _, _, .nil => ⟨[], [], [], rfl, rfl, rfl, .nil, fun j k v e => by simp at e⟩
  | _, _, .cons (t := t) (x := x) (i := i) h hr => by
    obtain ⟨ts, ps, kvs, e, l1, l2, kv, hj⟩ := prsV I hr
    obtain ⟨_, its, r2, ht⟩ := I.hok _ _ h
    obtain ⟨u1, u2, rfl, ri, rj⟩ := vals2 r2
    refine ⟨t :: ts, (u1, u2) :: ps, (Sum.inr x, u2) :: kvs, by rw [e]; rfl, by simp [l1], by simp [l2], .cons ⟨rfl, rj⟩ kv, ?_⟩
    intro j k v e
    cases j with
    | zero =>
      cases e
      exact ⟨⟨t, rfl, ht⟩, Sum.inr x, rfl, kV_is (P := X.prog) (w := X.w) (k := Sum.inr x) ri⟩
    | succ j =>
      obtain ⟨⟨b, e1, e2⟩, q, e3, e4⟩ := hj j k v (by simpa using e)
      exact ⟨⟨b, by simpa using e1, e2⟩, q, by simpa using e3, e4⟩
/-- dict(t), t a tuple of pairs of a text and an int -/
def rDictT : RC := fun vs H Q => ∃ (a : Addr) (xs : List V) (r : Row), vs = [.ref a] ∧ FT H a xs ∧ PrsL H xs r ∧ ∀ p, H p = none → Q (.ref p) (upd H p (.dK (mergeK [] (kvR r))))
theorem cr_dictT {X : Cx} (hcalm : X.calm = true) : CallR X (.type "dict") rDictT := by
  intro pins s σ H vs us Q I r h
  obtain ⟨a, xs, rw_, rfl, ⟨o, hod, ho⟩, hp, q⟩ := h
  obtain ⟨u, rfl, rx⟩ := vals1 r
  obtain rfl : u = Value.ref a := rx
  obtain ⟨hg, hz, its, r', oo, hoo, hc, n, hdat⟩ := I.hok _ _ ho
  rw [hg] at hoo
  cases hoo
  obtain ⟨ts, ps, kvs, e, l1, l2, kv, hj⟩ := prsV I hp
  subst e
  have ei := refs_at r'
  subst ei
  rw [List.length_map] at hz
  have P := PairArg.tuple (prog := X.prog) (w := X.w) a (ts.map Value.ref).toArray (fun j => ts.getD j 0) ps
  refine PySem.call_dict_pairs (knd := mixKind X.prog X.w) (kvs := kvs) P (I.ok.hd hcalm) ⟨⟨o, n, hg, hc, hod, hdat⟩, by simp [l1], fun j k v ej => ?_⟩ ⟨by rw [l1, l2], fun i key v ej => ?_⟩ (by rw [l1]; exact hz) fun h' tk hd' k => ?_
  · obtain ⟨⟨b, e1, e2⟩, _⟩ := hj j k v ej
    have eb : ts.getD j 0 = b := by simp [List.getD, e1]
    refine ⟨by simp [e1, eb], .inl ?_⟩
    show IsTup s.heap (ts.getD j 0) #[k, v]
    rw [eb]
    exact e2
  · obtain ⟨_, q, e3, e4⟩ := hj i key v ej
    exact ⟨q, e3, e4⟩
  · have hm : (s.heap.objs.size == sysModules) = false := beq_eq_false_iff_ne.mpr (Nat.ne_of_gt I.big)
    have hlen : (mergeK [] (kvR rw_)).length ≤ sizeLine := by
      refine Nat.le_trans (length_mergeK (kvR rw_) []) ?_
      rw [List.length_nil, Nat.zero_add, kv.length, l2]
      exact hz
    exact ⟨.ref s.heap.objs.size, upd H s.heap.objs.size (.dK (mergeK [] (kvR rw_))), I.laid (t' := tk) (fun b o e => k b o (by simp) e) (Nat.le_refl _) (show ObjOk X.prog X.w _ _ _ (.dK _) from ⟨hlen, hm, merged [] kvs, KV.merge kv .nil, hd'⟩), rfl, q _ (I.hok.fresh (Nat.le_refl _))⟩
end G


namespace G
open PySem PySem.Spec PyProof.Rows L2
/-- d.items() -/
def rItems : V → List V → Hp → VK → Prop := fun x xs H Q => ∃ (a : Addr) (kvs : List (Key × V)), x = .ref a ∧ xs = [] ∧ H a = some (.dK kvs) ∧ ∀ p, H p = none → Q (.ref p) (upd H p (DX.itemsO p a))
theorem mt_items {X : Cx} : MtR X "dict.items" rItems := by
  intro pins s σ H x xs v us Q I rx rxs h
  obtain ⟨a, kvs, rfl, rfl, ha, q⟩ := h
  cases rx
  cases rxs
  obtain ⟨z, hd, vs, rk, o, es, ep, ho, hx, hdat, _⟩ := dk_of I.hok ha
  refine DT.callItems (es := es) (ep := ep) hd ⟨o, ho, hx, hdat⟩ ?_
  have hf : H s.heap.objs.size = none := I.hok.fresh (Nat.le_refl _)
  exact ⟨.ref s.heap.objs.size, upd H s.heap.objs.size (DX.itemsO s.heap.objs.size a), I.laid (t' := s.toks) (fun b u e => Heap.get?_push_of_some _ e) (Nat.le_refl _) (DX.itemsO_ok (Heap.get?_push_size _ rfl)), rfl, q _ hf⟩
/-- the row that a pair tuple of the machine holds -/
def rowH (h : Heap) (v : Value) : Str × Int := match v with
  | .ref a => match h.get? a with
    | some o => match o.data with
      | .seq its _ => match its.toList with
        | [.str x _, .int i _] => (x, i)
        | _ => (Str.empty, 0)
      | _ => (Str.empty, 0)
    | none => (Str.empty, 0)
  | _ => (Str.empty, 0)
theorem rowH_at {h : Heap} {a : Addr} {o : Obj} {x : Str} {i : Int} {t u : Tok} {n : Nat} (e : h.get? a = some o) (d : o.data = .seq #[.str x t, .int i u] n) : rowH h (.ref a) = (x, i) := by
  simp [rowH, e, d]
theorem isStrOf_at {x : Str} {v : Value} (h : keyIs (Sum.inr x) v = true) : ∃ t, v = .str x t := by
  have h : Value.isStrOf x v = true := h
  cases v with
  | str y t =>
    have : y = x := by simpa [Value.isStrOf] using h
    exact ⟨t, by rw [this]⟩
  | _ => simp [Value.isStrOf] at h
theorem pairs_at {P : Program} {w : World} : ∀ {l : List DictEntry} {r : Row} {vs : List (Key × Value)} {j : Nat} {e : DictEntry}, Pairs (mixKind P w) l vs → KV (kvR r) vs → l[j]? = some e → ∃ (p : Str × Int) (t u : Tok), r[j]? = some p ∧ e.key = .str p.1 t ∧ e.val = .int p.2 u
  | _, r, _, j, e, .nil, _, h => by simp at h
  | _, [], _, j, e, .cons (kv := kv) h1 h2 h3, hk, h => by cases hk
  | _, p :: r, _, j, e, .cons (kv := kv) h1 h2 h3, hk, h => by
    cases hk with
    | cons a b =>
      cases j with
      | zero =>
        cases h
        obtain ⟨a1, a2⟩ := a
        have a1 : Sum.inr p.1 = kv.1 := a1
        rw [← a1] at h1
        obtain ⟨t, et⟩ := isStrOf_at (x := p.1) h1
        obtain ⟨u, eu⟩ : ∃ u, kv.2 = .int p.2 u := a2
        exact ⟨p, t, u, rfl, et, by rw [h2, eu]⟩
      | succ j =>
        obtain ⟨q, t, u, c1, c2, c3⟩ := pairs_at (j := j) h3 b (by simpa using h)
        exact ⟨q, t, u, by simpa using c1, c2, c3⟩
theorem pairs_len {P : Program} {w : World} : ∀ {l : List DictEntry} {vs : List (Key × Value)}, Pairs (mixKind P w) l vs → l.length = vs.length
  | _, _, .nil => rfl
  | _, _, .cons _ _ h => by simp [pairs_len h]
/-- sorted(d.items()), d a dict of texts and ints -/
def rSortItems : RC := fun vs H Q => ∃ (p a : Addr) (r : Row), vs = [.ref p] ∧ H p = some (DX.itemsO p a) ∧ H a = some (.dK (kvR r)) ∧
  ∀ (H' : Hp) (l : Addr) (xs : List V) (q : Row), Same H H' → H l = none → q.Perm r → SrtO.Srtd SrtG.lxB q → H' l = some (.lst xs) → PrsL H' xs q → Q (.ref l) H'
theorem cr_sortItems {X : Cx} (hc : X.calm = true) : CallR X (.builtin "sorted") rSortItems := by
  intro pins s σ H xs us Q I r h
  obtain ⟨p, a, rw_, rfl, hp, ha, q⟩ := h
  obtain rfl := Vals.ref1 r
  have view : s.heap.IsItemsView p a := (show ObjOk X.prog X.w H s.heap p (DX.itemsO p a) from I.hok p _ hp).1
  obtain ⟨z, hd, vs, rk, o, es, ep, ho, hx, hdat, _, hpr, _⟩ := dk_of I.hok ha
  have hh : X.A.handled = none := I.ok.hd hc
  have l2 : es.size = rw_.length := by
    have e1 := pairs_len hpr
    have e2 := KV.len rk
    unfold kvR at e2
    rw [List.length_map] at e2
    rw [← Array.length_toList, e1, ← e2]
  have lz : rw_.length ≤ sizeLine := by
    unfold kvR at z
    rw [List.length_map] at z
    exact z
  refine DT.sortedI (es := es) (ep := ep) hh view ⟨o, ho, hx, hdat⟩ (by rw [l2]; exact lz) fun h' tk as hk hlt hl hG => ?_
  have nd : as.Nodup := List.Pairwise.imp (fun h => Nat.ne_of_lt h) hG.rise
  have hob : (h'.push { cls := .type "list", data := .seq (as.map Value.ref).toArray }).get? h'.objs.size = some (seqObj "list" (as.map Value.ref).toArray 0) := Heap.get?_push_size _ rfl
  have kb : ∀ b o, s.heap.get? b = some o → (h'.push { cls := .type "list", data := .seq (as.map Value.ref).toArray }).get? b = some o := fun b o e => Heap.get?_push_of_some _ (hk b o e)
  have ne0 : ∀ b o, h'.get? b = some o → b ≠ h'.objs.size := fun b o e => Nat.ne_of_lt (Heap.lt_size e)
  generalize hh2 : h'.push { cls := .type "list", data := .seq (as.map Value.ref).toArray } = h2 at hob kb ⊢
  have ka : ∀ b o, h'.get? b = some o → h2.get? b = some o := fun b o e => by rw [← hh2]; exact Heap.get?_push_of_some _ e
  -- the pairs that were made
  have pr : ∀ (j : Nat) (b : Addr), as[j]? = some b → ∃ (e : Str × Int) (t u : Tok), rw_[j]? = some e ∧ h'.get? b = some { cls := .type "tuple", data := .seq #[.str e.1 t, .int e.2 u] } := by
    intro j b hj
    obtain ⟨en, he, hg⟩ := hG.pairs j b hj
    obtain ⟨e, t, u, c1, c2, c3⟩ := pairs_at (j := j) (e := en) hpr rk (by simpa using he)
    exact ⟨e, t, u, c1, by rw [hg, c2, c3]⟩
  have rowAt : ∀ (j : Nat) (b : Addr) (e : Str × Int), as[j]? = some b → rw_[j]? = some e → rowH h2 (.ref b) = e := by
    intro j b e hj he
    obtain ⟨e', t, u, c1, c2⟩ := pr j b hj
    rw [he] at c1
    cases c1
    exact rowH_at (ka _ _ c2) rfl
  have rows : (as.map Value.ref).map (rowH h2) = rw_ := by
    refine List.ext_getElem? fun j => ?_
    rw [List.getElem?_map, List.getElem?_map]
    cases hj : as[j]? with
    | none =>
      have : as.length ≤ j := List.getElem?_eq_none_iff.mp hj
      rw [List.getElem?_eq_none (by omega)]
      rfl
    | some b =>
      obtain ⟨e, t, u, c1, c2⟩ := pr j b hj
      rw [c1]
      show some (rowH h2 (.ref b)) = some e
      rw [rowAt j b e hj c1]
  have isS : ∀ v ∈ as.map Value.ref, SrtG.IsSI h2 v (rowH h2 v).1 (rowH h2 v).2 := by
    intro v hv
    obtain ⟨b, hb, rfl⟩ := List.mem_map.mp hv
    obtain ⟨j, hj⟩ := List.mem_iff_getElem?.mp hb
    obtain ⟨e, t, u, c1, c2⟩ := pr j b hj
    rw [rowAt j b e hj c1]
    exact ⟨b, _, t, u, _, rfl, ka _ _ c2, rfl, rfl⟩
  refine wpAny_call_entry PyProof.Rows.slot_list_sort ⟨_, hob, rfl⟩ PyProof.Rows.entry_list_sort
    (SrtO.list_sort_ord (s := { s with heap := h2, toks := tk }) (SrtG.swo_lx _ (rowH h2)) hob (by rw [List.length_map]; omega) (fun h2' => SrtG.si_sortableO (by omega) isS fun o' e => ?_) fun out hs hb => ⟨.none, rfl, ?_⟩) (PyProof.Rows.args_list_sort _)
  · have e' : some o' = some (seqObj "list" (as.map Value.ref).toArray 0) := e.symm.trans hob
    cases e'
    intro c
    exact absurd (Value.type.inj c) (by decide)
  · show EP X pins σ Q (.ref h'.objs.size) { s with heap := sortedHeap h2 h'.objs.size (as.map Value.ref) out.toArray, toks := tk }
    have kF : ∀ b o, b ≠ h'.objs.size → h2.get? b = some o → (sortedHeap h2 h'.objs.size (as.map Value.ref) out.toArray).get? b = some o := fun b o hb e => (PyProof.Rows.sortedHeap_old hb (Heap.lt_size e)).trans e
    have kS : ∀ b o, s.heap.get? b = some o → (sortedHeap h2 h'.objs.size (as.map Value.ref) out.toArray).get? b = some o := fun b o e => kF b o (ne0 _ _ (hk b o e)) (kb b o e)
    obtain ⟨eF, heF⟩ := PyProof.Rows.sortedHeap_at (vs := as.map Value.ref) (out := out.toArray) hob
    have I1 : Inv X pins σ H { s with heap := sortedHeap h2 h'.objs.size (as.map Value.ref) out.toArray, toks := tk } := I.kept (t' := tk) kS
    have hn0 : H h'.objs.size = none := I.hok.fresh (Nat.le_of_lt hlt)
    have hrefs : ∀ u ∈ out, ∃ b, u = Value.ref b ∧ b ∈ as := fun u hu => by
      obtain ⟨b, hb', rfl⟩ := List.mem_map.mp (hb.perm.mem_iff.mp hu)
      exact ⟨b, rfl, hb'⟩
    have hlen : (out.map backV).length ≤ sizeLine := by
      rw [List.length_map, hb.perm.length_eq, List.length_map]
      omega
    have I2 : Inv X pins σ (upd H h'.objs.size (.lst (out.map backV))) { s with heap := sortedHeap h2 h'.objs.size (as.map Value.ref) out.toArray, toks := tk } :=
      I1.take (h' := sortedHeap h2 h'.objs.size (as.map Value.ref) out.toArray) (t' := tk) (fun b ob _ e => e) (I.fpOk (Nat.le_of_lt hlt) hn0) ⟨hlen, out, eF, vals_back fun u hu => let ⟨b, e, _⟩ := hrefs u hu; ⟨b, e⟩, heF⟩
    obtain ⟨H2, I3, g, qt⟩ := DX.takeT (P := fun b vs => vs = [.str (rowH h2 (.ref b)).1, .int (rowH h2 (.ref b)).2]) I as _ I2 nd fun b hb => by
      obtain ⟨j, hj⟩ := List.mem_iff_getElem?.mp hb
      obtain ⟨e, t, u, c1, c2⟩ := pr j b hj
      have hbl : s.heap.objs.size ≤ b := Nat.le_of_lt (hG.above b hb)
      have er := rowAt j b e hj c1
      refine ⟨hbl, ?_, [.str e.1, .int e.2], by rw [er], fun H3 => ⟨(by rw [sizeLine_eq]; show 2 ≤ 16777216; omega), [Value.str e.1 t, Value.int e.2 u], .cons ⟨t, rfl⟩ (.cons ⟨u, rfl⟩ .nil), ⟨_, kF _ _ (ne0 _ _ c2) (ka _ _ c2), rfl, 0, rfl⟩⟩⟩
      rw [upd_ne (ne0 _ _ c2)]
      exact I.hok.fresh hbl
    have gr : ∀ b o, H b = some o → H2 b = some o := fun b o e => g b o (by rw [upd_ne (ne_of_none e hn0)]; exact e)
    have hP : PrsL H2 (out.map backV) (out.map (rowH h2)) := by
      have : ∀ l : List Value, (∀ u ∈ l, ∃ b, u = Value.ref b ∧ b ∈ as) → PrsL H2 (l.map backV) (l.map (rowH h2)) := by
        intro l
        induction l with
        | nil => exact fun _ => .nil
        | cons u l ih =>
          intro hl
          obtain ⟨b, rfl, hb'⟩ := hl u List.mem_cons_self
          obtain ⟨vs', ev, hv⟩ := qt b hb'
          rw [ev] at hv
          exact .cons hv (ih fun v hv => hl v (List.mem_cons_of_mem _ hv))
      exact this out hrefs
    refine ⟨.ref h'.objs.size, H2, I3, rfl, q H2 h'.objs.size _ _ gr hn0 ?_ (SrtO.srtd_map (f := rowH h2) hs) (g _ _ upd_same) hP⟩
    rw [← rows]
    exact hb.perm.map _
end G


namespace G
open PySem PySem.Spec PyProof.Rows L2
/-- the tuples stay -/
def Tp (H H' : Hp) : Prop := ∀ a xs, H a = some (.tup xs) → H' a = some (.tup xs)
theorem Tp.refl (H : Hp) : Tp H H := fun _ _ h => h
theorem Tp.trans {H H1 H2 : Hp} (a : Tp H H1) (b : Tp H1 H2) : Tp H H2 := fun x o h => b x o (a x o h)
theorem Tp.same {H H' : Hp} (h : Same H H') : Tp H H' := fun a xs e => h a _ e
theorem Tp.lst {H : Hp} {D : Addr} {ys : List V} {o : HO} (h : H D = some (.lst ys)) : Tp H (upd H D o) := fun a xs e => by
  have : a ≠ D := fun z => by rw [z, h] at e; cases e
  rw [upd_ne this]
  exact e
theorem Tp.dK {H : Hp} {D : Addr} {ys : List (Key × V)} {o : HO} (h : H D = some (.dK ys)) : Tp H (upd H D o) := fun a xs e => by
  have : a ≠ D := fun z => by rw [z, h] at e; cases e
  rw [upd_ne this]
  exact e
/-- a claim about a value that tuples alone decide -/
def TpR {β : Type} (Rel : Hp → V → β → Prop) : Prop := ∀ H H' v b, Tp H H' → Rel H v b → Rel H' v b
theorem paired_tp {β : Type} {Rel : Hp → V → β → Prop} (st : TpR Rel) {H H' : Hp} (t : Tp H H') : ∀ {vs : List V} {bs : List β}, Paired (Rel H) vs bs → Paired (Rel H') vs bs
  | _, _, .nil => .nil
  | _, _, .cons h r => .cons (st _ _ _ _ t h) (paired_tp st t r)
theorem range_snoc {β : Type} (F : Nat → Option β) (i : Nat) : (List.range (i + 1)).filterMap F = (List.range i).filterMap F ++ (F i).toList := by
  rw [List.range_succ, List.filterMap_append]
  congr 1
/-- a comprehension that writes nothing but new things: the i-th turn gives F i -/
theorem lcR {β : Type} {J : It} {n : Nat} {GG : Hp → Prop} {Y : Nat → Hp → V → Hp → Prop} {g : TG} {tt : TT} {te : TE} {vs : List Nat} {σ : L2.St} {H : Hp} {Q : VK} (w : Walk J n GG Y) (F : Nat → Option β) (Rel : Hp → V → β → Prop) (st : TpR Rel)
    (hG : ∀ H1, Same H H1 → GG H1) (hY : ∀ i H1 x H2, Y i H1 x H2 → Same H1 H2) (hl : n ≤ 1000000)
    (hs : ∀ i x H1 H2 (K1 : VK) (K2 : Hp → Prop), i < n → Same H H1 → Y i H1 x H2 → (∀ y H4 b, F i = some b → Same H2 H4 → Rel H4 y b → K1 y H4) → (∀ H4, F i = none → Same H2 H4 → K2 H4) →
      g x (wipe σ vs) H2 fun σ2 H3 => wipe σ2 vs = wipe σ vs ∧ tt σ2 H3 fun b H4 => if b = true then te σ2 H4 K1 else K2 H4)
    (h : ∀ D H' ys, H D = none → Same H H' → H' D = some (.lst ys) → Paired (Rel H') ys ((List.range n).filterMap F) → Q (.ref D) H') : LC J g tt te vs σ Q H := by
  intro D hD
  refine lc_it w (fun i H1 => Same H H1 ∧ ∃ ys, H1 D = some (.lst ys) ∧ ys.length ≤ i ∧ Paired (Rel H1) ys ((List.range i).filterMap F)) ⟨?_, [], upd_same, Nat.le_refl _, .nil⟩ (fun i H1 _ q => hG H1 q.1) ?_ ?_
  · intro a o e
    rw [upd_ne (ne_of_none e hD)]
    exact e
  · rintro i x H1 H2 hi ⟨r, ys, hd, hy, hp⟩ hyl
    have r12 := hY i H1 x H2 hyl
    refine hs i x H1 H2 _ _ hi r hyl ?_ ?_
    · intro y H4 b hb r4 rel
      have hd4 : H4 D = some (.lst ys) := r4 _ _ (r12 _ _ hd)
      refine ⟨ys, hd4, sz2 (by omega), ?_, ys ++ [y], upd_same, by simp; omega, ?_⟩
      · intro a o e
        rw [upd_ne (ne_of_none e hD)]
        exact r4 _ _ (r12 _ _ (r _ _ e))
      · rw [range_snoc, hb]
        exact Paired.snoc (paired_tp st ((Tp.same (r12.trans r4)).trans (Tp.lst hd4)) hp) (st _ _ _ _ (Tp.lst hd4) rel)
    · intro H4 hb r4
      refine ⟨r.trans (r12.trans r4), ys, r4 _ _ (r12 _ _ hd), by omega, ?_⟩
      rw [range_snoc, hb]
      show Paired _ _ (_ ++ [])
      rw [List.append_nil]
      exact paired_tp st (Tp.same (r12.trans r4)) hp
  · rintro H1 ⟨r, ys, hd, hy, hp⟩
    exact h D H1 ys hD r hd hp
/-- the values themselves -/
theorem paired_eq {β : Type} {f : β → V} : ∀ {vs : List V} {bs : List β}, Paired (fun v b => v = f b) vs bs → vs = bs.map f
  | _, _, .nil => rfl
  | _, _, .cons h r => by rw [h, paired_eq r]; rfl
def PrR (H : Hp) (v : V) (p : Str × Int) : Prop := ∃ t, v = .ref t ∧ H t = some (.tup [.str p.1, .int p.2])
theorem tpR_pr : TpR PrR := by
  rintro H H' v p t ⟨a, e, h⟩
  exact ⟨a, e, t _ _ h⟩
theorem tpR_eq {β : Type} {f : β → V} : TpR (fun _ v b => v = f b) := fun _ _ _ _ _ h => h
theorem PrsL.of_paired {H : Hp} : ∀ {vs : List V} {bs : Row}, Paired (PrR H) vs bs → PrsL H vs bs
  | _, _, .nil => .nil
  | _, _, .cons ⟨t, e, h⟩ r => by
    subst e
    exact .cons h (PrsL.of_paired r)
theorem PrsL.tp {H H' : Hp} (t : Tp H H') : ∀ {xs : List V} {r : Row}, PrsL H xs r → PrsL H' xs r
  | _, _, .nil => .nil
  | _, _, .cons h r => .cons (t _ _ h) (r.tp t)
/-- by index -/
theorem range_get {α β : Type} (f : α → Option β) : ∀ l : List α, (List.range l.length).filterMap (fun i => l[i]?.bind f) = l.filterMap f := by
  intro l
  induction l with
  | nil => rfl
  | cons a l ih =>
    rw [List.length_cons, List.range_succ_eq_map, List.filterMap_cons, List.filterMap_map]
    have e : ((fun i => (a :: l)[i]?.bind f) ∘ Nat.succ) = fun i => l[i]?.bind f := by
      funext i
      simp
    rw [e, ih, List.filterMap_cons]
    rfl
/-- {k: v for .. in ..} over something that stays -/
def DC (J : It) (g : TG) (tt : TT) (tk tv : TE) (vs : List Nat) (σ : L2.St) (Q : VK) (H1 : Hp) : Prop := ∀ D, H1 D = none → ∃ W : Nat → Nat → Hp → Prop, (∃ m, W 0 m (upd H1 D (.dK []))) ∧ ∀ i m H, W i m H →
  (J.stop i H ∧ Q (.ref D) H) ∨ (J.go i H ∧ ∃ Nx : Hp → Prop, (∀ H', Nx H' → ∃ m', m' < m ∧ W (i + 1) m' H') ∧ ∀ x H', J.yld i H x H' → g x (wipe σ vs) H' fun σ2 H2 => wipe σ2 vs = wipe σ vs ∧ tt σ2 H2 fun b H3 =>
    if b = true then tk σ2 H3 fun y H4 => tv σ2 H4 fun z H5 => ∃ kvs k, y = kV k ∧ H5 D = some (.dK kvs) ∧ kvs.length < sizeLine ∧ Nx (upd H5 D (.dK (putK kvs k z))) else Nx H3)
theorem s_dc {wi : TI} {g : TG} {tt : TT} {tk tv : TE} {vs : List Nat} {σ : L2.St} {H : Hp} {Q : VK} (h : wi σ H fun J H1 => DC J g tt tk tv vs σ Q H1) : tDc wi g tt tk tv vs σ H Q := h
theorem mergeK_snoc (kvs l : List (Key × V)) (p : Key × V) : mergeK kvs (l ++ [p]) = putK (mergeK kvs l) p.1 p.2 := by
  unfold mergeK
  rw [List.foldl_append]
  rfl
theorem dcR {J : It} {n : Nat} {GG : Hp → Prop} {Y : Nat → Hp → V → Hp → Prop} {g : TG} {tt : TT} {tk tv : TE} {vs : List Nat} {σ : L2.St} {H : Hp} {Q : VK} (w : Walk J n GG Y) (l : List (Key × V)) (ln : l.length = n)
    (hG : ∀ H1, Same H H1 → GG H1) (hY : ∀ i H1 x H2, Y i H1 x H2 → Same H1 H2) (hl : n ≤ 1000000)
    (hs : ∀ i x H1 H2 (p : Key × V) (K1 : V → V → Hp → Prop) (K2 : Hp → Prop), l[i]? = some p → Same H H1 → Y i H1 x H2 → (∀ H4, Same H2 H4 → K1 (kV p.1) p.2 H4) →
      g x (wipe σ vs) H2 fun σ2 H3 => wipe σ2 vs = wipe σ vs ∧ tt σ2 H3 fun b H4 => if b = true then tk σ2 H4 fun y H5 => tv σ2 H5 fun z H6 => K1 y z H6 else K2 H4)
    (h : ∀ D H', H D = none → Same H H' → H' D = some (.dK (mergeK [] l)) → Q (.ref D) H') : DC J g tt tk tv vs σ Q H := by
  intro D hD
  refine ⟨fun i m H1 => m = n - i ∧ i ≤ n ∧ Same H H1 ∧ H1 D = some (.dK (mergeK [] (l.take i))), ⟨n, by simp, Nat.zero_le _, ?_, upd_same⟩, ?_⟩
  · intro a o e
    rw [upd_ne (ne_of_none e hD)]
    exact e
  · rintro i m H1 ⟨rfl, hi, r, hd⟩
    by_cases hlt : i < n
    · refine .inr ⟨w.goes i H1 hlt (hG _ r), fun H' => Same H H' ∧ H' D = some (.dK (mergeK [] (l.take (i + 1)))), fun H' p' => ⟨n - (i + 1), by omega, rfl, hlt, p'.1, p'.2⟩, fun x H2 y => ?_⟩
      have y := w.yields i H1 x H2 hlt (hG _ r) y
      have r12 := hY i H1 x H2 y
      obtain ⟨p, hp⟩ : ∃ p, l[i]? = some p := ⟨l[i], List.getElem?_eq_getElem (by omega)⟩
      have et : l.take (i + 1) = l.take i ++ [p] := by rw [List.take_add_one, hp]; rfl
      refine hs i x H1 H2 p (fun y z H5 => ∃ kvs k, y = kV k ∧ H5 D = some (.dK kvs) ∧ kvs.length < sizeLine ∧ (Same H (upd H5 D (.dK (putK kvs k z))) ∧ (upd H5 D (.dK (putK kvs k z))) D = some (.dK (mergeK [] (l.take (i + 1)))))) _ hp r y ?_
      intro H4 r4
      have hd4 : H4 D = some (.dK (mergeK [] (l.take i))) := r4 _ _ (r12 _ _ hd)
      refine ⟨_, p.1, rfl, hd4, ?_, ?_, ?_⟩
      · refine Nat.lt_of_le_of_lt (length_mergeK (l.take i) []) ?_
        rw [List.length_nil, List.length_take]
        exact sz2 (by omega)
      · intro a o e
        rw [upd_ne (ne_of_none e hD)]
        exact r4 _ _ (r12 _ _ (r _ _ e))
      · rw [upd_same, et, mergeK_snoc]
    · have e : i = n := by omega
      subst e
      refine .inl ⟨w.stops H1 (hG _ r), h D H1 hD r ?_⟩
      rw [hd, List.take_of_length_le (by omega)]
/-! ### a dict that is read while it is locked -/
theorem lock_same {H H' : Hp} {d : Addr} {od : Obj} {u : HO} (h : H d = some u) (r : Same (upd H d (.frz od u)) H') : H' d = some (.frz od u) ∧ Same H (upd H' d u) := by
  refine ⟨r _ _ upd_same, fun a o e => ?_⟩
  by_cases z : a = d
  · subst z
    rw [h] at e
    cases e
    exact upd_same
  · rw [upd_ne z]
    exact r _ _ (by rw [upd_ne z]; exact e)
theorem s_lock {t : TS} {D : Ends} {σ : L2.St} {H : Hp} {d : Addr} {kvs : List (Key × V)} (h : H d = some (.dK kvs))
    (k : ∀ od, t ⟨fun σ' H' => H' d = some (.frz od (.dK kvs)) ∧ D.nx σ' (upd H' d (.dK kvs)), fun v H' => H' d = some (.frz od (.dK kvs)) ∧ D.rt v (upd H' d (.dK kvs)), fun σ' H' => H' d = some (.frz od (.dK kvs)) ∧ D.bk σ' (upd H' d (.dK kvs)), fun σ' H' => H' d = some (.frz od (.dK kvs)) ∧ D.ct σ' (upd H' d (.dK kvs))⟩ σ (upd H d (.frz od (.dK kvs)))) : tLock t D σ H :=
  ⟨d, _, h, trivial, k⟩
theorem s_lockE {t : TE} {σ : L2.St} {H : Hp} {Q : VK} {d : Addr} {kvs : List (Key × V)} (h : H d = some (.dK kvs))
    (k : ∀ od, t σ (upd H d (.frz od (.dK kvs))) fun v H' => H' d = some (.frz od (.dK kvs)) ∧ Q v (upd H' d (.dK kvs))) : tLockE t σ H Q := ⟨d, _, h, trivial, k⟩
theorem s_keys {td : TE} {σ : L2.St} {H : Hp} {R : It → Hp → Prop} (h : td σ H fun x H1 => ∃ d o, x = .ref d ∧ ((∃ kvs, H1 d = some (.frz o (.dK kvs)) ∧ R (Itk d o kvs) H1) ∨ ∃ kvs, H1 d = some (.frz o (.dT kvs)) ∧ R (Itkt d o kvs) H1)) : iKeys td σ H R := h
theorem s_keysE {H : Hp} {R : It → Hp → Prop} {d : Addr} {o : Obj} {kvs : List (Key × V)} (e : H d = some (.frz o (.dK kvs))) (h : R (Itk d o kvs) H) : ∃ d' o', V.ref d = .ref d' ∧ ((∃ kvs, H d' = some (.frz o' (.dK kvs)) ∧ R (Itk d' o' kvs) H) ∨ ∃ kvs, H d' = some (.frz o' (.dT kvs)) ∧ R (Itkt d' o' kvs) H) := ⟨d, o, rfl, .inl ⟨kvs, e, h⟩⟩
/-! a text's replace, then its split: a token must be out -/
section
variable {X : Cx} {o e a c : Expr} {to te ta tb : TE} {z : Str} {j : Nat} {pos p : Pos}
theorem pet_split {apos pos : Pos} (ho : L2.PET X o to) (he : PE X e te) (hs : starEach [e] X.env = [(false, eval e X.env)] := by rfl) (hbase : attributeBase o "split" X.env (eval o X.env) = eval o X.env := by rfl) (hline : (apos.endLine == pos.line) = true := by rfl) :
    L2.PET X (.Call (.Attribute o "split" apos) [e] [] pos) (tM1 (fun x xs H Q => ∃ a b, x = .str a ∧ xs = [.str b] ∧ (b.length == 0) = false ∧ a.length + 2 ≤ sizeLine ∧ rNewStrs (Txt.split a b) H Q) to te) := by
  intro pins s σ H Q h0 I h
  refine PySem.Call_method1 hbase hs hline (thn (ho pins s σ H _ h0 I h) fun v s1 ⟨x, H1, I1, r1, q1⟩ => ?_)
  obtain ⟨⟨a, rfl⟩, q1⟩ := q1
  obtain ⟨t, rfl⟩ := _root_.id r1
  refine ⟨"str", _, F.plainAttrs_str, F.slot_str_split, F.type_str_split, typeIs_str _ _ _, (fun _ e => nomatch e), Calls.callWith_builtin rfl (Calls.evalArgs_plain (Calls.spliced_cons ?_))⟩
  exact thn (he.run pins s1 σ H1 _ I1 q1) fun u s2 ⟨y, H2, I2, r2, q2⟩ => Calls.spliced_nil (mt_split pins s2 σ H2 _ [y] _ [u] Q I2 r1 (.cons r2 .nil) q2)
/-- a if e == "z" else c -/
theorem pe_ifC (he : PE X e te) (ha : PE X a ta) (hc : L2.PET X c tb) {p1 p2 : Pos} : PE X (.IfExp (.Compare e [.Eq] [.Constant (.str z) j p1] p2) a c pos) (tIf (tTest (tOp rEq te (tC (.str z)))) ta tb) := by
  refine ⟨fun pins s σ H Q I h => ?_⟩
  refine wpAny_IfExp (wpAny_isTrue_Compare1 (thn (he.run pins s σ H _ I h) fun v s1 ⟨x, H1, I1, r1, q1⟩ => Calls.Constant_str ?_) (nomark _))
  have I2 := I1.tok (s1.toks + 1)
  have q1 : rEq x (.str z) H1 fun x H' => ∃ k, x = V.bl k ∧ (if k = true then ta σ H' Q else tb σ H' Q) := q1
  have run := PySem.wpAny_toks (op_eq pins { s1 with toks := s1.toks + 1 } σ H1 x (.str z) v (.str z s1.toks) _ I2 r1 ⟨_, rfl⟩ q1)
  refine wpAny_mono run (fun b s3 q => ?_) fun _ _ z => z.2
  obtain ⟨hk, w', H3, I3, r3, k, e3, q3⟩ := q
  subst e3
  cases r3
  refine wpAny_truthy_bool ?_
  cases k with
  | true => exact ha.run pins s3 σ H3 Q I3 q3
  | false => exact hc pins s3 σ H3 Q (Nat.le_trans (Nat.succ_le_succ (Nat.zero_le _)) hk) I3 q3
end
end G


namespace G
open PySem PySem.Spec PyProof.Rows L2
/-! ### rows: texts with ints -/
def keysR (r : Row) : List Str := r.map (·.1)
def putR (r : Row) (x : Str) (i : Int) : Row := if (r.any fun p => decide (p.1 = x)) = true then r.map (fun p => if p.1 = x then (p.1, i) else p) else r ++ [(x, i)]
def valR (r : Row) (x : Str) : Option Int := (r.find? fun p => decide (p.1 = x)).map (·.2)
def fac (r : Row) (x : Str) : Int := (valR r x).getD 0
def mergeR (r s : Row) : Row := s.foldl (fun acc p => putR acc p.1 p.2) r
/-- a row and a multiple of another one -/
def sumR (r s : Row) (t : Int) : Row := s.foldl (fun acc p => putR acc p.1 (fac acc p.1 + p.2 * t)) r
theorem kvR_any (r : Row) (x : Str) : ((kvR r).any fun kv => decide (kv.1 = Sum.inr x)) = r.any fun p => decide (p.1 = x) := by
  unfold kvR
  rw [List.any_map]
  congr 1
  funext p
  simp
theorem kvR_put (r : Row) (x : Str) (i : Int) : putK (kvR r) (Sum.inr x) (.int i) = kvR (putR r x i) := by
  unfold putK putR
  rw [kvR_any]
  by_cases h : (r.any fun p => decide (p.1 = x)) = true
  · rw [if_pos h, if_pos h]
    unfold kvR
    rw [List.map_map, List.map_map]
    refine List.map_congr_left fun p _ => ?_
    by_cases e : p.1 = x
    · simp [e]
    · simp [e]
  · rw [if_neg h, if_neg h]
    unfold kvR
    rw [List.map_append]
    rfl
theorem kvR_val (r : Row) (x : Str) : valV (kvR r) (Sum.inr x) = (valR r x).map V.int := by
  unfold valV valR kvR
  rw [List.find?_map]
  have e : ((fun kv : Key × V => decide (kv.1 = Sum.inr x)) ∘ fun p : Str × Int => ((Sum.inr p.1 : Key), V.int p.2)) = fun p => decide (p.1 = x) := by
    funext p
    simp
  rw [e]
  cases r.find? fun p => decide (p.1 = x) <;> rfl
theorem kvR_merge : ∀ (s r : Row), mergeK (kvR r) (kvR s) = kvR (mergeR r s)
  | [], r => rfl
  | p :: s, r => by
    show mergeK (putK (kvR r) (Sum.inr p.1) (V.int p.2)) (kvR s) = _
    rw [kvR_put, kvR_merge s]
    rfl
theorem kvR_len (r : Row) : (kvR r).length = r.length := by unfold kvR; exact List.length_map _
/-! what putR does -/
theorem valR_none {r : Row} {x : Str} : valR r x = none ↔ x ∉ keysR r := by
  unfold valR keysR
  rw [Option.map_eq_none_iff, List.find?_eq_none]
  constructor
  · rintro h m
    obtain ⟨p, hp, e⟩ := List.mem_map.mp m
    exact h p hp (by simpa using e)
  · intro h p hp e
    exact h (List.mem_map.mpr ⟨p, hp, by simpa using e⟩)
theorem any_keys {r : Row} {x : Str} : (r.any fun p => decide (p.1 = x)) = true ↔ x ∈ keysR r := by
  unfold keysR
  rw [List.any_eq_true, List.mem_map]
  simp
theorem keysR_put (r : Row) (x : Str) (i : Int) : keysR (putR r x i) = if x ∈ keysR r then keysR r else keysR r ++ [x] := by
  unfold putR
  by_cases h : x ∈ keysR r
  · rw [if_pos (any_keys.mpr h), if_pos h]
    unfold keysR
    rw [List.map_map]
    refine List.map_congr_left fun p _ => ?_
    by_cases e : p.1 = x <;> simp [e]
  · rw [if_neg (fun z => h (any_keys.mp z)), if_neg h]
    unfold keysR
    rw [List.map_append]
    rfl
theorem nodup_put {r : Row} {x : Str} {i : Int} (h : (keysR r).Nodup) : (keysR (putR r x i)).Nodup := by
  rw [keysR_put]
  split
  · exact h
  · rename_i hx
    rw [List.nodup_append]
    refine ⟨h, by simp, fun a ha b hb e => ?_⟩
    have : b = x := by simpa using hb
    exact hx (by rw [← this, ← e]; exact ha)
theorem find_map_put (x y : Str) (i : Int) : ∀ r : Row, valR (r.map fun p => if p.1 = x then (p.1, i) else p) y = if y = x then (if x ∈ keysR r then some i else none) else valR r y
  | [] => by simp [valR, keysR]
  | p :: r => by
    have ih := find_map_put x y i r
    unfold valR at ih ⊢
    rw [List.map_cons, List.find?_cons, List.find?_cons]
    by_cases e : p.1 = x
    · simp only [e, if_true]
      by_cases e2 : x = y
      · subst e2
        simp [keysR, e]
      · have e3 : ¬ y = x := fun z => e2 z.symm
        simp only [e2, decide_false, e3, if_false] at ih ⊢
        exact ih
    · simp only [e, if_false]
      by_cases e2 : p.1 = y
      · have e3 : ¬ y = x := fun z => e (e2.trans z)
        simp [e2, e3]
      · simp only [e2, decide_false]
        rw [ih]
        have e4 : x ∈ keysR (p :: r) ↔ x ∈ keysR r := by
          unfold keysR
          rw [List.map_cons, List.mem_cons]
          exact ⟨fun h => h.resolve_left fun z => e z.symm, .inr⟩
        simp only [e4]
theorem valR_app (r s : Row) (y : Str) : valR (r ++ s) y = (valR r y).or (valR s y) := by
  unfold valR
  rw [List.find?_append]
  cases r.find? fun p => decide (p.1 = y) <;> simp
theorem valR_put (r : Row) (x y : Str) (i : Int) : valR (putR r x i) y = if y = x then some i else valR r y := by
  unfold putR
  by_cases h : x ∈ keysR r
  · rw [if_pos (any_keys.mpr h), find_map_put]
    simp [h]
  · rw [if_neg (fun z => h (any_keys.mp z)), valR_app]
    by_cases e : y = x
    · subst e
      rw [valR_none.mpr h]
      simp [valR]
    · have e2 : ¬ x = y := fun z => e z.symm
      have : valR [(x, i)] y = none := by simp [valR, e2]
      rw [this, if_neg e]
      cases valR r y <;> rfl
theorem fac_put (r : Row) (x y : Str) (i : Int) : fac (putR r x i) y = if y = x then i else fac r y := by
  unfold fac
  rw [valR_put]
  split <;> rfl
theorem fac_nil (x : Str) : fac [] x = 0 := rfl
theorem fac_cons (p : Str × Int) (r : Row) (x : Str) : fac (p :: r) x = if p.1 = x then p.2 else fac r x := by
  unfold fac valR
  rw [List.find?_cons]
  by_cases e : p.1 = x <;> simp [e]
theorem fac_out {r : Row} {x : Str} (h : x ∉ keysR r) : fac r x = 0 := by
  unfold fac
  rw [valR_none.mpr h]
  rfl
theorem fac_mem {r : Row} (nd : (keysR r).Nodup) {p : Str × Int} (h : p ∈ r) : fac r p.1 = p.2 := by
  induction r with
  | nil => simp at h
  | cons q r ih =>
    rw [fac_cons]
    unfold keysR at nd
    rw [List.map_cons, List.nodup_cons] at nd
    rcases List.mem_cons.mp h with rfl | h
    · simp
    · have : q.1 ≠ p.1 := fun z => nd.1 (by rw [z]; exact List.mem_map.mpr ⟨p, h, rfl⟩)
      rw [if_neg this]
      exact ih nd.2 h
theorem mem_keys {r : Row} {p : Str × Int} (h : p ∈ r) : p.1 ∈ keysR r := List.mem_map.mpr ⟨p, h, rfl⟩
/-! sums -/
theorem sum_snoc (r s : Row) (p : Str × Int) (t : Int) : sumR r (s ++ [p]) t = putR (sumR r s t) p.1 (fac (sumR r s t) p.1 + p.2 * t) := by
  unfold sumR
  rw [List.foldl_append]
  rfl
theorem fac_sum (t : Int) (x : Str) : ∀ (s r : Row), (keysR s).Nodup → fac (sumR r s t) x = fac r x + fac s x * t
  | [], r, _ => by
    show fac r x = fac r x + 0 * t
    omega
  | p :: s, r, nd => by
    have nd' := List.nodup_cons.mp (show (p.1 :: keysR s).Nodup from nd)
    show fac (sumR (putR r p.1 (fac r p.1 + p.2 * t)) s t) x = _
    rw [fac_sum t x s _ nd'.2, fac_put, fac_cons]
    by_cases e : p.1 = x
    · subst e
      rw [fac_out nd'.1]
      simp
    · have e2 : ¬ x = p.1 := fun z => e z.symm
      rw [if_neg e, if_neg e2]
theorem sum_nodup (t : Int) : ∀ (s r : Row), (keysR r).Nodup → (keysR (sumR r s t)).Nodup
  | [], r, h => h
  | p :: s, r, h => sum_nodup t s _ (nodup_put h)
theorem sum_keys (t : Int) (P : Str → Prop) : ∀ (s r : Row), (∀ x ∈ keysR r, P x) → (∀ x ∈ keysR s, P x) → ∀ x ∈ keysR (sumR r s t), P x
  | [], r, h, _ => h
  | p :: s, r, h, h2 => by
    refine sum_keys t P s _ ?_ fun x hx => h2 x (List.mem_cons_of_mem _ hx)
    intro x hx
    rw [keysR_put] at hx
    split at hx
    · exact h x hx
    · rcases List.mem_append.mp hx with hx | hx
      · exact h x hx
      · have : x = p.1 := by simpa using hx
        exact h2 x (by rw [this]; exact List.mem_cons_self)
theorem len_put (r : Row) (x : Str) (i : Int) : (putR r x i).length ≤ r.length + 1 := by
  unfold putR
  split <;> simp
theorem sum_len (t : Int) : ∀ (s r : Row), (sumR r s t).length ≤ r.length + s.length
  | [], r => Nat.le_refl _
  | p :: s, r => by
    have h1 := sum_len t s (putR r p.1 (fac r p.1 + p.2 * t))
    have h2 := len_put r p.1 (fac r p.1 + p.2 * t)
    show (sumR (putR r p.1 (fac r p.1 + p.2 * t)) s t).length ≤ _
    rw [List.length_cons]
    omega
theorem put_new {r : Row} {x : Str} {i : Int} (h : x ∉ keysR r) : putR r x i = r ++ [(x, i)] := by
  unfold putR
  rw [if_neg (fun z => h (any_keys.mp z))]
theorem merge_new : ∀ (s r : Row), (keysR (r ++ s)).Nodup → mergeR r s = r ++ s
  | [], r, _ => by rw [List.append_nil]; rfl
  | p :: s, r, h => by
    have hn : p.1 ∉ keysR r := by
      intro z
      unfold keysR at h z
      rw [List.map_append, List.nodup_append] at h
      exact h.2.2 _ z p.1 (by simp) rfl
    have e : r ++ p :: s = (r ++ [p]) ++ s := by simp
    show mergeR (putR r p.1 p.2) s = _
    rw [put_new hn, e]
    exact merge_new s (r ++ [p]) (by rw [← e]; exact h)
/-! ### the one row of a form: ascending, without 0 -/
structure Can (q : Row) : Prop where
  asc : (keysR q).Pairwise fun a b => a.cps.toList < b.cps.toList
  nz : ∀ p ∈ q, p.2 ≠ 0
theorem Can.nodup {q : Row} (h : Can q) : (keysR q).Nodup := List.Pairwise.imp (fun {a b} h e => by rw [e] at h; exact List.lt_irrefl _ h) h.asc
theorem Can.nil : Can [] := ⟨.nil, fun _ h => (List.not_mem_nil h).elim⟩
/-- q is the form's row of r -/
structure CanOf (r q : Row) : Prop where
  can : Can q
  fc : ∀ x, fac q x = fac r x
theorem Can.self {q : Row} (h : Can q) : CanOf q q := ⟨h, fun _ => rfl⟩
theorem can_keys {q : Row} (h : Can q) {x : Str} : x ∈ keysR q ↔ fac q x ≠ 0 := by
  constructor
  · intro m
    obtain ⟨p, hp, rfl⟩ := List.mem_map.mp m
    rw [fac_mem h.nodup hp]
    exact h.nz p hp
  · intro n
    exact Classical.byContradiction fun z => n (fac_out z)
theorem asc_uniq : ∀ {a b : List Str}, a.Pairwise (fun a b => a.cps.toList < b.cps.toList) → b.Pairwise (fun a b => a.cps.toList < b.cps.toList) → (∀ x, x ∈ a ↔ x ∈ b) → a = b
  | [], [], _, _, _ => rfl
  | [], y :: b, _, _, h => absurd ((h y).mpr List.mem_cons_self) List.not_mem_nil
  | x :: a, [], _, _, h => absurd ((h x).mp List.mem_cons_self) List.not_mem_nil
  | x :: a, y :: b, ha, hb, h => by
    have ha' := List.pairwise_cons.mp ha
    have hb' := List.pairwise_cons.mp hb
    have exy : x = y := by
      rcases List.mem_cons.mp ((h x).mp List.mem_cons_self) with e | m
      · exact e
      · rcases List.mem_cons.mp ((h y).mpr List.mem_cons_self) with e | m2
        · exact e.symm
        · exact absurd (hb'.1 x m) (SrtG.lst_asym (ha'.1 y m2))
    subst exy
    congr 1
    refine asc_uniq ha'.2 hb'.2 fun z => ?_
    have nx : ∀ {l : List Str}, (∀ b ∈ l, x.cps.toList < b.cps.toList) → x ∉ l := fun hl m => List.lt_irrefl _ (hl x m)
    constructor
    · intro m
      rcases List.mem_cons.mp ((h z).mp (List.mem_cons_of_mem _ m)) with e | m2
      · exact absurd (by rw [← e]; exact m) (nx ha'.1)
      · exact m2
    · intro m
      rcases List.mem_cons.mp ((h z).mpr (List.mem_cons_of_mem _ m)) with e | m2
      · exact absurd (by rw [← e]; exact m) (nx hb'.1)
      · exact m2
theorem row_eq : ∀ {a b : Row}, keysR a = keysR b → (keysR a).Nodup → (∀ x, fac a x = fac b x) → a = b
  | [], [], _, _, _ => rfl
  | [], _ :: _, h, _, _ => by simp [keysR] at h
  | _ :: _, [], h, _, _ => by simp [keysR] at h
  | p :: a, q :: b, h, nd, hf => by
    have h' : p.1 = q.1 ∧ keysR a = keysR b := by simpa [keysR] using h
    have nd' := List.nodup_cons.mp (show (p.1 :: keysR a).Nodup from nd)
    have e2 : p.2 = q.2 := by
      have := hf p.1
      rw [fac_cons, fac_cons, if_pos rfl, if_pos h'.1.symm] at this
      exact this
    have e : p = q := Prod.ext h'.1 e2
    subst e
    congr 1
    refine row_eq h'.2 nd'.2 fun x => ?_
    by_cases ex : p.1 = x
    · subst ex
      rw [fac_out nd'.1, fac_out (by rw [← h'.2]; exact nd'.1)]
    · have := hf x
      rw [fac_cons, fac_cons, if_neg ex, if_neg ex] at this
      exact this
theorem can_uniq {a b : Row} (ha : Can a) (hb : Can b) (h : ∀ x, fac a x = fac b x) : a = b := by
  refine row_eq (asc_uniq ha.asc hb.asc fun x => ?_) ha.nodup h
  rw [can_keys ha, can_keys hb, h x]
theorem CanOf.uniq {r a b : Row} (ha : CanOf r a) (hb : CanOf r b) : a = b := can_uniq ha.can hb.can fun x => (ha.fc x).trans (hb.fc x).symm
theorem fac_perm {a b : Row} (p : a.Perm b) (nd : (keysR a).Nodup) (x : Str) : fac a x = fac b x := by
  have nb : (keysR b).Nodup := (p.map _).nodup_iff.mp nd
  by_cases h : x ∈ keysR a
  · obtain ⟨q, hq, rfl⟩ := List.mem_map.mp h
    rw [fac_mem nd hq, fac_mem nb (p.mem_iff.mp hq)]
  · rw [fac_out h, fac_out (fun z => h ((p.map (·.1)).mem_iff.mpr z))]
theorem keys_filter {r : Row} {f : Str × Int → Bool} (nd : (keysR r).Nodup) : (keysR (r.filter f)).Nodup := List.Nodup.sublist ((List.filter_sublist).map _) nd
theorem fac_filter {r : Row} (nd : (keysR r).Nodup) (x : Str) : fac (r.filter fun p => decide (p.2 ≠ 0)) x = fac r x := by
  by_cases h : x ∈ keysR r
  · obtain ⟨q, hq, rfl⟩ := List.mem_map.mp h
    rw [fac_mem nd hq]
    by_cases z : q.2 = 0
    · rw [z]
      refine fac_out fun m => ?_
      obtain ⟨q', hq', e⟩ := List.mem_map.mp m
      have hq2 := List.mem_filter.mp hq'
      have := fac_mem nd hq2.1
      rw [e, fac_mem nd hq, z] at this
      have h2 := hq2.2
      simp [← this] at h2
    · exact fac_mem (keys_filter nd) (List.mem_filter.mpr ⟨hq, by simpa using z⟩)
  · rw [fac_out h]
    refine fac_out fun m => h ?_
    obtain ⟨q', hq', e⟩ := List.mem_map.mp m
    exact e ▸ mem_keys (List.mem_filter.mp hq').1
/-- what sorted gives of a row without its 0s -/
theorem can_of_sorted {r q : Row} (nd : (keysR r).Nodup) (s : SrtO.Srtd SrtG.lxB q) (p : q.Perm (r.filter fun p => decide (p.2 ≠ 0))) : CanOf r q := by
  have nq : (keysR q).Nodup := (p.map _).nodup_iff.mpr (keys_filter nd)
  refine ⟨⟨?_, fun x hx => ?_⟩, fun x => by rw [fac_perm p nq, fac_filter nd]⟩
  · have : q.Pairwise fun a b => a.1.cps.toList < b.1.cps.toList := by
      have s' : q.Pairwise fun a b => SrtG.lxB b a = false := s
      have nq' : q.Pairwise fun a b => a.1 ≠ b.1 := List.pairwise_map.mp nq
      refine List.Pairwise.imp ?_ (List.Pairwise.and s' nq')
      rintro a b ⟨h1, h2⟩
      have h1 := SrtG.lxB_no.mp h1
      refine Classical.byContradiction fun h3 => ?_
      exact h2 (SrtG.cps_inj (SrtG.lst_tri h3 fun z => h1 (.inl z)))
    exact List.pairwise_map.mpr this
  · have := (List.mem_filter.mp (p.mem_iff.mp hx)).2
    simpa using this
theorem CanOf.mem {r q : Row} (h : CanOf r q) {p : Str × Int} (hp : p ∈ q) : p.1 ∈ keysR r ∧ p.2 = fac r p.1 := by
  have e : p.2 = fac r p.1 := by rw [← h.fc, fac_mem h.can.nodup hp]
  refine ⟨Classical.byContradiction fun z => h.can.nz p hp ?_, e⟩
  rw [e, fac_out z]
theorem nodup_sub_len {a b : List Str} (nd : a.Nodup) (h : ∀ x ∈ a, x ∈ b) : a.length ≤ b.length := nodup_le a b nd h
theorem CanOf.len {r q : Row} (h : CanOf r q) : q.length ≤ r.length := by
  have : (keysR q).length ≤ (keysR r).length := nodup_sub_len h.can.nodup fun x hx => by
    obtain ⟨p, hp, rfl⟩ := List.mem_map.mp hx
    exact (h.mem hp).1
  unfold keysR at this
  simpa using this
end G


namespace G
open PySem PySem.Spec PyProof.Rows L2 TL
def symS (z : Str) : Bool := decide (z = "@") || nameS z
def absI (i : Int) : Int := if i < 0 then -i else i
/-- a term without its sign -/
def wordR (p : Str × Int) : Str := if absI p.2 = 1 then p.1 else Str.ofString (toString (absI p.2)) ++ "*" ++ p.1
def partR (p : Str × Int) : Str := if p.2 < 0 then "-" ++ wordR p else wordR p
def tailR (p : Str × Int) : Str := if p.2 < 0 then " - " ++ wordR p else " + " ++ wordR p
def wordsR : Row → List Str
  | [] => []
  | p :: r => partR p :: r.map tailR
/-- the text of a form -/
def textR (r : Row) : Str := if r = [] then "0" else Txt.join "" (wordsR r)
/-! ### cuts -/
abbrev Mi : List Nat := [32, 45, 32]
abbrev Pl : List Nat := [32, 43, 32]
abbrev Pm : List Nat := [32, 43, 32, 45]
theorem spl_free {acc rest : List Nat} : ∀ {h : List Nat}, 32 ∉ h → ∀ {acc : List Nat}, spl Mi 0 acc (h ++ rest) = spl Mi 0 (acc ++ h) rest
  | [], _, acc => by simp
  | c :: h, n, acc => by
    have hc : c ≠ 32 := fun z => n (by simp [z])
    have e : pre Mi (c :: (h ++ rest)) = false := by
      simp [pre]
      intro z
      exact absurd z hc
    show spl Mi 0 acc (c :: (h ++ rest)) = _
    rw [spl_miss e, spl_free (acc := acc ++ [c]) (fun z => n (by simp [z]))]
    simp
/-- a text of parts and signs -/
def tgl (h : List Nat) (rest : List (Bool × List Nat)) : List Nat := h ++ rest.flatMap fun b => (if b.1 then Mi else Pl) ++ b.2
theorem tgl_cons (h : List Nat) (b : Bool) (w : List Nat) (rest : List (Bool × List Nat)) : tgl h ((b, w) :: rest) = h ++ ((if b then Mi else Pl) ++ tgl w rest) := by
  simp [tgl, List.append_assoc]
theorem cut_minus : ∀ (rest : List (Bool × List Nat)) (h acc : List Nat), 32 ∉ h → (∀ b ∈ rest, 32 ∉ b.2 ∧ b.2.head? ≠ some 45 ∧ b.2 ≠ []) →
    joinL Pm (spl Mi 0 acc (tgl h rest)) = acc ++ joinL Pl (h :: rest.map fun b => if b.1 then 45 :: b.2 else b.2)
  | [], h, acc, hn, _ => by
    have e : tgl h [] = h := by simp [tgl]
    rw [e, spl_last1 hn]
    rfl
  | (true, w) :: rest, h, acc, hn, hr => by
    have hw := hr _ List.mem_cons_self
    rw [tgl_cons]
    have e := spl_part1 (s := 32) (S := [45, 32]) (p := h) (rest := tgl w rest) (acc := acc) hn
    have e' : spl Mi 0 acc (h ++ ((if true = true then Mi else Pl) ++ tgl w rest)) = (acc ++ h) :: spl Mi 0 [] (tgl w rest) := e
    rw [e']
    have ih := cut_minus rest w [] hw.1 fun b hb => hr b (List.mem_cons_of_mem _ hb)
    rw [List.nil_append] at ih
    cases hs : spl Mi 0 [] (tgl w rest) with
    | nil => exact absurd hs (by
        have : ∀ (k : Nat) (acc l : List Nat), spl Mi k acc l ≠ [] := by
          intro k acc l
          induction l generalizing k acc with
          | nil => rw [spl_nil]; simp
          | cons c r ih =>
            cases k with
            | zero =>
              unfold spl
              split
              · simp
              · exact ih _ _
            | succ k => exact ih k acc
        exact this _ _ _)
    | cons x xs =>
      rw [hs] at ih
      show (acc ++ h) ++ (Pm ++ joinL Pm (x :: xs)) = _
      rw [ih]
      show _ = acc ++ (h ++ (Pl ++ joinL Pl ((45 :: w) :: rest.map fun b => if b.1 then 45 :: b.2 else b.2)))
      have e2 : ∀ r : List (List Nat), joinL Pl ((45 :: w) :: r) = 45 :: joinL Pl (w :: r) := by
        intro r
        cases r <;> rfl
      rw [e2]
      simp
  | (false, w) :: rest, h, acc, hn, hr => by
    have hw := hr _ List.mem_cons_self
    rw [tgl_cons]
    have e' : spl Mi 0 acc (h ++ ((if false = true then Mi else Pl) ++ tgl w rest)) = spl Mi 0 (acc ++ h) (Pl ++ tgl w rest) := spl_free (acc := acc) hn
    rw [e']
    obtain ⟨c, cs, ec⟩ : ∃ c cs, tgl w rest = c :: cs := by
      cases hw2 : w with
      | nil => exact absurd hw2 hw.2.2
      | cons c cs => exact ⟨c, _, by simp [tgl]; rfl⟩
    have hc : c ≠ 45 := by
      intro z
      refine hw.2.1 ?_
      show w.head? = some 45
      cases hw2 : w with
      | nil => exact absurd hw2 hw.2.2
      | cons d ds =>
        rw [hw2] at ec
        simp [tgl] at ec
        rw [← z, ← ec.1]
        rfl
    have s1 : spl Mi 0 (acc ++ h) (32 :: 43 :: 32 :: c :: cs) = spl Mi 0 (acc ++ h ++ [32, 43, 32]) (c :: cs) := by
      rw [spl_miss (by simp [pre]), spl_miss (by simp [pre]), spl_miss (by simp [pre]; intro z; exact absurd z hc)]
      simp
    have ih := cut_minus rest w (acc ++ h ++ [32, 43, 32]) hw.1 fun b hb => hr b (List.mem_cons_of_mem _ hb)
    rw [ec] at ih ⊢
    show joinL Pm (spl Mi 0 (acc ++ h) (32 :: 43 :: 32 :: c :: cs)) = _
    rw [s1, ih]
    show _ = acc ++ (h ++ (Pl ++ joinL Pl (w :: rest.map fun b => if b.1 then 45 :: b.2 else b.2)))
    simp
theorem replace_join {x y z : Str} (hy : tl y ≠ []) (hk : y.cps.all (· < 256) = true) : Txt.replace x y z = Txt.join z (Txt.split x y) := by
  obtain ⟨f, g, hn⟩ := PySem.StrLaws.occ_tight x y (len1 hy)
  unfold Txt.replace Txt.split
  have hl : (y.length == 0) = false := by
    have := len1 hy
    simp
    omega
  by_cases h2 : (Builtin.Str.occurrences x y 0 x.length (x.length + 1)).isEmpty = true
  · rw [if_pos (by rw [h2]; rfl)]
    have j1 : Txt.join z [x] = x := by rw [join_eq]; rfl
    split
    · exact j1.symm
    · exact j1.symm
  · rw [if_neg (by rw [hl]; simp; simpa using h2)]
    have h1 : ¬ (decide (x.length < y.length) || decide (Builtin.Str.strKind x < Builtin.Str.strKind y)) = true := by
      simp only [Bool.or_eq_true, decide_eq_true_eq]
      rintro (h | h)
      · cases ho : Builtin.Str.occurrences x y 0 x.length (x.length + 1) with
        | nil => rw [ho] at h2; exact h2 rfl
        | cons c r =>
          rw [ho] at g
          have hc : c + y.length ≤ x.length := g.2.1.1
          omega
      · exact kind_ok hk h
    rw [if_neg h1, if_neg h2]
    rfl
/-! ### the parts of a text -/
theorem signs_ls {c : Nat} (h : c ∈ (letS ++ digS).cps.toList) : (48 ≤ c ∧ c ≤ 57) ∨ (97 ≤ c ∧ c ≤ 122) := by
  have : ∀ c ∈ (letS ++ digS).cps.toList, (48 ≤ c ∧ c ≤ 57) ∨ (97 ≤ c ∧ c ≤ 122) := by decide +kernel
  exact this c h
theorem name_signs {z : Str} (h : nameS z = true) : ∀ c ∈ tl z, (48 ≤ c ∧ c ≤ 57) ∨ (97 ≤ c ∧ c ≤ 122) := by
  unfold nameS at h
  simp only [Bool.and_eq_true, List.all_eq_true, decide_eq_true_eq] at h
  exact fun c hc => signs_ls (h.2 c hc)
theorem name_len {z : Str} (h : nameS z = true) : 1 ≤ z.length ∧ z.length ≤ 8 := by
  unfold nameS at h
  simp only [Bool.and_eq_true, List.all_eq_true, decide_eq_true_eq] at h
  exact h.1.1.1
theorem sym_signs {z : Str} (h : symS z = true) : ∀ c ∈ tl z, (48 ≤ c ∧ c ≤ 57) ∨ (97 ≤ c ∧ c ≤ 122) ∨ c = 64 := by
  unfold symS at h
  rw [Bool.or_eq_true, decide_eq_true_eq] at h
  rcases h with rfl | h
  · decide +kernel
  · intro c hc
    have := name_signs h c hc
    omega
theorem sym_len {z : Str} (h : symS z = true) : 1 ≤ z.length ∧ z.length ≤ 8 := by
  unfold symS at h
  rw [Bool.or_eq_true, decide_eq_true_eq] at h
  rcases h with rfl | h
  · decide +kernel
  · exact name_len h
theorem sym_ne {z : Str} (h : symS z = true) : tl z ≠ [] := by
  have := (sym_len h).1
  rw [len_tl] at this
  intro e
  rw [e] at this
  simp at this
/-- a first sign that is no digit -/
theorem sym_first {z : Str} (h : symS z = true) : ∃ c cs, tl z = c :: cs ∧ ((97 ≤ c ∧ c ≤ 122) ∨ c = 64) := by
  unfold symS at h
  rw [Bool.or_eq_true, decide_eq_true_eq] at h
  rcases h with rfl | h
  · exact ⟨64, [], by decide +kernel, .inr rfl⟩
  · unfold nameS at h
    simp only [Bool.and_eq_true, List.all_eq_true, decide_eq_true_eq] at h
    have h1 := h.1.2
    cases e : z.cps.toList with
    | nil => rw [e] at h1; simp at h1
    | cons c cs =>
      rw [e] at h1
      have : ∀ c ∈ letS.cps.toList, 97 ≤ c ∧ c ≤ 122 := by decide +kernel
      exact ⟨c, cs, e, .inl (this c (by simpa using h1))⟩
theorem absI_nat (i : Int) : absI i = (i.natAbs : Int) := by
  unfold absI
  split <;> omega
theorem tl_star : tl ("*" : Str) = [42] := by decide +kernel
theorem tl_word (p : Str × Int) : tl (wordR p) = if p.2.natAbs = 1 then tl p.1 else numL p.2.natAbs ++ 42 :: tl p.1 := by
  unfold wordR
  rw [absI_nat]
  by_cases h : p.2.natAbs = 1
  · rw [if_pos (by omega), if_pos h]
  · rw [if_neg (by omega), if_neg h, tl_append, tl_append, tl_num, tl_star]
    simp
theorem word_free {p : Str × Int} (h : symS p.1 = true) : ∀ c ∈ tl (wordR p), (48 ≤ c ∧ c ≤ 57) ∨ (97 ≤ c ∧ c ≤ 122) ∨ c = 64 ∨ c = 42 := by
  intro c hc
  rw [tl_word] at hc
  split at hc
  · have := sym_signs h c hc
    omega
  · rcases List.mem_append.mp hc with hc | hc
    · have := numL_digits _ c hc
      omega
    · rcases List.mem_cons.mp hc with hc | hc
      · omega
      · have := sym_signs h c hc
        omega
theorem word_ne {p : Str × Int} (h : symS p.1 = true) : tl (wordR p) ≠ [] := by
  rw [tl_word]
  split
  · exact sym_ne h
  · intro z
    have := congrArg List.length z
    simp at this
theorem tl_minus : tl ("-" : Str) = [45] := by decide +kernel
theorem tl_mi : tl (" - " : Str) = Mi := by decide +kernel
theorem tl_pl : tl (" + " : Str) = Pl := by decide +kernel
theorem tl_pm : tl (" + -" : Str) = Pm := by decide +kernel
theorem tl_part (p : Str × Int) : tl (partR p) = if p.2 < 0 then 45 :: tl (wordR p) else tl (wordR p) := by
  unfold partR
  split
  · rw [tl_append, tl_minus]; rfl
  · rfl
theorem tl_tail (p : Str × Int) : tl (tailR p) = (if decide (p.2 < 0) = true then Mi else Pl) ++ tl (wordR p) := by
  unfold tailR
  by_cases h : p.2 < 0
  · rw [if_pos h, tl_append, tl_mi, if_pos (by simpa using h)]
  · rw [if_neg h, tl_append, tl_pl, if_neg (by simpa using h)]
theorem joinL_nil : ∀ l : List (List Nat), joinL [] l = l.flatten
  | [] => rfl
  | [p] => by simp [joinL]
  | p :: q :: r => by
    show p ++ ([] ++ joinL [] (q :: r)) = _
    rw [joinL_nil (q :: r)]
    simp
theorem tl_text (p : Str × Int) (r : Row) : tl (textR (p :: r)) = tgl (tl (partR p)) (r.map fun q => (decide (q.2 < 0), tl (wordR q))) := by
  unfold textR
  rw [if_neg (by simp), join_eq, tl_join]
  have e0 : tl ("" : Str) = [] := by decide +kernel
  rw [e0, joinL_nil]
  unfold tgl wordsR
  rw [List.map_cons, List.flatten_cons, List.map_map, List.flatMap_map]
  congr 1
  rw [List.flatMap_def]
  congr 1
  refine List.map_congr_left fun q _ => ?_
  exact tl_tail q
/-- the parts of a form's text -/
theorem parts_text {r : Row} (hr : r ≠ []) (h : ∀ p ∈ r, symS p.1 = true) : Txt.split (Txt.replace (textR r) " - " " + -") " + " = r.map partR := by
  cases r with
  | nil => exact absurd rfl hr
  | cons p r =>
    have hm : tl (" - " : Str) ≠ [] := by rw [tl_mi]; simp
    have hk : (" - " : Str).cps.all (· < 256) = true := by decide +kernel
    have hk2 : (" + " : Str).cps.all (· < 256) = true := by decide +kernel
    have fr : ∀ {q : Str × Int}, symS q.1 = true → 32 ∉ tl (partR q) := by
      intro q hq z
      rw [tl_part] at z
      split at z
      · rcases List.mem_cons.mp z with z | z
        · omega
        · have := word_free hq _ z
          omega
      · have := word_free hq _ z
        omega
    have e : Txt.replace (textR (p :: r)) " - " " + -" = Txt.join " + " ((p :: r).map partR) := by
      refine ext_tl ?_
      rw [replace_join hm hk, join_eq, tl_join, split_spl _ _ hm (kind_ok hk), tl_mi, tl_pm, tl_text, cut_minus _ _ _ (fr (h p List.mem_cons_self)), join_eq, tl_join, tl_pl, List.nil_append]
      · congr 1
        rw [List.map_cons, List.map_cons, List.map_map, List.map_map]
        congr 1
        refine List.map_congr_left fun q _ => ?_
        show (if decide (q.2 < 0) = true then 45 :: tl (wordR q) else tl (wordR q)) = tl (partR q)
        rw [tl_part]
        by_cases hq : q.2 < 0 <;> simp [hq]
      · intro b hb
        obtain ⟨q, hq, rfl⟩ := List.mem_map.mp hb
        have hs := h q (List.mem_cons_of_mem _ hq)
        refine ⟨fun z => ?_, fun z => ?_, word_ne hs⟩
        · have := word_free hs _ z
          omega
        · have := word_free hs 45 (List.mem_of_mem_head? z)
          omega
    rw [e]
    refine split_join (s := 32) (S := [43, 32]) tl_pl hk2 (by simp) ?_
    intro q hq
    obtain ⟨q', hq', rfl⟩ := List.mem_map.mp hq
    exact fr (h q' hq')
end G


namespace G
open PySem PySem.Spec PyProof.Rows L2 TL
/-! ### reading a term, a text -/
def signF (z : Str) : Int × Str := if cutS z none (some 1) = "-" then (0 - 1, cutS z (some 1) none) else (1, z)
def numF (z : Str) : Str × Str := if (Txt.partition z "*").2.1 = "" then ("1", z) else ((Txt.partition z "*").1, (Txt.partition z "*").2.2)
def digF (z : Str) : Bool := (tl z).all fun c => decide (c ∈ digS.cps.toList)
def termF (z : Str) : Option (Str × Int) :=
  if symS (numF (signF z).2).2 = true ∧ (numF (signF z).2).1 ≠ "" ∧ digF (numF (signF z).2).1 = true then some ((numF (signF z).2).2, (signF z).1 * (NumText.digitsVal (tl (numF (signF z).2).1) : Nat)) else none
def partsF (z : Str) : List Str := if z = "0" then [] else Txt.split (Txt.replace z " - " " + -") " + "
/-- the factors that a text tells -/
def rawF (z : Str) : Option Row := (partsF z).foldlM (fun acc part => (termF part).map fun t => putR acc t.1 t.2) []
theorem dig_of {c : Nat} : c ∈ digS.cps.toList ↔ 48 ≤ c ∧ c ≤ 57 := by
  constructor
  · have : ∀ c ∈ digS.cps.toList, 48 ≤ c ∧ c ≤ 57 := by decide +kernel
    exact this c
  · rintro ⟨h1, h2⟩
    have : ∀ k : Fin 10, 48 + k.1 ∈ digS.cps.toList := by decide +kernel
    have := this ⟨c - 48, by omega⟩
    have e : 48 + (c - 48) = c := by omega
    simpa [e] using this
theorem digF_all {z : Str} : digF z = true ↔ NumText.AllDigits (tl z) := by
  unfold digF NumText.AllDigits
  rw [List.all_eq_true]
  constructor
  · intro h c hc
    exact dig_of.mp (by simpa using h c hc)
  · intro h c hc
    exact decide_eq_true (dig_of.mpr (h c hc))
theorem cut1_tl (z : Str) : tl (cutS z none (some 1)) = (tl z).take 1 := by
  unfold cutS
  have e1 : HT.sIx z.length 0 none = 0 := rfl
  have e2 : HT.sIx z.length z.length (some 1) = min 1 z.length := by
    have := HT.sIx_nat z.length z.length 1
    simpa using this
  rw [tl_mk, e1, e2, len_tl, List.drop_zero, Nat.sub_zero]
  show List.take (min 1 z.cps.toList.length) z.cps.toList = List.take 1 z.cps.toList
  generalize z.cps.toList = l
  cases l with
  | nil => rfl
  | cons c cs => simp
theorem cutT_tl (z : Str) : tl (cutS z (some 1) none) = (tl z).drop 1 := by
  unfold cutS
  have e1 : HT.sIx z.length z.length none = z.length := rfl
  have e2 : HT.sIx z.length 0 (some 1) = min 1 z.length := by
    have := HT.sIx_nat z.length 0 1
    simpa using this
  rw [tl_mk, e1, e2, len_tl]
  show List.take (z.cps.toList.length - min 1 z.cps.toList.length) (List.drop (min 1 z.cps.toList.length) z.cps.toList) = List.drop 1 z.cps.toList
  generalize z.cps.toList = l
  cases l with
  | nil => rfl
  | cons c cs => simp
theorem signF_neg {w : Str} : signF ("-" ++ w) = (0 - 1, w) := by
  have h1 : tl ("-" ++ w) = 45 :: tl w := by rw [tl_append, tl_minus]; rfl
  unfold signF
  have e1 : cutS ("-" ++ w) none (some 1) = "-" := ext_tl (by rw [cut1_tl, h1, tl_minus]; rfl)
  have e2 : cutS ("-" ++ w) (some 1) none = w := ext_tl (by rw [cutT_tl, h1]; rfl)
  rw [if_pos e1, e2]
theorem signF_pos {w : Str} (h : (tl w).head? ≠ some 45) : signF w = (1, w) := by
  unfold signF
  rw [if_neg]
  intro e
  have := congrArg tl e
  rw [cut1_tl, tl_minus] at this
  cases hw : tl w with
  | nil => rw [hw] at this; simp at this
  | cons c cs =>
    rw [hw] at this h
    simp at this
    exact h (by rw [this]; rfl)
theorem numF_word {p : Str × Int} (h : symS p.1 = true) : numF (wordR p) = if p.2.natAbs = 1 then (("1" : Str), p.1) else (Str.ofString (toString ((p.2.natAbs : Nat) : Int)), p.1) := by
  have hs : tl ("*" : Str) = 42 :: [] := tl_star
  have nf : 42 ∉ tl p.1 := fun z => by
    have := sym_signs h _ z
    omega
  by_cases h1 : p.2.natAbs = 1
  · have e : wordR p = p.1 := ext_tl (by rw [tl_word, if_pos h1])
    rw [e, if_pos h1]
    unfold numF
    rw [partition_none hs nf]
    rfl
  · have e : wordR p = Str.ofString (toString ((p.2.natAbs : Nat) : Int)) ++ "*" ++ p.1 := ext_tl (by rw [tl_word, if_neg h1, tl_append, tl_append, tl_num, tl_star]; simp)
    rw [e, if_neg h1]
    unfold numF
    rw [partition_app hs (by rw [tl_num]; exact numL_free (by omega))]
    rfl
/-- a term's text tells the term -/
theorem termF_part {p : Str × Int} (h : symS p.1 = true) (h0 : p.2 ≠ 0) : termF (partR p) = some p := by
  have hd : (tl (wordR p)).head? ≠ some 45 := fun z => by
    have := word_free h 45 (List.mem_of_mem_head? z)
    omega
  have e1 : signF (partR p) = (if p.2 < 0 then 0 - 1 else 1, wordR p) := by
    unfold partR
    split
    · exact signF_neg
    · exact signF_pos hd
  have e2 := numF_word h
  have main : ∀ n : Str, numF (wordR p) = (n, p.1) → n ≠ "" → digF n = true → (NumText.digitsVal (tl n) : Nat) = p.2.natAbs → termF (partR p) = some p := by
    intro n hn hne hdg hv
    unfold termF
    rw [e1]
    simp only [hn]
    rw [if_pos ⟨h, hne, hdg⟩, hv]
    congr 1
    refine Prod.ext rfl ?_
    show (if p.2 < 0 then (0 - 1 : Int) else 1) * ((p.2.natAbs : Nat) : Int) = p.2
    split <;> omega
  by_cases h1 : p.2.natAbs = 1
  · rw [if_pos h1] at e2
    exact main "1" e2 (by decide) (by decide +kernel) (by rw [h1]; decide +kernel)
  · rw [if_neg h1] at e2
    refine main _ e2 ?_ ?_ ?_
    · intro z
      have := congrArg tl z
      rw [tl_num] at this
      exact numL_ne _ (this.trans (by decide +kernel))
    · rw [digF_all, tl_num]
      exact numL_digits _
    · rw [tl_num, numL_val]
theorem text_nil : textR [] = "0" := rfl
theorem text_ne {p : Str × Int} {r : Row} (h : symS p.1 = true) : textR (p :: r) ≠ "0" := by
  intro z
  have := congrArg tl z
  rw [tl_text, tl_part] at this
  have e0 : tl ("0" : Str) = [48] := by decide +kernel
  rw [e0] at this
  unfold tgl at this
  split at this
  · simp at this
  · obtain ⟨c, cs, e, hc⟩ := sym_first h
    rw [tl_word] at this
    have hl := congrArg List.length this
    split at this
    · rw [e] at this
      simp at this
      omega
    · rw [e] at this
      rename_i h1 h2
      rw [if_neg h2, e] at hl
      have := List.length_pos_iff.mpr (numL_ne p.2.natAbs)
      simp at hl
      omega
theorem fold_parts : ∀ (r acc : Row), (∀ p ∈ r, symS p.1 = true ∧ p.2 ≠ 0) → (r.map partR).foldlM (fun acc part => (termF part).map fun t => putR acc t.1 t.2) acc = some (mergeR acc r)
  | [], acc, _ => rfl
  | p :: r, acc, h => by
    obtain ⟨h1, h2⟩ := h p List.mem_cons_self
    rw [List.map_cons, List.foldlM_cons, termF_part h1 h2]
    exact fold_parts r _ fun q hq => h q (List.mem_cons_of_mem _ hq)
/-- a form's text tells its row -/
theorem rawF_text {r : Row} (c : Can r) (h : ∀ p ∈ r, symS p.1 = true) : rawF (textR r) = some r := by
  unfold rawF partsF
  cases r with
  | nil => rfl
  | cons p r =>
    rw [if_neg (text_ne (h p List.mem_cons_self)), parts_text (by simp) h, fold_parts _ _ fun q hq => ⟨h q hq, c.nz q hq⟩, merge_new _ _ (by simpa using c.nodup)]
    rfl
end G


namespace G
open PySem PySem.Spec PyProof.Rows L2 StX ClX
section
variable {P : Program} {w : World} {K : PySem.W.Frag} {mg : Str → Option Value} {base : Heap}
/-- the class at C has the def m -/
def AtM (K : PySem.W.Frag) (C : Addr) (m q : Str) (st : Stmt) : Prop := ∃ (f : Addr) (fd : FuncData), Fun K m q st f fd ∧ Meth K C m f
structure HasM0 (P : Program) (w : World) (K : PySem.W.Frag) (mg : Str → Option Value) (base : Heap) (C : Addr) (m : Str) (ps : List Str) (k : Nat) (sp : Sp) (f : Addr) (fd : FuncData) : Prop where
  me : Meth K C m f
  bi : Binds K fd ps []
  ok : Fg P w K mg base CX0 k f fd ps sp
def HasM (P : Program) (w : World) (K : PySem.W.Frag) (mg : Str → Option Value) (base : Heap) (C : Addr) (m : Str) (st : Stmt) (ps : List Str) (k : Nat) (sp : Sp) : Prop := ∃ f fd q, Fun K m q st f fd ∧ HasM0 P w K mg base C m ps k sp f fd
theorem hasM_mk {C : Addr} {m q : Str} {st : Stmt} {N ps : List Str} {k : Nat} {sp : Sp} (D : AtM K C m q st)
    (S : FnScope N ps (defScope st)) (len : ∀ vs H Q E, sp vs H Q E → vs.length = ps.length)
    (hbi : ∀ (kV doc pm : Value) (an : Option Addr) (cdv ct : Value) (us : List Value), us.length = ps.length →
      bindArgs (PySem.W.fnOf m q (defArgs st) (defBody st) (defScope st) .none kV doc pm an cdv ct) ⟨us, []⟩ = pure (ps.zip us))
    (hb : ∀ (f : Addr) (cdv : Value) (A : Around) (outer : List Env) (s : Shared) (H : Hp) (vs : List V) (Q : VK) (E : XK),
      Room k (A.deeper (envOfC q (defScope st) s.heap.objs.size f cdv)) → Gd (A.deeper (envOfC q (defScope st) s.heap.objs.size f cdv)) →
      sp vs H Q E → ∃ t, PSs (cxOf CX0 P w K mg base N q (defScope st) f cdv A outer s H E).nox (defBody st) t ∧
        t { nx := fun _ H' => Q .non H', rt := Q } (start N vs) H) :
    HasM P w K mg base C m st ps (k + 1) sp := by
  obtain ⟨f, fd, F, hm⟩ := D
  exact ⟨f, fd, q, F, hm, F.binds hbi, ok0 F S len fun cdv A outer s H vs Q E hr hg h => hb f cdv A outer s H vs Q E hr hg h⟩
/-- .. a staticmethod m -/
def AtS (K : PySem.W.Frag) (C : Addr) (m q : Str) (st : Stmt) : Prop := ∃ (f : Addr) (fd : FuncData), Fun K m q st f fd ∧ ∃ mc p, CRead K C mc ∧ SMet K C mc m p f
structure HasS0 (P : Program) (w : World) (K : PySem.W.Frag) (mg : Str → Option Value) (base : Heap) (C : Addr) (m : Str) (ps : List Str) (k : Nat) (sp : Sp) (f : Addr) (fd : FuncData) : Prop where
  me : ∃ mc p, CRead K C mc ∧ SMet K C mc m p f
  bi : Binds K fd ps []
  ok : Fg P w K mg base CX0 k f fd ps sp
def HasS (P : Program) (w : World) (K : PySem.W.Frag) (mg : Str → Option Value) (base : Heap) (C : Addr) (m : Str) (st : Stmt) (ps : List Str) (k : Nat) (sp : Sp) : Prop := ∃ f fd q, Fun K m q st f fd ∧ HasS0 P w K mg base C m ps k sp f fd
theorem hasS_mk {C : Addr} {m q : Str} {st : Stmt} {N ps : List Str} {k : Nat} {sp : Sp} (D : AtS K C m q st)
    (S : FnScope N ps (defScope st)) (len : ∀ vs H Q E, sp vs H Q E → vs.length = ps.length)
    (hbi : ∀ (kV doc pm : Value) (an : Option Addr) (cdv ct : Value) (us : List Value), us.length = ps.length →
      bindArgs (PySem.W.fnOf m q (defArgs st) (defBody st) (defScope st) .none kV doc pm an cdv ct) ⟨us, []⟩ = pure (ps.zip us))
    (hb : ∀ (f : Addr) (cdv : Value) (A : Around) (outer : List Env) (s : Shared) (H : Hp) (vs : List V) (Q : VK) (E : XK),
      Room k (A.deeper (envOfC q (defScope st) s.heap.objs.size f cdv)) → Gd (A.deeper (envOfC q (defScope st) s.heap.objs.size f cdv)) →
      sp vs H Q E → ∃ t, PSs (cxOf CX0 P w K mg base N q (defScope st) f cdv A outer s H E).nox (defBody st) t ∧
        t { nx := fun _ H' => Q .non H', rt := Q } (start N vs) H) :
    HasS P w K mg base C m st ps (k + 1) sp := by
  obtain ⟨f, fd, F, hm⟩ := D
  exact ⟨f, fd, q, F, hm, F.binds hbi, ok0 F S len fun cdv A outer s H vs Q E hr hg h => hb f cdv A outer s H vs Q E hr hg h⟩
/-- .. it is made by its def __init__(a, **d) -/
def AtK (K : PySem.W.Frag) (mg : Str → Option Value) (C : Addr) (x q : Str) (st : Stmt) : Prop := ∃ (f : Addr) (fd : FuncData), Fun K "__init__" q st f fd ∧ L2.Mk K C f ∧ mg x = some (.ref C)
def HasK (P : Program) (w : World) (K : PySem.W.Frag) (mg : Str → Option Value) (base : Heap) (C : Addr) (x : Str) (k : Nat) (sp : List V → List (Str × V) → Hp → VK → XK → Prop) : Prop := ∃ f, L2.Mk K C f ∧ mg x = some (.ref C) ∧ Fk P w K mg base CX0 k f sp
theorem hasK_mk {C : Addr} {x q : Str} {st : Stmt} {N : List Str} {k : Nat} {a1 a2 : Arg} {sp : Sp} (D : AtK K mg C x q st)
    (hp : defArgs st = { posonlyargs := [], args := [a1], vararg := none, kwonlyargs := [], kw_defaults := [], kwarg := some a2, defaults := [] })
    (S : FnScope N [a1.arg, a2.arg] (defScope st))
    (hb : ∀ (f : Addr) (cdv : Value) (A : Around) (outer : List Env) (s : Shared) (H : Hp) (vs : List V) (Q : VK) (E : XK),
      Room k (A.deeper (envOfC q (defScope st) s.heap.objs.size f cdv)) → Gd (A.deeper (envOfC q (defScope st) s.heap.objs.size f cdv)) →
      sp vs H Q E → ∃ t, PSs (cxOf CX0 P w K mg base N q (defScope st) f cdv A outer s H E).nox (defBody st) t ∧
        t { nx := fun _ H' => Q .non H', rt := Q } (start N vs) H) :
    HasK P w K mg base C x (k + 1) (fun vs ys H Q E => ∃ v, vs = [v] ∧ (∀ p ∈ ys, (p.1 == a1.arg) = false) ∧ (ys.map (·.1)).Nodup ∧ ys.length ≤ sizeLine ∧ ∀ d, H d = none → sp [v, .ref d] (upd H d (.dK (inrs ys))) Q E) := by
  obtain ⟨f, fd, F, hm, hg⟩ := D
  obtain ⟨oc, od, kV, doc, pm, an, cdv, ct, osl, rfl, lk, hcd⟩ := F.ex
  refine ⟨f, hm, hg, fk_kw lk hcd hp S cxUp_none fun A outer s H vs Q E hr hg' hsp => ?_⟩
  obtain ⟨t, h, q⟩ := hb f cdv A outer s H vs Q E hr hg' hsp
  exact ⟨t, h.nox, q⟩
end
section
variable {X : Cx} {k : Nat} {C : Addr} {st : Stmt} {ps ks : List Str} {sp : Sp} {spk : List V → List (Str × V) → Hp → VK → XK → Prop} {x m : Str} {p pos apos kp : Pos} {o e : Expr} {es : List Expr} {ta te : TE} {t tk : TA} {kws : List Keyword}
/-- C(**e) -/
theorem peMk (h : HasK X.prog X.w X.K X.mg X.base C x k spk) (hr : Room (k + 1) X.A) (hgd : Gd X.A) (hg : Gl X x) (he : PE X e te) (hdb : (x == ("__debug__" : Str)) = false := by decide) :
    PE X (.Call (.Name x p) [] [⟨none, e, kp⟩] pos) (tMakeSS C spk E0 te) := by
  obtain ⟨f, M, hm, F⟩ := h
  exact pe_makeSS M F hr hgd hg hm pass0 he hdb
/-- o.m(e, ..) -/
theorem peHM {pl : Sem Bool} (h : HasM X.prog X.w X.K X.mg X.base C m st ps k sp) (c : Cls X.K C) (hr : Room k X.A) (hgd : Gd X.A) (he : PE X o ta) (ha : PA X (e :: es) t)
    (hst : starEach (e :: es) X.env = (false, eval e X.env) :: starEach es X.env := by rfl)
    (hpl : (backTo pos (starEach es X.env)).any (·.1) = false := by rfl)
    (ht : eval (.Call (.Attribute o m apos) (e :: es) [] pos) X.env = (do
      let ov ← eval o X.env
      standAt apos.atName
      let (f, first) ← holding [ov] (getMethod ov m pl)
      callWith pos f first (backTo pos (starEach (e :: es) X.env)) (backToKw pos (keywordEach [] X.env))) := by rfl) :
    PE X (.Call (.Attribute o m apos) (e :: es) [] pos) (tMeth C m sp [] E0 ta t) := by
  obtain ⟨f, fd, q, _, h⟩ := h
  exact peM he c h.me h.ok hr hgd h.bi .nil pass0 ha hst hpl ht
/-- o.m(k = v) by keywords alone, in the order of the def -/
def tMethZ (C : Addr) (m : Str) (sp : Sp) (E : XK) (ta : TE) (t : TA) : TE := fun σ H Q => ta σ H fun x H1 => ∃ a dx fs, x = .ref a ∧ H1 a = some (.ins C dx fs) ∧ fs.lookup m = none ∧ t σ H1 fun vs H2 => sp (.ref a :: vs) H2 Q E
theorem peHMZ {pl : Sem Bool} (h : HasM X.prog X.w X.K X.mg X.base C m st ps k sp) (c : Cls X.K C) (hr : Room k X.A) (hgd : Gd X.A) (he : PE X o ta) (hkw : PK X kws tk)
    (hb : ∀ (q : Str) (kV doc pm : Value) (an : Option Addr) (cdv ct u : Value) (ws : List Value), (u :: ws).length = ps.length →
      bindArgs (PySem.W.fnOf m q (defArgs st) (defBody st) (defScope st) .none kV doc pm an cdv ct) ⟨[u], ks.zip ws⟩ = pure (ps.zip (u :: ws)))
    (hall : (backToKw pos (keywordEach kws X.env)).all (·.1.isSome) = true := by rfl)
    (hks : (backToKw pos (keywordEach kws X.env)).filterMap (·.1) = ks := by rfl)
    (hpl : ((backTo pos (starEach [] X.env)).any (·.1) || (backToKw pos (keywordEach kws X.env)).any (·.1.isNone)) = false := by rfl)
    (ht : eval (.Call (.Attribute o m apos) [] kws pos) X.env = (do
      let ov ← eval o X.env
      standAt apos.atName
      let (f, first) ← holding [ov] (getMethod ov m pl)
      callWith pos f first (backTo pos (starEach [] X.env)) (backToKw pos (keywordEach kws X.env))) := by rfl) :
    PE X (.Call (.Attribute o m apos) [] kws pos) (tMethZ C m sp E0 ta tk) := by
  obtain ⟨f, fd, q, F, h⟩ := h
  constructor
  intro pins s σ H Q I hq
  refine PySem.W.methodCall_KW (pl := pl) (thn (he.run pins s σ H _ I hq) ?_) ht
  rintro u s1 ⟨x, H1, I1, rx, a, dx, fs, ex, ea, l, q1⟩
  subst ex
  obtain rfl : u = Value.ref a := rx
  refine getmeth_ok I1 ea c h.me l ?_
  refine PySem.W.callWith_KW0 (first := [.ref a]) (h₀ := X.base) I.ok.mod.kin h.me.kp hall ?_ hpl
  refine thn (hkw.run pos pins s1 σ H1 _ I1 q1) ?_
  rintro ws s2 ⟨zs, H2, I2, rz, q2⟩
  refine ⟨I2.kIn, ?_⟩
  rw [hks]
  obtain ⟨oc, od, kV, doc, pm, an, cdv, ct, osl, rfl, lk, hcd⟩ := F.ex
  exact runG (us := [.ref a]) (us' := .ref a :: ws) (vs' := .ref a :: zs) h.ok hr hgd pass0 I2 (fun hl => BindsTo.of_eq (hb q kV doc pm an cdv ct _ ws hl)) (.cons rfl rz) q2
/-- C.m(e, ..), m a staticmethod -/
theorem peHS {pl : Sem Bool} (h : HasS X.prog X.w X.K X.mg X.base C m st ps k sp) (hr : Room k X.A) (hgd : Gd X.A) (he : PE X o ta) (ha : PA X (e :: es) t)
    (hst : starEach (e :: es) X.env = (false, eval e X.env) :: starEach es X.env := by rfl)
    (hpl : (backTo pos (starEach es X.env)).any (·.1) = false := by rfl)
    (ht : eval (.Call (.Attribute o m apos) (e :: es) [] pos) X.env = (do
      let ov ← eval o X.env
      standAt apos.atName
      let (f, first) ← holding [ov] (getMethod ov m pl)
      callWith pos f first (backTo pos (starEach (e :: es) X.env)) (backToKw pos (keywordEach [] X.env))) := by rfl) :
    PE X (.Call (.Attribute o m apos) (e :: es) [] pos) (tSMeth C sp [] E0 ta t) := by
  obtain ⟨f, fd, q, _, ⟨⟨mc, p, r, c⟩, bi, ok⟩⟩ := h
  exact peSM he r c ok hr hgd bi .nil pass0 ha hst hpl ht
/-- own operators -/
theorem opH2 {op : Operator} (h : HasM X.prog X.w X.K X.mg X.base C (PySem.dunder op.info.2) st ps k sp) (s : PySem.W.selfFirst X.K C = true) (hr : Room k X.A) (hgd : Gd X.A) : OpR X (binaryOp op) (rOwn2 C sp E0) := by
  obtain ⟨f, fd, q, _, h⟩ := h
  exact op_own2 ⟨s, h.me.at_, h.me.fn⟩ h.ok hr hgd h.bi pass0
theorem unH (h : HasM X.prog X.w X.K X.mg X.base C "__neg__" st ps k sp) (s : PySem.W.selfFirst X.K C = true) (hr : Room k X.A) (hgd : Gd X.A) : UnR X (unaryOp .USub) (rOwnU C sp E0) := by
  obtain ⟨f, fd, q, _, h⟩ := h
  exact un_own ⟨s, h.me.at_, h.me.fn⟩ h.ok hr hgd h.bi pass0
/-- the facts that a op int wants of an own class -/
structure OwnI (K : PySem.W.Frag) (C : Addr) (op : Operator) : Prop where
  r : ∃ rc, PySem.W.findIn K (.ref C) (PySem.dunderR op.info.2) = some rc ∧ (rc = none ∨ ∃ g : Addr, rc = some (.ref g))
  a : ∃ fo, PySem.W.findIn K (.type "int") (PySem.dunder op.info.2) = some fo
  b : ∃ ro, PySem.W.findIn K (.type "int") (PySem.dunderR op.info.2) = some ro
  sub : PySem.W.subIn K (.type "int") (.ref C) = some false
theorem opHI {op : Operator} (h : HasM X.prog X.w X.K X.mg X.base C (PySem.dunder op.info.2) st ps k sp) (s : PySem.W.selfFirst X.K C = true) (i : OwnI X.K C op) (hr : Room k X.A) (hgd : Gd X.A) : OpR X (binaryOp op) (rOwnI C sp E0) := by
  obtain ⟨f, fd, q, _, h⟩ := h
  obtain ⟨rc, r1, r2⟩ := i.r
  obtain ⟨fo, a⟩ := i.a
  obtain ⟨ro, b⟩ := i.b
  exact op_ownI ⟨s, h.me.at_, h.me.fn⟩ r1 r2 a b i.sub h.ok hr hgd h.bi pass0
theorem strH (h : HasM X.prog X.w X.K X.mg X.base C "__str__" st ps k sp) (s : PySem.W.selfFirst X.K C = true) (hr : Room (k + 2) X.A) (hgd : Gd X.A) : CallR X (.type "str") (rStrO C sp E0) := by
  obtain ⟨f, fd, q, _, h⟩ := h
  exact c_strO ⟨s, h.me.at_, h.me.fn⟩ h.ok hr hgd h.bi pass0
end
end G


namespace G
open PySem PySem.Spec PyProof.Rows L2 StX ClX TL
/-! ### steps -/
section
variable {X : Cx} {K : PySem.W.Frag} {σ : L2.St} {H : Hp} {Q : VK} {D : Ends} {te ta tb td ty tv : TE} {ts : List TE} {v x y : V} {i j : Nat}
/-- f-strings -/
def tJn (ts : List TE) : TE := fun σ H Q => tJs ts Str.empty σ H fun out H1 => Q (.str out) H1
theorem pe_joinedN {v1 v2 : Expr} {rest : List Expr} {pos : Pos} (h : PJ X (v1 :: v2 :: rest) ts) : PE X (.JoinedStr (v1 :: v2 :: rest) pos) (tJn ts) := pe_joined h
theorem s_jn (h : tJs ts Str.empty σ H fun out H1 => Q (.str out) H1) : tJn ts σ H Q := h
theorem s_js0 {acc : Str} {QS : Str → Hp → Prop} (h : QS acc H) : tJs [] acc σ H QS := h
theorem s_js {acc : Str} {QS : Str → Hp → Prop} {t : TE} (h : t σ H fun x H1 => ∃ y : Str, x = .str y ∧ (acc ++ y).length ≤ sizeLine ∧ tJs ts (acc ++ y) σ H1 QS) : tJs (t :: ts) acc σ H QS := h
theorem s_jsE {acc y : Str} {QS : Str → Hp → Prop} (c : (acc ++ y).length ≤ sizeLine) (h : tJs ts (acc ++ y) σ H QS) : ∃ y' : Str, V.str y = .str y' ∧ (acc ++ y').length ≤ sizeLine ∧ tJs ts (acc ++ y') σ H QS := ⟨y, rfl, c, h⟩
def rFmt : V → Hp → VK → Prop := fun x H1 Q => (∃ y : Str, x = .str y ∧ y.length ≤ sizeLine ∧ Q (.str y) H1) ∨ ∃ i : Int, x = .int i ∧ i.natAbs.log2 < 1920 ∧ Q (.str (toString i)) H1
theorem s_fmt (h : te σ H fun x H1 => rFmt x H1 Q) : tFmt te σ H Q := h
theorem s_fmtS {z : Str} (c : z.length ≤ sizeLine) (h : Q (.str z) H) : rFmt (.str z) H Q := .inl ⟨z, rfl, c, h⟩
theorem s_fmtI {k : Int} (c : k.natAbs.log2 < 1920) (h : Q (.str (toString k)) H) : rFmt (.int k) H Q := .inr ⟨k, rfl, c, h⟩
/-- targets -/
theorem s_g2 {P : L2.St → Hp → Prop} {t : Addr} (c : SqT K H t [x, y]) (h : P ((σ.set i (some x)).set j (some y)) H) : gTup K 2 (gCons (gName i) (gCons (gName j) gNil)) (.ref t) σ H P :=
  ⟨t, _, rfl, c, rfl, x, [y], rfl, y, [], rfl, rfl, h⟩
theorem s_g3 {P : L2.St → Hp → Prop} {t : Addr} {k : Nat} {z : V} (c : SqT K H t [x, y, z]) (h : P (((σ.set i (some x)).set j (some y)).set k (some z)) H) : gTup K 3 (gCons (gName i) (gCons (gName j) (gCons (gName k) gNil))) (.ref t) σ H P :=
  ⟨t, _, rfl, c, rfl, x, [y, z], rfl, y, [z], rfl, z, [], rfl, rfl, h⟩
theorem s_u3 {P : L2.St → Hp → Prop} {t : Addr} {k : Nat} {z : V} (c : SqL K H t [x, y, z]) (h : P (((σ.set i (some x)).set j (some y)).set k (some z)) H) : gUnl K 3 (gCons (gName i) (gCons (gName j) (gCons (gName k) gNil))) (.ref t) σ H P :=
  ⟨t, _, rfl, c, rfl, x, [y, z], rfl, y, [z], rfl, z, [], rfl, rfl, h⟩
theorem gm_g2 : ∀ x σ1 H1 (P P' : L2.St → Hp → Prop), (∀ a b, P a b → P' a b) → gTup K 2 (gCons (gName i) (gCons (gName j) gNil)) x σ1 H1 P → gTup K 2 (gCons (gName i) (gCons (gName j) gNil)) x σ1 H1 P' := by
  rintro x σ1 H1 P P' h ⟨a, xs, e1, e2, e3, v, r, e4, v2, r2, e5, e6, q⟩
  exact ⟨a, xs, e1, e2, e3, v, r, e4, v2, r2, e5, e6, h _ _ q⟩
/-- attributes -/
def rFld (K : PySem.W.Frag) (f : Str) : V → Hp → VK → Prop := fun x H1 Q => ∃ a C dx fs v, x = .ref a ∧ H1 a = some (.ins C dx fs) ∧ Cls K C ∧ NoAttr K C f ∧ fs.lookup f = some v ∧ Q v H1
theorem s_fld {f : Str} (h : ta σ H fun x H1 => rFld K f x H1 Q) : tFld K ta f σ H Q := h
theorem s_fldE {f : Str} {a C dx : Addr} {fs : List (Str × V)} (e : H a = some (.ins C dx fs)) (c : Cls K C) (n : NoAttr K C f) (l : fs.lookup f = some v) (h : Q v H) : rFld K f (.ref a) H Q := ⟨a, C, dx, fs, v, rfl, e, c, n, l, h⟩
def rSfld (K : PySem.W.Frag) (f : Str) (D : Ends) (σ : L2.St) (y : V) : V → Hp → Prop := fun x H2 => ∃ a C dx fs, x = .ref a ∧ H2 a = some (.ins C dx fs) ∧ Cls K C ∧ NoAttr K C f ∧ fs.length < 1000 ∧ D.nx σ (upd H2 a (.ins C dx (putF f y fs)))
theorem s_sfld {f : Str} (h : tv σ H fun y H1 => ta σ H1 fun x H2 => rSfld K f D σ y x H2) : sFld K ta tv f D σ H := h
theorem s_sfldE {f : Str} {a C dx : Addr} {fs : List (Str × V)} (e : H a = some (.ins C dx fs)) (c : Cls K C) (n : NoAttr K C f) (l : fs.length < 1000) (h : D.nx σ (upd H a (.ins C dx (putF f y fs)))) : rSfld K f D σ y (.ref a) H := ⟨a, C, dx, fs, rfl, e, c, n, l, h⟩
/-- dicts -/
def rDget : V → V → Hp → VK → Prop := fun x y H2 Q => ∃ a v, x = .ref a ∧ DGet H2 a y (some v) ∧ Q v H2
theorem s_dget (h : td σ H fun x H1 => ty σ H1 fun y H2 => rDget x y H2 Q) : tDGet td ty σ H Q := h
theorem s_dgetE {a : Addr} {r : Row} {z : Str} {k : Int} (e : Rd H a (.dK (kvR r))) (l : valR r z = some k) (h : Q (.int k) H) : rDget (.ref a) (.str z) H Q :=
  ⟨a, .int k, rfl, .inl ⟨kvR r, Sum.inr z, e, rfl, by rw [kvR_val, l]; rfl⟩, h⟩
def rDin : V → V → Hp → VK → Prop := fun y x H2 Q => ∃ a o, x = .ref a ∧ DGet H2 a y o ∧ Q (.bl o.isSome) H2
theorem s_din (h : ty σ H fun y H1 => td σ H1 fun x H2 => rDin y x H2 Q) : tDIn ty td σ H Q := h
theorem s_dinE {a : Addr} {r : Row} {z : Str} (e : Rd H a (.dK (kvR r))) (h : Q (.bl (valR r z).isSome) H) : rDin (.str z) (.ref a) H Q :=
  ⟨a, _, rfl, .inl ⟨kvR r, Sum.inr z, e, rfl, rfl⟩, by rw [kvR_val]; cases q : valR r z <;> (rw [q] at h; exact h)⟩
def rDg2 (a : Addr) : V → V → Hp → VK → Prop := fun y z H3 Q => ∃ o, DGet H3 a y o ∧ Q (o.getD z) H3
def rDg1 : V → Hp → (Addr → Prop) → Prop := fun x H1 P => ∃ a, x = .ref a ∧ IsD H1 a ∧ P a
theorem s_dget2 {tx : TE} (h : td σ H fun x H1 => rDg1 x H1 fun a => ty σ H1 fun y H2 => tx σ H2 fun z H3 => rDg2 a y z H3 Q) : tDGet2 td ty tx σ H Q := h
theorem s_dg1 {a : Addr} {kvs : List (Key × V)} {P : Addr → Prop} (e : H a = some (.dK kvs)) (h : P a) : rDg1 (.ref a) H P := ⟨a, rfl, .inl ⟨kvs, .inl e⟩, h⟩
theorem s_dg2 {a : Addr} {r : Row} {z : Str} {k : Int} (e : H a = some (.dK (kvR r))) (h : Q (.int ((valR r z).getD k)) H) : rDg2 a (.str z) (.int k) H Q :=
  ⟨_, .inl ⟨kvR r, Sum.inr z, .inl e, rfl, rfl⟩, by rw [kvR_val]; cases q : valR r z <;> (rw [q] at h; exact h)⟩
def rDput (D : Ends) (σ : L2.St) (v : V) : V → V → Hp → Prop := fun x y H3 => ∃ a H4, x = .ref a ∧ DPut H3 a y v H4 ∧ D.nx σ H4
theorem s_dput (h : tv σ H fun v H1 => td σ H1 fun x H2 => ty σ H2 fun y H3 => rDput D σ v x y H3) : sDPut td ty tv D σ H := h
theorem s_dputE {a : Addr} {r : Row} {z : Str} {k : Int} (e : H a = some (.dK (kvR r))) (l : r.length ≤ 1000) (h : D.nx σ (upd H a (.dK (kvR (putR r z k))))) : rDput D σ (.int k) (.ref a) (.str z) H :=
  ⟨a, _, rfl, .inl ⟨kvR r, Sum.inr z, e, rfl, by rw [kvR_len]; exact sz2 (by omega), rfl⟩, by rw [kvR_put]; exact h⟩
/-- texts -/
def rRepl (y z : Str) : V → Hp → VK → Prop := fun v H1 Q => ∃ x, v = .str x ∧ x.length + (x.length + 1) * z.length ≤ 16777216 ∧ Q (.str (Txt.replace x y z)) H1
theorem s_repl {y z : Str} (h : te σ H fun v H1 => rRepl y z v H1 Q) : CwR.tReplC te y z σ H Q := h
theorem s_replE {x y z : Str} (c : x.length + (x.length + 1) * z.length ≤ 16777216) (h : Q (.str (Txt.replace x y z)) H) : rRepl y z (.str x) H Q := ⟨x, rfl, c, h⟩
def rSplit : V → List V → Hp → VK → Prop := fun x xs H Q => ∃ a b, x = .str a ∧ xs = [.str b] ∧ (b.length == 0) = false ∧ a.length + 2 ≤ sizeLine ∧ rNewStrs (Txt.split a b) H Q
theorem pet_splitN {o e : Expr} {to : TE} {apos pos : Pos} (ho : L2.PET X o to) (he : PE X e te) (hs : starEach [e] X.env = [(false, eval e X.env)] := by rfl) (hbase : attributeBase o "split" X.env (eval o X.env) = eval o X.env := by rfl) (hline : (apos.endLine == pos.line) = true := by rfl) :
    L2.PET X (.Call (.Attribute o "split" apos) [e] [] pos) (tM1 rSplit to te) := pet_split ho he hs hbase hline
theorem s_splitE {a b : Str} (n : (b.length == 0) = false) (c : a.length + 2 ≤ sizeLine) (h : ∀ p H', H p = none → Same H H' → H' p = some (.lst ((Txt.split a b).map V.str)) → Q (.ref p) H') : rSplit (.str a) [.str b] H Q := ⟨a, b, rfl, rfl, n, c, s_new (P := fun p H' => Q (.ref p) H') h⟩
def rPart : V → List V → Hp → VK → Prop := fun x xs H Q => ∃ a b, x = .str a ∧ xs = [.str b] ∧ (b.length == 0) = false ∧ a.length ≤ sizeLine ∧
      ∀ p, H p = none → Q (.ref p) (upd H p (.tup [.str (Txt.partition a b).1, .str (Txt.partition a b).2.1, .str (Txt.partition a b).2.2]))
theorem pe_partN {o e : Expr} {to : TE} {apos pos : Pos} (ho : PE X o to) (he : PE X e te) (hs : starEach [e] X.env = [(false, eval e X.env)] := by rfl) (hbase : attributeBase o "partition" X.env (eval o X.env) = eval o X.env := by rfl) (hline : (apos.endLine == pos.line) = true := by rfl) :
    PE X (.Call (.Attribute o "partition" apos) [e] [] pos) (tM1 rPart to te) := pe_partition ho he hs hbase hline
theorem s_partE {a b : Str} (n : (b.length == 0) = false) (c : a.length ≤ sizeLine) (h : ∀ p H', H p = none → Same H H' → H' p = some (.tup [.str (Txt.partition a b).1, .str (Txt.partition a b).2.1, .str (Txt.partition a b).2.2]) → Q (.ref p) H') : rPart (.str a) [.str b] H Q := ⟨a, b, rfl, rfl, n, c, s_new (P := fun p H' => Q (.ref p) H') h⟩
def rIntS : RC := fun xs H Q => ∃ a n, xs = [.str a] ∧ PySem.intText? a = some n ∧ a.length ≤ 640 ∧ Q (.int n) H
theorem c_intS : CallR X (.type "int") rIntS := call_int_str
theorem s_intS {z : Str} (d : digF z = true) (n : z ≠ "") (l : z.length ≤ 640) (h : Q (.int (NumText.digitsVal (tl z) : Nat)) H) : rIntS [.str z] H Q :=
  ⟨z, _, rfl, intText_digits (digF_all.mp d) (fun e => n (ext_tl (e.trans (by decide +kernel)))) (by omega), l, h⟩
theorem s_isN (h : Q (.bl (decide (x = .non))) H) : rIsN x .non H Q := ⟨rfl, h⟩
def MkF (xs : List V) (H : Hp) (Q : VK) : Prop := ∀ p (o : Obj), o.dict = none → H p = none → Q (.ref p) (upd H p (.frz o (.tup xs)))
theorem s_tupF {t : TA} (h : t σ H fun xs H1 => xs.length ≤ sizeLine ∧ MkF xs H1 Q) : tTupF t σ H Q := h
theorem s_mkF {xs : List V} (h : ∀ p H', H p = none → Same H H' → FT H' p xs → Q (.ref p) H') : MkF xs H Q :=
  fun l o hd hl => h l _ hl (fun a u e => by rw [upd_ne (ne_of_none e hl)]; exact e) ⟨o, hd, upd_same⟩
theorem s_tupFE {p : Addr} {ys : List V} (c : SqL K H p ys) (h : ∀ p H', H p = none → Same H H' → FT H' p ys → Q (.ref p) H') : rTupF K [.ref p] H Q :=
  ⟨p, ys, rfl, c, fun l o hd hl => h l _ hl (fun a u e => by rw [upd_ne (ne_of_none e hl)]; exact e) ⟨o, hd, upd_same⟩⟩
theorem s_sortSI {a : Addr} {xs : List V} {r : Row} (c : SqL K H a xs) (pr : PrsL H xs r) (h : ∀ p H' ys q, H p = none → Same H H' → H' p = some (.lst ys) → PrsL H' ys q → SrtO.Srtd SrtG.lxB q → q.Perm r → Q (.ref p) H') : rSortSI K [.ref a] H Q :=
  ⟨a, xs, r, rfl, c, pr, fun ys q p s pe pr' hp => by
    have sm : Same H (upd H p (.lst ys)) := fun a u e => by rw [upd_ne (ne_of_none e hp)]; exact e
    exact h p _ ys q hp sm upd_same (pr'.same sm) s pe⟩
theorem s_dictT {a : Addr} {xs : List V} {r : Row} (c : FT H a xs) (pr : PrsL H xs r) (nd : (keysR r).Nodup) (h : ∀ p H', H p = none → Same H H' → H' p = some (.dK (kvR r)) → Q (.ref p) H') : rDictT [.ref a] H Q := by
  refine ⟨a, xs, r, rfl, c, pr, fun p hp => ?_⟩
  have e : mergeK [] (kvR r) = kvR r := by
    have := kvR_merge r []
    rw [merge_new r [] (by simpa using nd)] at this
    exact this
  rw [e]
  exact h p _ hp (fun a u e => by rw [upd_ne (ne_of_none e hp)]; exact e) upd_same
theorem s_sumE {a : Addr} {ns : List Int} (c : SqL K H a (ns.map V.int)) (h : Q (.int ns.sum) H) : rSum K [.ref a] H Q := ⟨a, ns, rfl, c, h⟩
/-- products of great ints -/
def bd (i : Int) : Prop := i.natAbs < 2 ^ 1900
def CMulB (i j : Int) : Prop := bd i ∧ bd j
theorem op_mulB : OpR X (binaryOp .Mult) (rI CMulB fun i j => .int (i * j)) := opI fun _ _ _ _ _ _ _ hc q => mul_int q (IntMulOk.of_le (intBits_le_iff.mpr hc.1) (intBits_le_iff.mpr hc.2) (by decide))
theorem bd_log {i : Int} (h : bd i) : i.natAbs.log2 < 1920 := by
  by_cases z : i.natAbs = 0
  · rw [z]; decide
  · exact Nat.lt_trans ((Nat.log2_lt z).mpr h) (by decide)
end
/-- a row that a form may have -/
structure RowB (q : Row) : Prop where
  len : q.length ≤ 1000
  sym : ∀ p ∈ q, symS p.1 = true
  bd : ∀ p ∈ q, bd p.2
def fsF (t y : Addr) (z : Str) : List (Str × V) := [("terms", .ref t), ("symbols", .ref y), ("text", .str z)]
/-- a form of this row -/
structure FormIn (C : Addr) (H : Hp) (q : Row) (a dx t y : Addr) (xs : List V) : Prop where
  ins : H a = some (.ins C dx (fsF t y (textR q)))
  ft : FT H t xs
  prs : PrsL H xs q
  sy : H y = some (.tup ((keysR q).map V.str))
  can : Can q
  rb : RowB q
def FormAt (C : Addr) (H : Hp) (v : V) (q : Row) : Prop := ∃ a dx t y xs, v = .ref a ∧ FormIn C H q a dx t y xs
theorem FormIn.same {C : Addr} {H H' : Hp} {q : Row} {a dx t y : Addr} {xs : List V} (r : Same H H') (h : FormIn C H q a dx t y xs) : FormIn C H' q a dx t y xs :=
  ⟨r _ _ h.ins, h.ft.same r, h.prs.same r, r _ _ h.sy, h.can, h.rb⟩
theorem FormAt.same {C : Addr} {H H' : Hp} {v : V} {q : Row} (r : Same H H') (h : FormAt C H v q) : FormAt C H' v q := by
  obtain ⟨a, dx, t, y, xs, e, h⟩ := h
  exact ⟨a, dx, t, y, xs, e, h.same r⟩
/-- all but lists stays -/
def Nl (H H' : Hp) : Prop := ∀ a o, (∀ xs, o ≠ .lst xs) → H a = some o → H' a = some o
theorem Nl.of_rx {p : Addr} {H H' : Hp} (d : Dr p H) (r : Rx [p] H H') : Nl H H' := fun a o n e => by
  refine r a o ?_ e
  obtain ⟨_, _, _, hp, _⟩ := d
  intro z
  have z : a = p := by simpa using z
  rw [z, hp] at e
  cases e
  exact n _ rfl
theorem FormAt.nl {C : Addr} {H H' : Hp} {v : V} {q : Row} (r : Nl H H') (h : FormAt C H v q) : FormAt C H' v q := by
  obtain ⟨a, dx, t, y, xs, e, h⟩ := h
  refine ⟨a, dx, t, y, xs, e, r _ _ (fun _ z => by cases z) h.ins, ?_, h.prs.tp fun a xs e => r _ _ (fun _ z => by cases z) e, r _ _ (fun _ z => by cases z) h.sy, h.can, h.rb⟩
  obtain ⟨o, d, f⟩ := h.ft
  exact ⟨o, d, r _ _ (fun _ z => by cases z) f⟩
end G


namespace G
open PySem PySem.Spec PyProof.Rows L2 StX ClX TL
/-- the class Form stands at C -/
structure FormC (K : PySem.W.Frag) (mg : Str → Option Value) (C : Addr) : Prop where
  at_ : mg "Form" = some (.ref C)
  cls : Cls K C
  nt : NoAttr K C "terms"
  ns : NoAttr K C "symbols"
  nx : NoAttr K C "text"
  sf : PySem.W.selfFirst K C = true
  i1 : PySem.W.findIn K (.ref C) "__class__" = some (some (.builtin "object.__class__"))
  i2 : PySem.W.specialIn K (.builtin "object.__class__") "__get__" = some (some (.builtin "getset_descriptor.__get__"))
  i3 : PySem.W.takesIn K (.builtin "object.__class__") = some true
  i4 : PySem.W.mroIn K C (.type "object") = some true
  one : PySem.W.kitOne K (.ref C) (.ref C) = some true
theorem FormC.isi {K : PySem.W.Frag} {mg : Str → Option Value} {C : Addr} {H : Hp} {Q : VK} {a dx : Addr} {fs : List (Str × V)} (f : FormC K mg C) (e : H a = some (.ins C dx fs)) (h : Q (.bl true) H) : rIsi K [.ref a, .ref C] H Q :=
  ⟨_, _, _, _, _, rfl, .own C, .base (.ins e f.cls f.i1 f.i2 f.i3 f.i4), f.one, h⟩
/-! ### promises -/
def spTextOf (K : PySem.W.Frag) : Sp := fun vs H Q _ => ∃ (t : Addr) (xs : List V) (q : Row), vs = [.ref t] ∧ SqT K H t xs ∧ PrsL H xs q ∧ RowB q ∧ ∀ H', Same H H' → Q (.str (textR q)) H'
def spInit (C : Addr) : Sp := fun vs H Q _ => ∃ (a dx d : Addr) (r : Row), vs = [.ref a, .ref d] ∧ H a = some (.ins C dx []) ∧ H d = some (.dK (kvR r)) ∧ (keysR r).Nodup ∧ RowB r ∧
  ∀ q H', CanOf r q → Rx [a] H H' → FormAt C H' (.ref a) q → Q .non H'
/-- what hasK_mk makes of it -/
def spMake (C : Addr) : List V → List (Str × V) → Hp → VK → XK → Prop := fun vs ys H Q E => ∃ v, vs = [v] ∧ (∀ p ∈ ys, (p.1 == "own_form") = false) ∧ (ys.map (·.1)).Nodup ∧ ys.length ≤ sizeLine ∧ ∀ d, H d = none → spInit C [v, .ref d] (upd H d (.dK (inrs ys))) Q E
def spSummed (K : PySem.W.Frag) : Sp := fun vs H Q _ => ∃ (t u : Addr) (i : Int) (xs ys : List V) (r s : Row), vs = [.ref t, .ref u, .int i] ∧ FT H t xs ∧ PrsL H xs r ∧ SqT K H u ys ∧ PrsL H ys s ∧ (keysR r).Nodup ∧ (keysR s).Nodup ∧
  r.length ≤ 400 ∧ s.length ≤ 400 ∧ (∀ p ∈ s, bd p.2) ∧ bd i ∧ ∀ d H', H d = none → Same H H' → H' d = some (.dK (kvR (sumR r s i))) → Q (.ref d) H'
def spAdd (C : Addr) (t : Int) : Sp := fun vs H Q _ => ∃ (v1 v2 : V) (q1 q2 : Row), vs = [v1, v2] ∧ FormAt C H v1 q1 ∧ FormAt C H v2 q2 ∧ q1.length ≤ 400 ∧ q2.length ≤ 400 ∧ (∀ x, bd (fac q1 x + fac q2 x * t)) ∧
  ∀ v q H', CanOf (sumR q1 q2 t) q → Same H H' → FormAt C H' v q → Q v H'
def spMul (C : Addr) : Sp := fun vs H Q _ => ∃ (v1 : V) (i : Int) (q1 : Row), vs = [v1, .int i] ∧ FormAt C H v1 q1 ∧ q1.length ≤ 400 ∧ bd i ∧ (∀ x, bd (fac q1 x * i)) ∧
  ∀ v q H', CanOf (sumR [] q1 i) q → Same H H' → FormAt C H' v q → Q v H'
def spNeg (C : Addr) : Sp := fun vs H Q _ => ∃ (v1 : V) (q1 : Row), vs = [v1] ∧ FormAt C H v1 q1 ∧ q1.length ≤ 400 ∧
  ∀ v q H', CanOf (sumR [] q1 (0 - 1)) q → Same H H' → FormAt C H' v q → Q v H'
def spStr (C : Addr) : Sp := fun vs H Q _ => ∃ (v1 : V) (q1 : Row), vs = [v1] ∧ FormAt C H v1 q1 ∧ (textR q1).length ≤ 100000 ∧ Q (.str (textR q1)) H
def spCheckForm (C : Addr) : Sp := fun vs H Q _ => ∃ (v1 : V) (q1 : Row), vs = [v1] ∧ FormAt C H v1 q1 ∧ Q .non H
def spNumbersOf (K : PySem.W.Frag) : Sp := fun vs H Q _ => ∃ (t : Addr) (xs : List V) (r : Row), vs = [.ref t] ∧ SqT K H t xs ∧ PrsL H xs r ∧ (keysR r).Nodup ∧ r.length ≤ 1000 ∧ ∀ d H', H d = none → Same H H' → H' d = some (.dK (kvR r)) → Q (.ref d) H'
/-- values: a tuple of pairs -/
structure ValsAt (H : Hp) (t : Addr) (xs : List V) (r : Row) : Prop where
  tu : H t = some (.tup xs)
  prs : PrsL H xs r
  asc : (keysR r).Pairwise fun a b => a.cps.toList < b.cps.toList
  ok : ∀ p ∈ r, symS p.1 = true ∧ 0 ≤ p.2 ∧ bd p.2
  len : r.length ≤ 100
theorem ValsAt.same {H H' : Hp} {t : Addr} {xs : List V} {r : Row} (s : Same H H') (h : ValsAt H t xs r) : ValsAt H' t xs r := ⟨s _ _ h.tu, h.prs.same s, h.asc, h.ok, h.len⟩
theorem ValsAt.nodup {H : Hp} {t : Addr} {xs : List V} {r : Row} (h : ValsAt H t xs r) : (keysR r).Nodup := List.Pairwise.imp (fun {a b} h e => by rw [e] at h; exact List.lt_irrefl _ h) h.asc
def spCheckValues (K : PySem.W.Frag) : Sp := fun vs H Q _ => ∃ (t y : Addr) (xs : List V) (r : Row) (zs : List Str), vs = [.ref t, .ref y] ∧ ValsAt H t xs r ∧ SqT K H y (zs.map V.str) ∧ zs.length ≤ 1000 ∧ (∀ z ∈ zs, z ∈ keysR r) ∧ ∀ H', Same H H' → Q .non H'
def evalR (q r : Row) : Int := (q.map fun p => p.2 * fac r p.1).sum
def spValueBy (C : Addr) : Sp := fun vs H Q _ => ∃ (v : V) (d : Addr) (q r : Row), vs = [v, .ref d] ∧ FormAt C H v q ∧ H d = some (.dK (kvR r)) ∧ (∀ z ∈ keysR q, z ∈ keysR r) ∧ (∀ x, bd (fac r x)) ∧ ∀ H', Same H H' → Q (.int (evalR q r)) H'
def spEvaluate (C : Addr) : Sp := fun vs H Q _ => ∃ (v : V) (t : Addr) (xs : List V) (q r : Row), vs = [v, .ref t] ∧ FormAt C H v q ∧ ValsAt H t xs r ∧ (∀ z ∈ keysR q, z ∈ keysR r) ∧ ∀ H', Same H H' → Q (.int (evalR q r)) H'
def spTermOf : Sp := fun vs H Q _ => ∃ z : Str, vs = [.str z] ∧ z.length ≤ 570 ∧ (termF z = none → ∀ H', Same H H' → Q .non H') ∧ (∀ p, termF z = some p → ∀ t H', H t = none → Same H H' → H' t = some (.tup [.str p.1, .int p.2]) → Q (.ref t) H')
def spFormOf (C : Addr) : Sp := fun vs H Q _ => ∃ z : Str, vs = [.str z] ∧ z.length ≤ 280 ∧ ((∀ q, Can q → RowB q → textR q ≠ z) → ∀ H', Same H H' → Q .non H') ∧ (∀ v q H', Same H H' → FormAt C H' v q → textR q = z → Q v H')
def spRead (C : Addr) : Sp := fun vs H Q _ => ∃ q : Row, vs = [.str (textR q)] ∧ Can q ∧ RowB q ∧ (textR q).length ≤ 280 ∧ ∀ v H', Same H H' → FormAt C H' v q → Q v H'
/-! ### a form made -/
theorem own_not_sym : symS "own_form" = false := by decide +kernel
theorem kvR_inrs (r : Row) : kvR r = inrs (r.map fun p => (p.1, V.int p.2)) := by
  unfold kvR inrs
  rw [List.map_map]
  rfl
theorem s_make {C : Addr} {H : Hp} {Qa : Addr → Hp → Prop} {d0 : Addr} {r : Row} (h : H d0 = some (.dK (kvR r))) (nd : (keysR r).Nodup) (b : RowB r)
    (k : ∀ x q H', CanOf r q → Same H H' → FormAt C H' (.ref x) q → Qa x H') : ∃ d ys, V.ref d0 = .ref d ∧ H d = some (.dK (inrs ys)) ∧ ∀ x dx, H x = none → H dx = none → dx ≠ x →
      spMake C [.ref x] ys (upd (upd H dx (.own x)) x (.ins C dx [])) (fun v H2 => v = .non ∧ Qa x H2) E0 := by
  refine ⟨d0, r.map fun p => (p.1, V.int p.2), rfl, by rw [← kvR_inrs]; exact h, fun x dx hx hd ne => ?_⟩
  refine ⟨_, rfl, ?_, ?_, ?_, ?_⟩
  · intro p hp
    obtain ⟨q, hq, rfl⟩ := List.mem_map.mp hp
    have hs := b.sym q hq
    refine beq_eq_false_iff_ne.mpr fun z => ?_
    have z : q.1 = "own_form" := z
    rw [z, own_not_sym] at hs
    cases hs
  · rw [List.map_map]
    exact nd
  · rw [List.length_map]
    have := b.len
    exact sz1 (by omega)
  · intro d hd2
    rw [← kvR_inrs]
    have nx : x ≠ d := by
      rintro rfl
      rw [upd_same] at hd2
      cases hd2
    have hd3 : H d = none := by
      rw [upd_ne (Ne.symm nx)] at hd2
      by_cases z : d = dx
      · subst z
        rw [upd_same] at hd2
        cases hd2
      · rw [upd_ne z] at hd2
        exact hd2
    refine ⟨x, dx, d, r, rfl, by rw [upd_ne nx, upd_same], upd_same, nd, b, fun q H' cq rx fa => ⟨rfl, k x q H' cq ?_ fa⟩⟩
    intro a o e
    have n1 : a ≠ x := ne_of_none e hx
    refine rx a o (by simpa using n1) ?_
    rw [upd_ne (ne_of_none e hd3), upd_ne n1, upd_ne (ne_of_none e hd)]
    exact e
/-! ### bounds -/
theorem RowB.sum {r s : Row} {t : Int} (nr : (keysR r).Nodup) (ns : (keysR s).Nodup) (lr : r.length ≤ 400) (ls : s.length ≤ 400) (sr : ∀ p ∈ r, symS p.1 = true) (ss : ∀ p ∈ s, symS p.1 = true) (b : ∀ x, G.bd (fac r x + fac s x * t)) : RowB (sumR r s t) := by
  refine ⟨?_, ?_, ?_⟩
  · have := sum_len t s r
    omega
  · intro p hp
    exact sum_keys t (fun x => symS x = true) s r (fun x hx => by obtain ⟨q, hq, rfl⟩ := List.mem_map.mp hx; exact sr q hq) (fun x hx => by obtain ⟨q, hq, rfl⟩ := List.mem_map.mp hx; exact ss q hq) p.1 (mem_keys hp)
  · intro p hp
    rw [← fac_mem (sum_nodup t s r nr) hp, fac_sum t p.1 s r ns]
    exact b p.1
theorem RowB.can {r q : Row} (h : RowB r) (c : CanOf r q) (nd : (keysR r).Nodup) : RowB q := by
  refine ⟨Nat.le_trans c.len h.len, fun p hp => ?_, fun p hp => ?_⟩
  · obtain ⟨m, _⟩ := c.mem hp
    obtain ⟨p', hp', e⟩ := List.mem_map.mp m
    rw [← e]
    exact h.sym p' hp'
  · obtain ⟨m, e⟩ := c.mem hp
    obtain ⟨p', hp', e'⟩ := List.mem_map.mp m
    have := fac_mem nd hp'
    rw [e'] at this
    rw [e, this]
    exact h.bd p' hp'
end G


namespace G
open PySem PySem.Spec PyProof.Rows L2 StX ClX TL
/-! ### rules with the written part named -/
section
variable {X : Cx} (K : PySem.W.Frag) (h : X.K = K := by rfl)
include h
theorem fldK {e : Expr} {ta : TE} {f : Str} {pos : Pos} (he : PE X e ta) (hb : attributeBase e f X.env (eval e X.env) = eval e X.env := by rfl) : PE X (.Attribute e f pos) (tFld K ta f) := by subst h; exact pe_fld he hb
theorem sfldK {o value : Expr} {ta tv : TE} {f : Str} {pos pos' : Pos} (ha : PE X o ta) (hv : PE X value tv) (hs : swapsWith value (some (.Attribute o f pos')) pos.line X.env = pure false := by rfl) : PS X (.Assign [.Attribute o f pos'] value pos) (sFld K ta tv f) := by subst h; exact ps_fld ha hv hs
theorem sortSIK : CallR X (.builtin "sorted") (rSortSI K) := by subst h; exact cr_sortSI
theorem tupFK : CallR X (.type "tuple") (rTupF K) := by subst h; exact cr_tupF
theorem gT {es : List Expr} {k : Nat} {t : TGs} {n : Nat} {pos : Pos} (hc : X.calm = true) (hg : PGs X es t)
    (hn : (assignEach es X.env).length = n := by rfl) (hst : (assignEach es X.env).findIdx? (·.1) = none := by rfl) : PG X (.Tuple es k pos) (gTup K n t) := by subst h; exact pg_tup hc hg hn hst
theorem gU {es : List Expr} {k : Nat} {t : TGs} {n : Nat} {pos : Pos} (hc : X.calm = true) (hg : PGs X es t)
    (hn : (assignEach es X.env).length = n := by rfl) (hst : (assignEach es X.env).findIdx? (·.1) = none := by rfl) : PG X (.Tuple es k pos) (gUnl K n t) := by subst h; exact pg_unl hc hg hn hst
theorem itemsK {o : Expr} {to : TE} {apos cpos : Pos} (ho : PE X o to) (hbase : attributeBase o "items" X.env (eval o X.env) = eval o X.env := by rfl) (hline : (apos.endLine == cpos.line) = true := by rfl) : PE X (.Call (.Attribute o "items" apos) [] [] cpos) (tBM0 K "dict" rItems to) := by
  subst h
  exact pe_bm0 F.plainAttrs_dict F.slot_dict_items F.type_dict_items mt_items ho hbase hline
end
section
variable {K : PySem.W.Frag} {σ : L2.St} {H : Hp} {Q : VK} {te ta : TE} {t : TA} {C : Addr} {sp : Sp} {m : Str}
theorem s_bm0 {T : String} {ro : V → List V → Hp → VK → Prop} {to : TE} (h : to σ H fun x H1 => tyV K T x H1 ∧ ro x [] H1 Q) : tBM0 K T ro to σ H Q := h
theorem s_tyD {a : Addr} {kvs : List (Key × V)} {B : Prop} (e : H a = some (.dK kvs)) (h : B) : tyV K "dict" (.ref a) H ∧ B := ⟨.inr (.inr (.inl ⟨rfl, .inl ⟨kvs, e⟩⟩)), h⟩
theorem s_itemsE {a : Addr} {kvs : List (Key × V)} (e : H a = some (.dK kvs)) (h : ∀ p H', H p = none → Same H H' → H' p = some (DX.itemsO p a) → Q (.ref p) H') : rItems (.ref a) [] H Q :=
  ⟨a, kvs, rfl, rfl, e, fun p hp => h p _ hp (fun b u e => by rw [upd_ne (ne_of_none e hp)]; exact e) upd_same⟩
theorem s_sortItems {p a : Addr} {r : Row} (e : H p = some (DX.itemsO p a)) (d : H a = some (.dK (kvR r))) (h : ∀ H' l xs q, Same H H' → H l = none → q.Perm r → SrtO.Srtd SrtG.lxB q → H' l = some (.lst xs) → PrsL H' xs q → Q (.ref l) H') : rSortItems [.ref p] H Q := ⟨p, a, r, rfl, e, d, h⟩
/-- own calls -/
theorem s_mk2 (h : te σ H fun v H1 => ∃ d ys, v = .ref d ∧ H1 d = some (.dK (inrs ys)) ∧ ∀ x dx, H1 x = none → H1 dx = none → dx ≠ x → spMake C [.ref x] ys (upd (upd H1 dx (.own x)) x (.ins C dx [])) (fun v H2 => v = .non ∧ Q (.ref x) H2) E0) : tMakeSS C (spMake C) E0 te σ H Q := h
def rMeth (C : Addr) (m : Str) : V → Hp → (Addr → Prop) → Prop := fun x H1 P => ∃ a dx fs, x = .ref a ∧ H1 a = some (.ins C dx fs) ∧ fs.lookup m = none ∧ P a
theorem s_methE {a dx : Addr} {fs : List (Str × V)} {P : Addr → Prop} (e : H a = some (.ins C dx fs)) (l : fs.lookup m = none) (h : P a) : rMeth C m (.ref a) H P := ⟨a, dx, fs, rfl, e, l, h⟩
def rMethP (C : Addr) (m : Str) : V → Hp → Prop → Prop := fun x H1 P => ∃ a dx fs, x = .ref a ∧ H1 a = some (.ins C dx fs) ∧ fs.lookup m = none ∧ P
theorem s_methPE {a dx : Addr} {fs : List (Str × V)} {P : Prop} (e : H a = some (.ins C dx fs)) (l : fs.lookup m = none) (h : P) : rMethP C m (.ref a) H P := ⟨a, dx, fs, rfl, e, l, h⟩
theorem s_meth (h : ta σ H fun x H1 => rMethP C m x H1 (t σ H1 fun vs H2 => sp (x :: (vs ++ [])) H2 Q E0)) : tMeth C m sp [] E0 ta t σ H Q := h
theorem s_methZ (h : ta σ H fun x H1 => rMeth C m x H1 fun a => t σ H1 fun vs H2 => sp (.ref a :: vs) H2 Q E0) : tMethZ C m sp E0 ta t σ H Q := h
theorem s_smeth (h : ta σ H fun x H1 => x = .ref C ∧ t σ H1 fun vs H2 => sp (vs ++ []) H2 Q E0) : tSMeth C sp [] E0 ta t σ H Q := h
theorem s_own2 {x y : V} {q1 q2 : Row} (f1 : FormAt C H x q1) (f2 : FormAt C H y q2) (h : sp [x, y] H Q E0) : rOwn2 C sp E0 x y H Q := by
  obtain ⟨a, dx, t, z, xs, rfl, f1⟩ := f1
  obtain ⟨b, dy, t', z', xs', rfl, f2⟩ := f2
  exact ⟨a, dx, _, b, dy, _, rfl, rfl, f1.ins, f2.ins, h⟩
theorem s_ownI {x : V} {i : Int} {q1 : Row} (f1 : FormAt C H x q1) (h : sp [x, .int i] H Q E0) : rOwnI C sp E0 x (.int i) H Q := by
  obtain ⟨a, dx, t, z, xs, rfl, f1⟩ := f1
  exact ⟨a, dx, _, i, rfl, rfl, f1.ins, h⟩
theorem s_ownU {x : V} {q1 : Row} (f1 : FormAt C H x q1) (h : sp [x] H Q E0) : rOwnU C sp E0 x H Q := by
  obtain ⟨a, dx, t, z, xs, rfl, f1⟩ := f1
  exact ⟨a, dx, _, rfl, f1.ins, h⟩
theorem s_strO {x : V} {q1 : Row} (f1 : FormAt C H x q1) (h : sp [x] H (fun v H' => (∃ z, v = .str z) ∧ Q v H') E0) : rStrO C sp E0 [x] H Q := by
  obtain ⟨a, dx, t, z, xs, rfl, f1⟩ := f1
  exact ⟨a, dx, _, rfl, f1.ins, h⟩
end
end G
namespace G
open PySem PySem.Spec PyProof.Rows L2
theorem PrsL.at {H : Hp} : ∀ {xs : List V} {r : Row} {i : Nat} {x : V}, PrsL H xs r → xs[i]? = some x → ∃ p t, r[i]? = some p ∧ x = .ref t ∧ H t = some (.tup [.str p.1, .int p.2])
  | _, _, _, _, .nil, e => by simp at e
  | _, _, 0, _, .cons (t := t) (x := x) (i := j) h _, e => by
    cases e
    exact ⟨(x, j), t, rfl, rfl, h⟩
  | _, _, i + 1, _, .cons _ h, e => h.at (i := i) (by simpa using e)
end G


namespace G
open PySem PySem.Spec PyProof.Rows L2 StX ClX TL
theorem bd_abs {i : Int} (h : bd i) : (if i < 0 then -i else i).natAbs.log2 < 1920 := by
  have e : (if i < 0 then -i else i).natAbs = i.natAbs := by split <;> omega
  rw [e]
  exact bd_log h
theorem pow_1900 : 2 ^ 1900 < 10 ^ 573 := by decide +kernel
theorem len_num {n : Nat} (h : n < 2 ^ 1900) : (numL n).length ≤ 573 := numL_len (by decide) (Nat.lt_trans h pow_1900)
theorem len_abs {i : Int} (h : bd i) : (Str.ofString (toString (if i < 0 then -i else i))).length ≤ 573 := by
  have e : (if i < 0 then -i else i) = ((i.natAbs : Nat) : Int) := by split <;> omega
  rw [e, len_tl, tl_num]
  exact len_num h
theorem len_word {p : Str × Int} (s : symS p.1 = true) (h : bd p.2) : (wordR p).length ≤ 582 := by
  rw [len_tl, tl_word]
  have h1 := (sym_len s).2
  rw [len_tl] at h1
  have h2 := len_num h
  split
  · omega
  · rw [List.length_append, List.length_cons]
    omega
theorem str_ext {a b : Str} (h : tl a = tl b) : a = b := ext_tl h
theorem emp_app (a : Str) : Str.empty ++ a = a := ext_tl (by rw [tl_append]; rfl)
theorem asc_word {p : Str × Int} (s : symS p.1 = true) : asc (wordR p) := by
  intro c hc
  have := word_free s c hc
  omega
theorem asc_lit {a b : Str} (ha : asc a) (hb : asc b) : asc (a ++ b) := asc_app ha hb
theorem asc_part {p : Str × Int} (s : symS p.1 = true) : asc (partR p) := by
  unfold partR
  split
  · exact asc_app (by decide +kernel) (asc_word s)
  · exact asc_word s
theorem asc_tail {p : Str × Int} (s : symS p.1 = true) : asc (tailR p) := by
  unfold tailR
  split
  · exact asc_app (by decide +kernel) (asc_word s)
  · exact asc_app (by decide +kernel) (asc_word s)
theorem asc_words : ∀ {q : Row}, (∀ p ∈ q, symS p.1 = true) → ∀ z ∈ wordsR q, asc z
  | [], _, z, h => (List.not_mem_nil h).elim
  | p :: q, hs, z, h => by
    rcases List.mem_cons.mp h with rfl | h
    · exact asc_part (hs p List.mem_cons_self)
    · obtain ⟨p', hp', rfl⟩ := List.mem_map.mp h
      exact asc_tail (hs p' (List.mem_cons_of_mem _ hp'))
theorem eqv_nil (zs : List Str) : PyData.eqv (.list (zs.map PyData.str)) (.list []) = decide (zs = []) := by
  cases zs with
  | nil => decide +kernel
  | cons z zs => first | rfl | (simp [PyData.eqv]; done) | decide
theorem s_eqNil {K : PySem.W.Frag} {H : Hp} {Q : VK} {a b : Addr} {zs : List Str} (e : H a = some (.lst (zs.map V.str))) (f : H b = some (.lst [])) (ha : ∀ z ∈ zs, asc z) (h : Q (.bl (decide (zs = []))) H) : rEqD K (.ref a) (.ref b) H Q :=
  ⟨_, _, .lst (SqL.of e) dp_strs, .lst (SqL.of f) .nil, shaped_strs ha, rfl, by rw [eqv_nil]; exact h⟩
theorem s_neNil {K : PySem.W.Frag} {H : Hp} {Q : VK} {a b : Addr} {zs : List Str} (e : H a = some (.lst (zs.map V.str))) (f : H b = some (.lst [])) (ha : ∀ z ∈ zs, asc z) (h : Q (.bl (!decide (zs = []))) H) : rNeD K (.ref a) (.ref b) H Q :=
  ⟨_, _, .lst (SqL.of e) dp_strs, .lst (SqL.of f) .nil, shaped_strs ha, rfl, by rw [eqv_nil]; exact h⟩
theorem take_snoc {α : Type} {l : List α} {i : Nat} {p : α} (h : l[i]? = some p) : l.take (i + 1) = l.take i ++ [p] := by rw [List.take_add_one, h]; rfl
theorem words_snoc (q : Row) (p : Str × Int) : wordsR (q ++ [p]) = wordsR q ++ [if q = [] then partR p else tailR p] := by
  cases q with
  | nil => rfl
  | cons a q => simp [wordsR]
theorem words_nil {q : Row} : wordsR q = [] ↔ q = [] := by
  cases q <;> simp [wordsR]
theorem words_len : ∀ q : Row, (wordsR q).length = q.length
  | [] => rfl
  | p :: q => by simp [wordsR]
theorem len_lit (a b : Str) : (a ++ b).length = a.length + b.length := len_app a b
theorem sum_words {q : Row} (b : RowB q) : ((wordsR q).map (·.length)).sum ≤ 585 * q.length := by
  have part : ∀ p ∈ q, (partR p).length ≤ 585 ∧ (tailR p).length ≤ 585 := by
    intro p hp
    have h := len_word (b.sym p hp) (b.bd p hp)
    have h1 : ("-" : Str).length = 1 := by decide +kernel
    have h2 : (" - " : Str).length = 3 := by decide +kernel
    have h3 : (" + " : Str).length = 3 := by decide +kernel
    unfold partR tailR
    constructor <;> split <;> first | (simp only [len_lit]; omega) | omega
  cases q with
  | nil => simp [wordsR]
  | cons p q =>
    have h0 := (part p List.mem_cons_self).1
    have ht : ∀ l : Row, (∀ p ∈ l, (tailR p).length ≤ 585) → ((l.map tailR).map (·.length)).sum ≤ 585 * l.length := by
      intro l
      induction l with
      | nil => intro _; simp
      | cons a l ih =>
        intro hl
        have := ih fun p hp => hl p (List.mem_cons_of_mem _ hp)
        have h2 := hl a List.mem_cons_self
        simp only [List.map_cons, List.sum_cons, List.length_cons]
        omega
    have h1 := ht q fun p' hp' => (part p' (List.mem_cons_of_mem _ hp')).2
    simp only [wordsR, List.map_cons, List.sum_cons, List.length_cons]
    omega
end G
namespace G
open PySem PySem.Spec PyProof.Rows L2 TL
theorem val_mem {r : Row} {x : Str} (h : x ∈ keysR r) : valR r x = some (fac r x) := by
  cases e : valR r x with
  | none => exact absurd h (valR_none.mp e)
  | some i => simp [fac, e]
theorem kvR_at {r : Row} {i : Nat} {p : Key × V} (h : (kvR r)[i]? = some p) : ∃ q, r[i]? = some q ∧ p = (Sum.inr q.1, .int q.2) := by
  unfold kvR at h
  rw [List.getElem?_map] at h
  cases e : r[i]? with
  | none => rw [e] at h; cases h
  | some q => rw [e] at h; exact ⟨q, rfl, (Option.some.inj h).symm⟩
theorem kvR_self {r : Row} (nd : (keysR r).Nodup) : mergeK [] (kvR r) = kvR r := by
  have := kvR_merge r []
  rw [merge_new r [] (by simpa using nd)] at this
  exact this
theorem range_map {α β : Type} (f : α → β) (l : List α) : (List.range l.length).filterMap (fun (i : Nat) => l[i]?.map f) = l.map f := by
  have := range_get (fun a => some (f a)) l
  have e : (fun (i : Nat) => l[i]?.bind fun a => some (f a)) = fun (i : Nat) => l[i]?.map f := by
    funext i
    cases l[i]? <;> rfl
  rw [e] at this
  rw [this]
  exact congrFun List.filterMap_eq_map' l
theorem yat_same {xs : List V} : ∀ i H1 x H2, YAt xs i H1 x H2 → Same H1 H2 := by
  rintro i H1 x H2 ⟨rfl, _⟩
  exact Same.refl _
theorem bd_1 : bd 1 := by unfold bd; decide +kernel
theorem bd_m1 : bd (0 - 1) := by unfold bd; decide +kernel
end G
namespace G
open PySem PySem.Spec PyProof.Rows L2 TL
theorem fm_filter : ∀ r : Row, r.filterMap (fun p => if p.2 ≠ 0 then some p else none) = r.filter fun p => decide (p.2 ≠ 0)
  | [] => rfl
  | p :: r => by
    rw [List.filterMap_cons, List.filter_cons, fm_filter r]
    by_cases h : p.2 = 0 <;> simp [h]
theorem Tp.ins {H : Hp} {a C dx : Addr} {fs : List (Str × V)} {o : HO} (h : H a = some (.ins C dx fs)) : Tp H (upd H a o) := fun b xs e => by
  have : b ≠ a := fun z => by rw [z, h] at e; cases e
  rw [upd_ne this]
  exact e
theorem FT.ins {H : Hp} {a C dx t : Addr} {fs : List (Str × V)} {o : HO} {xs : List V} (h : H a = some (.ins C dx fs)) (f : FT H t xs) : FT (upd H a o) t xs := by
  obtain ⟨ob, d, e⟩ := f
  have : t ≠ a := fun z => by rw [z, h] at e; cases e
  exact ⟨ob, d, by rw [upd_ne this]; exact e⟩
theorem Rx.step {H H1 H2 : Hp} {a : Addr} {o : HO} (r : Rx [a] H H1) (s : Same H1 H2) : Rx [a] H (upd H2 a o) := fun b u n e => by
  rw [upd_ne (by simpa using n)]
  exact s _ _ (r b u n e)
end G
namespace G
open PySem PySem.Spec PyProof.Rows L2 TL
theorem can_fac_bd {q : Row} (c : Can q) (b : RowB q) (x : Str) : bd (fac q x) := by
  by_cases h : x ∈ keysR q
  · obtain ⟨p, hp, rfl⟩ := List.mem_map.mp h
    rw [fac_mem c.nodup hp]
    exact b.bd p hp
  · rw [fac_out h]
    unfold bd
    decide +kernel
theorem prs_nil {H : Hp} : PrsL H [] [] := .nil
theorem nodup_nilR : (keysR []).Nodup := List.nodup_nil
end G
namespace G
open PySem PySem.Spec PyProof.Rows L2 TL
theorem symV_S (z : Str) : symV (.str z) = symS z := rfl
theorem prs_th {A : Addr → Prop} {H : Hp} : ∀ {xs : List V} {r : Row}, PrsL H xs r → (∀ p ∈ r, symS p.1 = true) → (∀ t, V.ref t ∈ xs → ¬ A t) → ∀ x ∈ xs, Th A H 1 x
  | _, _, .nil, _, _, x, h => (List.not_mem_nil h).elim
  | _, _, .cons (t := t) (x := z) (i := i) e h, hs, ha, x, hx => by
    rcases List.mem_cons.mp hx with rfl | hx
    · refine th_tup (ha t List.mem_cons_self) e (by simp) ?_
      intro y hy
      have hl := (sym_len (hs (z, i) List.mem_cons_self)).2
      have : y = .str z ∨ y = .int i := by simpa using hy
      rcases this with rfl | rfl
      · exact Th.str (by
          have : z.length ≤ 8 := hl
          omega)
      · exact Th.int
    · exact prs_th h (fun p hp => hs p (List.mem_cons_of_mem _ hp)) (fun t ht => ha t (List.mem_cons_of_mem _ ht)) x hx
theorem ValsAt.th {H : Hp} {t : Addr} {xs : List V} {r : Row} (h : ValsAt H t xs r) : Th (fun _ => False) H 2 (.ref t) :=
  th_tup (fun z => z) h.tu (by rw [h.prs.len]; exact h.len) (prs_th h.prs (fun p hp => (h.ok p hp).1) fun _ _ z => z)
theorem asc_pair : ∀ {l : List Str}, l.Pairwise (fun a b => a.cps.toList < b.cps.toList) → ascS l = true
  | [], _ => rfl
  | [a], _ => rfl
  | a :: b :: l, h => by
    have h' := List.pairwise_cons.mp h
    rw [ascS_cons, asc_pair h'.2, Bool.and_true]
    exact decide_eq_true (h'.1 b List.mem_cons_self)
theorem prs_pair {H : Hp} : ∀ {xs : List V} {r : Row}, PrsL H xs r → (∀ p ∈ r, symS p.1 = true ∧ 0 ≤ p.2 ∧ bd p.2) → xs.all (pairV H) = true ∧ xs.map (keyV H) = keysR r
  | _, _, .nil, _ => ⟨rfl, rfl⟩
  | _, _, .cons (t := t) (x := z) (i := i) e h, hs => by
    obtain ⟨a, b⟩ := prs_pair h fun p hp => hs p (List.mem_cons_of_mem _ hp)
    have h0 := hs (z, i) List.mem_cons_self
    have et : tupOf H (.ref t) = some [.str z, .int i] := by
      show tupH (H t) = _
      rw [e]
      rfl
    refine ⟨?_, ?_⟩
    · rw [List.all_cons, a, Bool.and_true]
      unfold pairV
      rw [et]
      have h1 := h0.1
      have h2 := h0.2.1
      simp [natV, symV_S, h1]
      exact h2
    · rw [List.map_cons, b]
      unfold keyV
      rw [et]
      rfl
theorem ValsAt.vals {H : Hp} {t : Addr} {xs : List V} {r : Row} (h : ValsAt H t xs r) : valsV H (.ref t) = true := by
  have et : tupOf H (.ref t) = some xs := by
    show tupH (H t) = _
    rw [h.tu]
    rfl
  obtain ⟨a, b⟩ := prs_pair h.prs h.ok
  rw [valsV_some et, a, b, asc_pair h.asc]
  rfl
theorem ValsAt.bd {H : Hp} {t : Addr} {xs : List V} {r : Row} (h : ValsAt H t xs r) (x : Str) : G.bd (fac r x) := by
  by_cases hx : x ∈ keysR r
  · obtain ⟨p, hp, rfl⟩ := List.mem_map.mp hx
    rw [fac_mem h.nodup hp]
    exact (h.ok p hp).2.2
  · rw [fac_out hx]
    unfold G.bd
    decide +kernel
end G


namespace G
open PySem PySem.Spec PyProof.Rows L2 StX ClX TL
theorem len_strSub (x : Str) (i j : Nat) : (Builtin.Str.strSub x i j).length ≤ x.length := by
  rw [len_tl, len_tl, tl_strSub, List.length_take, List.length_drop]
  omega
theorem len_partition (a b : Str) : (Txt.partition a b).1.length ≤ a.length ∧ (Txt.partition a b).2.2.length ≤ a.length := by
  rcases PyProof.Rows.partition_whole a b with ⟨e, _⟩ | ⟨i, e, _⟩
  · rw [e]
    exact ⟨Nat.le_refl _, Nat.zero_le _⟩
  · rw [e]
    exact ⟨len_strSub _ _ _, len_strSub _ _ _⟩
theorem len_sign (z : Str) : (signF z).2.length ≤ z.length := by
  unfold signF
  split
  · exact len_cut _ _ _
  · exact Nat.le_refl _
theorem len_numF (z : Str) (h : z.length ≤ 570) : (numF z).1.length ≤ 570 ∧ (numF z).2.length ≤ 570 := by
  obtain ⟨h1, h2⟩ := len_partition z "*"
  unfold numF
  split
  · refine ⟨?_, h⟩
    have : (Str.ofString "1").length = 1 := by decide +kernel
    show (Str.ofString "1").length ≤ 570
    omega
  · exact ⟨by show (Txt.partition z "*").1.length ≤ 570; omega, by show (Txt.partition z "*").2.2.length ≤ 570; omega⟩
theorem fold_lt : ∀ (l : List Nat) (a : Nat), NumText.AllDigits l → l.foldl (fun acc c => acc * 10 + (c - 48)) a < (a + 1) * 10 ^ l.length
  | [], a, _ => by simp
  | c :: l, a, h => by
    have hc := h c List.mem_cons_self
    have ih := fold_lt l (a * 10 + (c - 48)) fun d hd => h d (List.mem_cons_of_mem _ hd)
    rw [List.foldl_cons, List.length_cons, Nat.pow_succ]
    refine Nat.lt_of_lt_of_le ih ?_
    have : (a * 10 + (c - 48) + 1) ≤ (a + 1) * 10 := by omega
    calc (a * 10 + (c - 48) + 1) * 10 ^ l.length ≤ ((a + 1) * 10) * 10 ^ l.length := Nat.mul_le_mul_right _ this
      _ = (a + 1) * (10 ^ l.length * 10) := by rw [Nat.mul_assoc, Nat.mul_comm 10]
theorem pow_570 : 10 ^ 570 < 2 ^ 1900 := by decide +kernel
theorem digits_bd {z : Str} (h : digF z = true) (l : z.length ≤ 570) : NumText.digitsVal (tl z) < 2 ^ 1900 := by
  have h1 := fold_lt (tl z) 0 (digF_all.mp h)
  rw [Nat.zero_add, Nat.one_mul] at h1
  rw [len_tl] at l
  exact Nat.lt_of_lt_of_le h1 (Nat.le_trans (Nat.pow_le_pow_right (by decide) l) (Nat.le_of_lt pow_570))
theorem termF_ok {z : Str} {p : Str × Int} (h : termF z = some p) (l : z.length ≤ 570) : symS p.1 = true ∧ bd p.2 := by
  unfold termF at h
  split at h
  · rename_i c
    cases h
    refine ⟨c.1, ?_⟩
    have hl := len_sign z
    have hn := (len_numF (signF z).2 (by omega)).1
    have hd := digits_bd c.2.2 hn
    have hs : (signF z).1 = 0 - 1 ∨ (signF z).1 = 1 := by
      unfold signF
      split
      · exact .inl rfl
      · exact .inr rfl
    show ((signF z).1 * ((NumText.digitsVal (tl (numF (signF z).2).1) : Nat) : Int)).natAbs < 2 ^ 1900
    generalize NumText.digitsVal (tl (numF (signF z).2).1) = n at hd
    have e : ((signF z).1 * (n : Int)).natAbs = n := by
      rcases hs with e | e <;> rw [e] <;> omega
    rw [e]
    exact hd
  · cases h
/-! lengths of parts -/
theorem join_len (S : List Nat) : ∀ l : List (List Nat), l ≠ [] → (joinL S l).length + S.length = (l.map List.length).sum + l.length * S.length
  | [], h => absurd rfl h
  | [p], _ => by simp [joinL]
  | p :: q :: r, _ => by
    have ih := join_len S (q :: r) (by simp)
    show (p ++ (S ++ joinL S (q :: r))).length + S.length = _
    rw [List.length_append, List.length_append]
    simp only [List.map_cons, List.sum_cons, List.length_cons, Nat.succ_mul] at ih ⊢
    omega
theorem split_ne (x y : Str) : Txt.split x y ≠ [] := by
  intro h
  unfold Txt.split at h
  split at h
  · cases h
  · split at h
    · cases h
    · rename_i h2
      rw [PySem.StrLaws.partsBetween_eq] at h
      cases ho : Builtin.Str.occurrences x y 0 x.length (x.length + 1) with
      | nil => rw [ho] at h2; exact h2 rfl
      | cons c r => rw [ho] at h; cases h
theorem split_len {x y : Str} (hy : tl y ≠ []) (hk : y.cps.all (· < 256) = true) : x.length + y.length = (((Txt.split x y).map tl).map List.length).sum + (Txt.split x y).length * y.length := by
  have e : Txt.join y (Txt.split x y) = x := (replace_join hy hk).symm.trans (Txt.replace_self x y)
  have e2 := congrArg tl e
  rw [join_eq, tl_join] at e2
  have e3 := join_len (tl y) ((Txt.split x y).map tl) (fun z => split_ne x y (List.map_eq_nil_iff.mp z))
  rw [e2, List.length_map, ← len_tl, ← len_tl] at e3
  exact e3
theorem mem_sum {l : List Nat} {n : Nat} (h : n ∈ l) : n ≤ l.sum := by
  induction l with
  | nil => simp at h
  | cons a l ih =>
    rw [List.sum_cons]
    rcases List.mem_cons.mp h with rfl | h
    · omega
    · have := ih h
      omega
theorem repl_len (z : Str) : (Txt.replace z " - " " + -").length ≤ 2 * z.length := by
  have hm : tl (" - " : Str) ≠ [] := by rw [tl_mi]; simp
  have hk : (" - " : Str).cps.all (· < 256) = true := by decide +kernel
  have h1 := split_len (x := z) hm hk
  have e := replace_join (x := z) (z := " + -") hm hk
  have e2 := congrArg tl e
  rw [join_eq, tl_join] at e2
  have e3 := join_len (tl (" + -" : Str)) ((Txt.split z " - ").map tl) (fun w => split_ne z " - " (List.map_eq_nil_iff.mp w))
  rw [← e2, List.length_map, ← len_tl, ← len_tl] at e3
  have l3 : (" - " : Str).length = 3 := by decide +kernel
  have l4 : (" + -" : Str).length = 4 := by decide +kernel
  rw [l3] at h1
  rw [l4] at e3
  omega
theorem parts_ok {z : Str} (h : z.length ≤ 280) : (partsF z).length ≤ 600 ∧ ∀ p ∈ partsF z, p.length ≤ 570 := by
  unfold partsF
  split
  · exact ⟨Nat.zero_le _, fun p hp => (List.not_mem_nil hp).elim⟩
  · have hm : tl (" + " : Str) ≠ [] := by rw [tl_pl]; simp
    have hk : (" + " : Str).cps.all (· < 256) = true := by decide +kernel
    have h1 := split_len (x := Txt.replace z " - " " + -") hm hk
    have h2 := repl_len z
    have l3 : (" + " : Str).length = 3 := by decide +kernel
    rw [l3] at h1
    refine ⟨by omega, fun p hp => ?_⟩
    have h3 := mem_sum (List.mem_map.mpr ⟨tl p, List.mem_map.mpr ⟨p, hp, rfl⟩, rfl⟩ : (tl p).length ∈ ((Txt.split (Txt.replace z " - " " + -") " + ").map tl).map List.length)
    have h4 : 0 < (Txt.split (Txt.replace z " - " " + -") " + ").length := List.length_pos_of_mem hp
    rw [len_tl]
    omega
theorem s_iLstJ {K : PySem.W.Frag} {te : TE} {σ : L2.St} {H : Hp} {R : It → Hp → Prop} (Pj : Addr → Hp → Prop) (hu : ∀ a H1, Pj a H1 → (∃ xs, SqL K H1 a xs) ∧ R (Itl K a) H1) (ht : ∀ Q : VK, (∀ a H1, Pj a H1 → Q (.ref a) H1) → te σ H Q) : iList K te σ H R :=
  ht _ fun a H1 p => ⟨a, rfl, (hu a H1 p).1, (hu a H1 p).2⟩
end G
namespace G
open PySem PySem.Spec PyProof.Rows L2 TL
def stepF (acc : Row) (part : Str) : Option Row := (termF part).map fun t => putR acc t.1 t.2
theorem rawF_fold (z : Str) : rawF z = (partsF z).foldlM stepF [] := rfl
theorem foldF_snoc {l : List Str} {i : Nat} {p : Str} {acc : Row} (h : l[i]? = some p) (e : (l.take i).foldlM stepF [] = some acc) : (l.take (i + 1)).foldlM stepF [] = stepF acc p := by
  rw [take_snoc h, List.foldlM_append, e]
  show List.foldlM stepF acc [p] = _
  rw [List.foldlM_cons]
  cases stepF acc p <;> rfl
theorem foldF_none {l : List Str} {i : Nat} {p : Str} {acc : Row} (h : l[i]? = some p) (e : (l.take i).foldlM stepF [] = some acc) (n : termF p = none) : l.foldlM stepF [] = none := by
  have h1 : l = l.take (i + 1) ++ l.drop (i + 1) := (List.take_append_drop _ _).symm
  rw [h1, List.foldlM_append, foldF_snoc h e]
  unfold stepF
  rw [n]
  rfl
end G


namespace G
open PySem PySem.Spec PyProof.Rows L2 TL
def spNameN : Sp := fun vs H Q _ => ∃ p : Addr, vs = [.ref p] ∧ Dr p H ∧ ∀ (z : Str) H', nameS z = true → Rx [p] H H' → Dr p H' → Q (.str z) H'
def spNamesN : Sp := fun vs H Q _ => ∃ (p : Addr) (n : Int), vs = [.ref p, .int n] ∧ Dr p H ∧ 1 ≤ n ∧ n ≤ 8 ∧
  ∀ q (zs : List Str) H', H q = none → (zs.length : Int) = n → (∀ z ∈ zs, nameS z = true) → zs.Nodup → Rx [p] H H' → Dr p H' → H' q = some (.lst (zs.map V.str)) → Q (.ref q) H'
theorem signs_ofP {P : Nat → Prop} : ∀ {ys : List V}, (∀ y ∈ ys, ∃ c : Nat, y = .str ⟨#[c]⟩ ∧ P c) → ∃ cs : List Nat, ys = (cs.map fun c => (⟨#[c]⟩ : Str)).map V.str ∧ cs.length = ys.length ∧ ∀ c ∈ cs, P c
  | [], _ => ⟨[], rfl, rfl, by simp⟩
  | y :: ys, h => by
    obtain ⟨c, rfl, hc⟩ := h y (by simp)
    obtain ⟨cs, e, l, a⟩ := signs_ofP (ys := ys) fun y hy => h y (by simp [hy])
    refine ⟨c :: cs, ?_, by simp [l], ?_⟩
    · rw [List.map_cons, List.map_cons, ← e]
    · intro d hd
      rcases List.mem_cons.mp hd with rfl | hd
      · exact hc
      · exact a d hd
theorem name_of {z : Str} {c : Nat} {cs : List Nat} (e : tl z = c :: cs) (l : cs.length ≤ 7) (hc : c ∈ letS.cps.toList) (hs : ∀ d ∈ cs, d ∈ (letS ++ digS).cps.toList) (nv : z ≠ "view") : nameS z = true := by
  have hl : z.length = cs.length + 1 := by rw [len_tl, e]; rfl
  have hc2 : c ∈ (letS ++ digS).cps.toList := by
    have : ∀ c ∈ letS.cps.toList, c ∈ (letS ++ digS).cps.toList := by decide +kernel
    exact this c hc
  have e' : z.cps.toList = c :: cs := e
  unfold nameS
  rw [e']
  simp only [Bool.and_eq_true, List.all_eq_true, decide_eq_true_eq, Bool.not_eq_true', decide_eq_false_iff_not]
  refine ⟨⟨⟨by omega, nv⟩, hc⟩, fun d hd => ?_⟩
  rcases List.mem_cons.mp hd with rfl | hd
  · exact hc2
  · exact hs d hd
theorem name_parts {z : Str} (h : nameS z = true) : ∃ c cs, tl z = c :: cs ∧ cs.length ≤ 7 ∧ c ∈ letS.cps.toList ∧ ∀ d ∈ cs, d ∈ (letS ++ digS).cps.toList := by
  have hl := name_len h
  unfold nameS at h
  simp only [Bool.and_eq_true, List.all_eq_true, decide_eq_true_eq] at h
  cases e : z.cps.toList with
  | nil => rw [e] at h; simp at h
  | cons c cs =>
    rw [e] at h
    have h1 := h.1.2
    rw [len_tl] at hl
    have hl' : (c :: cs).length ≤ 8 := by rw [← e]; exact hl.2
    exact ⟨c, cs, e, by simpa using hl', by simpa using h1, fun d hd => h.2 d (List.mem_cons_of_mem _ hd)⟩
theorem name_nm {z : Str} (h : nameS z = true) : Nm z := by
  obtain ⟨h1, h2⟩ := name_len h
  refine ⟨h1, h2, fun c hc => ?_⟩
  have := name_signs h c hc
  omega
theorem cutN_tl (z : Str) (n : Nat) : tl (cutS z none (some (n : Int))) = (tl z).take n := by
  unfold cutS
  have e1 : HT.sIx z.length 0 none = 0 := rfl
  have e2 : HT.sIx z.length z.length (some (n : Int)) = min n z.length := HT.sIx_nat z.length z.length n
  rw [tl_mk, e1, e2, len_tl, List.drop_zero, Nat.sub_zero]
  show List.take (min n z.cps.toList.length) z.cps.toList = List.take n z.cps.toList
  generalize z.cps.toList = l
  rw [List.take_eq_take_iff]
  omega
theorem name_cut {y : Str} {n : Nat} {c : Nat} (h : nameS y = true) (h1 : 1 ≤ n) (h7 : n ≤ 7) (hc : c ∈ (Str.ofString "0123456789z").cps.toList) : nameS (cutS y none (some (n : Int)) ++ ⟨#[c]⟩) = true := by
  obtain ⟨d, ds, e, l, hd, hs⟩ := name_parts h
  have et : tl (cutS y none (some (n : Int)) ++ ⟨#[c]⟩) = d :: (ds.take (n - 1) ++ [c]) := by
    rw [tl_append, cutN_tl, e]
    obtain ⟨m, rfl⟩ : ∃ m, n = m + 1 := ⟨n - 1, by omega⟩
    rfl
  have hc2 : c ∈ (letS ++ digS).cps.toList ∧ c ≠ 119 := by
    have : ∀ c ∈ (Str.ofString "0123456789z").cps.toList, c ∈ (letS ++ digS).cps.toList ∧ c ≠ 119 := by decide +kernel
    exact this c hc
  refine name_of et (by simp; omega) hd (fun x hx => ?_) fun z => ?_
  · rcases List.mem_append.mp hx with hx | hx
    · exact hs x (List.mem_of_mem_take hx)
    · have : x = c := by simpa using hx
      rw [this]
      exact hc2.1
  · have e1 := congrArg tl z
    rw [et] at e1
    have e2 : tl ("view" : Str) = [118, 105, 101, 119] := by decide +kernel
    rw [e2] at e1
    have e3 : (d :: ds.take (n - 1)) ++ [c] = [118, 105, 101] ++ [119] := e1
    exact hc2.2 (List.append_inj_right' e3 rfl |> List.cons.inj |>.1)
theorem ts_sign (j : Nat) (h : j < 8) : ∃ c, Str.ofString (toString (j : Int)) = ⟨#[c]⟩ ∧ c ∈ (Str.ofString "0123456789z").cps.toList := by
  have : ∀ k : Fin 8, Str.ofString (toString ((k.1 : Nat) : Int)) = ⟨#[48 + k.1]⟩ ∧ 48 + k.1 ∈ (Str.ofString "0123456789z").cps.toList := by decide +kernel
  exact ⟨48 + j, this ⟨j, h⟩⟩
end G


namespace G
open PySem PySem.Spec PyProof.Rows L2 TL
def lineR (q : Row) : Str := Txt.join "" (wordsR q)
theorem tl_line (q : Row) : tl (lineR q) = ((wordsR q).map tl).flatten := by
  unfold lineR
  have e0 : tl ("" : Str) = [] := by decide +kernel
  rw [join_eq, tl_join, e0, joinL_nil]
theorem line_nil : lineR [] = "" := by decide +kernel
theorem line_snoc (q : Row) (p : Str × Int) : lineR (q ++ [p]) = lineR q ++ (if q = [] then partR p else tailR p) := by
  refine ext_tl ?_
  rw [tl_line, words_snoc, tl_append, tl_line, List.map_append, List.flatten_append]
  simp
theorem line_len {q : Row} (b : RowB q) : (lineR q).length ≤ 585 * q.length := by
  have := sum_words b
  unfold lineR
  rw [len_join]
  exact this
theorem line_ne {q : Row} (s : ∀ p ∈ q, symS p.1 = true) : lineR q = "" ↔ q = [] := by
  constructor
  · intro h
    cases q with
    | nil => rfl
    | cons p q =>
      have := congrArg tl h
      rw [tl_line] at this
      have e0 : tl ("" : Str) = [] := by decide +kernel
      rw [e0] at this
      unfold wordsR at this
      rw [List.map_cons, List.flatten_cons] at this
      have h1 := (List.append_eq_nil_iff.mp this).1
      rw [tl_part] at h1
      split at h1
      · cases h1
      · exact absurd h1 (word_ne (s p List.mem_cons_self))
  · rintro rfl
    exact line_nil
theorem text_line (q : Row) : textR q = if q = [] then ("0" : Str) else lineR q := rfl
theorem RowB.take {q : Row} (b : RowB q) (i : Nat) : RowB (q.take i) := ⟨by rw [List.length_take]; have := b.len; omega, fun p hp => b.sym p (List.mem_of_mem_take hp), fun p hp => b.bd p (List.mem_of_mem_take hp)⟩
def spTextL (K : PySem.W.Frag) : Sp := fun vs H Q _ => ∃ (l : Addr) (xs : List V) (q : Row), vs = [.ref l] ∧ SqL K H l xs ∧ PrsL H xs q ∧ RowB q ∧ Q (.str (textR q)) H
def spAddedL (K : PySem.W.Frag) : Sp := fun vs H Q _ => ∃ (a b : Addr) (t : Int) (xs ys : List V) (r s : Row), vs = [.ref a, .ref b, .int t] ∧ SqL K H a xs ∧ PrsL H xs r ∧ SqL K H b ys ∧ PrsL H ys s ∧ (keysR r).Nodup ∧ (keysR s).Nodup ∧ r.length ≤ 400 ∧ s.length ≤ 400 ∧ (∀ p ∈ s, bd p.2) ∧ bd t ∧
  ∀ l zs q H', H l = none → Same H H' → H' l = some (.lst zs) → PrsL H' zs q → CanOf (sumR r s t) q → Q (.ref l) H'
def spSumL (K : PySem.W.Frag) : Sp := fun vs H Q _ => ∃ (l d : Addr) (xs : List V) (q r : Row), vs = [.ref l, .ref d] ∧ SqL K H l xs ∧ PrsL H xs q ∧ q.length ≤ 1000 ∧ (∀ p ∈ q, bd p.2) ∧ H d = some (.dK (kvR r)) ∧ (∀ z ∈ keysR q, z ∈ keysR r) ∧ (∀ x, bd (fac r x)) ∧ ∀ H', Same H H' → Q (.int (evalR q r)) H'
theorem bd_log' {i : Int} (h : bd i) : (if i < 0 then -i else i).natAbs.log2 < 1920 := bd_abs h
theorem merge_snoc (r s : Row) (p : Str × Int) : mergeR r (s ++ [p]) = putR (mergeR r s) p.1 p.2 := by
  unfold mergeR
  rw [List.foldl_append]
  rfl
theorem merge_len (s : Row) : ∀ r : Row, (mergeR r s).length ≤ r.length + s.length := by
  induction s with
  | nil => intro r; exact Nat.le_refl _
  | cons p s ih =>
    intro r
    have h1 := ih (putR r p.1 p.2)
    have h2 := len_put r p.1 p.2
    show (mergeR (putR r p.1 p.2) s).length ≤ _
    rw [List.length_cons]
    omega
end G
namespace G
open PySem L2
theorem Same.sqlG {K : PySem.W.Frag} {H H' : Hp} {a : Addr} {xs : List V} (r : Same H H') (h : SqL K H a xs) : SqL K H' a xs := Rx.sql (M := []) (Rx.same r) List.not_mem_nil h
end G


namespace G
open PySem PySem.Spec PyProof.Rows L2 TL
def spTermsL : Sp := fun vs H Q _ => ∃ (p q : Addr) (m : Int) (zs : List Str), vs = [.ref p, .ref q, .int m] ∧ Dr p H ∧ q ≠ p ∧ H q = some (.lst (zs.map V.str)) ∧ zs.Nodup ∧ (∀ z ∈ zs, symS z = true) ∧ zs.length ≤ 20 ∧
  ∀ l xs row H', H l = none → Rx [p] H H' → Dr p H' → H' l = some (.lst xs) → PrsL H' xs row → Can row → (∀ pr ∈ row, pr.2.natAbs ≤ 99) → row.length ≤ 20 → (∀ x ∈ keysR row, x ∈ zs) → Q (.ref l) H'
def spValuesL : Sp := fun vs H Q _ => ∃ (p q : Addr) (zs : List Str), vs = [.ref p, .ref q] ∧ Dr p H ∧ q ≠ p ∧ H q = some (.lst (zs.map V.str)) ∧ (∀ z ∈ zs, symS z = true) ∧ zs.length ≤ 20 ∧
  ∀ d r H', H d = none → Rx [p] H H' → Dr p H' → H' d = some (.dK (kvR r)) → (keysR r).Nodup → (∀ z ∈ zs, z ∈ keysR r) → Str.ofString "@" ∈ keysR r → (∀ pr ∈ r, symS pr.1 = true ∧ 0 ≤ pr.2 ∧ pr.2.natAbs ≤ 10 ^ 30) → r.length ≤ 30 → Q (.ref d) H'
theorem Dr.upd {p a : Addr} {H : Hp} {o : HO} (d : Dr p H) (n : a ≠ p) : Dr p (upd H a o) := by
  obtain ⟨s, dd, c, e, r⟩ := d
  exact ⟨s, dd, c, by rw [upd_ne (Ne.symm n)]; exact e, r⟩
theorem tp_dr {p : Addr} {H H' : Hp} (d : Dr p H) (r : Rx [p] H H') : Tp H H' := fun a xs e => Nl.of_rx d r a _ (fun _ z => by cases z) e
end G
namespace G
open PySem PySem.Spec PyProof.Rows L2 TL
theorem rising_asc : ∀ {r : List Str} {x : Str}, risingS x r = true → (x :: r).Nodup → (x :: r).Pairwise fun a b => a.cps.toList < b.cps.toList
  | [], x, _, _ => List.pairwise_singleton _ _
  | y :: r, x, h, nd => by
    have nd' := List.nodup_cons.mp nd
    have h0 : (!ltCps y.cps.toList x.cps.toList && risingS y r) = true := h
    rw [ltCps_eq, Bool.and_eq_true] at h0
    have h' : (!decide (y.cps.toList < x.cps.toList)) = true ∧ risingS y r = true := h0
    have ih := rising_asc h'.2 nd'.2
    have hne : x ≠ y := fun z => nd'.1 (by rw [z]; exact List.mem_cons_self)
    have hlt : x.cps.toList < y.cps.toList := by
      have h1 : decide (y.cps.toList < x.cps.toList) = false := by
        have := h'.1
        cases hd : decide (y.cps.toList < x.cps.toList) with
        | false => rfl
        | true => rw [hd] at this; cases this
      exact Classical.byContradiction fun z => hne (SrtG.cps_inj (SrtG.lst_tri z (of_decide_eq_false h1)))
    refine List.pairwise_cons.mpr ⟨fun b hb => ?_, ih⟩
    rcases List.mem_cons.mp hb with rfl | hb
    · exact hlt
    · exact List.lt_trans hlt ((List.pairwise_cons.mp ih).1 b hb)
theorem sorted_asc {l : List Str} (h : sortedS l = true) (nd : l.Nodup) : l.Pairwise fun a b => a.cps.toList < b.cps.toList := by
  cases l with
  | nil => exact .nil
  | cons x r => exact rising_asc h nd
end G


namespace G
open PySem PySem.Spec PyProof.Rows L2 TL
theorem Nl.refl (H : Hp) : Nl H H := fun _ _ _ h => h
theorem Nl.trans {H H1 H2 : Hp} (a : Nl H H1) (b : Nl H1 H2) : Nl H H2 := fun x o n h => b x o n (a x o n h)
theorem Nl.same {H H' : Hp} (h : Same H H') : Nl H H' := fun a o _ e => h a o e
theorem Nl.lst {H : Hp} {D : Addr} {ys : List V} {o : HO} (h : H D = some (.lst ys)) : Nl H (upd H D o) := fun a u n e => by
  have : a ≠ D := fun z => by rw [z, h] at e; cases e; exact n _ rfl
  rw [upd_ne this]
  exact e
theorem Nl.tp {H H' : Hp} (h : Nl H H') : Tp H H' := fun a xs e => h a _ (fun _ z => by cases z) e
/-- a claim about a value that no list decides -/
def NlR {β : Type} (Rel : Hp → V → β → Prop) : Prop := ∀ H H' v b, Nl H H' → Rel H v b → Rel H' v b
theorem paired_nl {β : Type} {Rel : Hp → V → β → Prop} (st : NlR Rel) {H H' : Hp} (t : Nl H H') : ∀ {vs : List V} {bs : List β}, Paired (Rel H) vs bs → Paired (Rel H') vs bs
  | _, _, .nil => .nil
  | _, _, .cons h r => .cons (st _ _ _ _ t h) (paired_nl st t r)
theorem nlR_form {C : Addr} : NlR (FormAt C) := fun _ _ _ _ t h => h.nl t
/-- a comprehension that writes nothing but new things: the i-th turn gives F i -/
theorem lcN {β : Type} {J : It} {n : Nat} {GG : Hp → Prop} {Y : Nat → Hp → V → Hp → Prop} {g : TG} {tt : TT} {te : TE} {vs : List Nat} {σ : L2.St} {H : Hp} {Q : VK} (w : Walk J n GG Y) (F : Nat → Option β) (Rel : Hp → V → β → Prop) (st : NlR Rel)
    (hG : ∀ H1, Same H H1 → GG H1) (hY : ∀ i H1 x H2, Y i H1 x H2 → Same H1 H2) (hl : n ≤ 1000000)
    (hs : ∀ i x H1 H2 (K1 : VK) (K2 : Hp → Prop), i < n → Same H H1 → Y i H1 x H2 → (∀ y H4 b, F i = some b → Same H2 H4 → Rel H4 y b → K1 y H4) → (∀ H4, F i = none → Same H2 H4 → K2 H4) →
      g x (wipe σ vs) H2 fun σ2 H3 => wipe σ2 vs = wipe σ vs ∧ tt σ2 H3 fun b H4 => if b = true then te σ2 H4 K1 else K2 H4)
    (h : ∀ D H' ys, H D = none → Same H H' → H' D = some (.lst ys) → Paired (Rel H') ys ((List.range n).filterMap F) → Q (.ref D) H') : LC J g tt te vs σ Q H := by
  intro D hD
  refine lc_it w (fun i H1 => Same H H1 ∧ ∃ ys, H1 D = some (.lst ys) ∧ ys.length ≤ i ∧ Paired (Rel H1) ys ((List.range i).filterMap F)) ⟨?_, [], upd_same, Nat.le_refl _, .nil⟩ (fun i H1 _ q => hG H1 q.1) ?_ ?_
  · intro a o e
    rw [upd_ne (ne_of_none e hD)]
    exact e
  · rintro i x H1 H2 hi ⟨r, ys, hd, hy, hp⟩ hyl
    have r12 := hY i H1 x H2 hyl
    refine hs i x H1 H2 _ _ hi r hyl ?_ ?_
    · intro y H4 b hb r4 rel
      have hd4 : H4 D = some (.lst ys) := r4 _ _ (r12 _ _ hd)
      refine ⟨ys, hd4, sz2 (by omega), ?_, ys ++ [y], upd_same, by simp; omega, ?_⟩
      · intro a o e
        rw [upd_ne (ne_of_none e hD)]
        exact r4 _ _ (r12 _ _ (r _ _ e))
      · rw [range_snoc, hb]
        exact Paired.snoc (paired_nl st ((Nl.same (r12.trans r4)).trans (Nl.lst hd4)) hp) (st _ _ _ _ (Nl.lst hd4) rel)
    · intro H4 hb r4
      refine ⟨r.trans (r12.trans r4), ys, r4 _ _ (r12 _ _ hd), by omega, ?_⟩
      rw [range_snoc, hb]
      show Paired _ _ (_ ++ [])
      rw [List.append_nil]
      exact paired_nl st (Nl.same (r12.trans r4)) hp
  · rintro H1 ⟨r, ys, hd, hy, hp⟩
    exact h D H1 ys hD r hd hp
/-- a drawn row: the list and its pairs are new -/
structure RowIn (H : Hp) (l : Addr) (xs : List V) (row : Row) : Prop where
  at_ : H l = some (.lst xs)
  prs : PrsL H xs row
/-- two lists of texts compared -/
theorem eqv_strs : ∀ a : List Str, PyData.eqvAll (a.map PyData.str) (a.map PyData.str) = true
  | [] => by first | rfl | simp [PyData.eqvAll]
  | x :: a => by
    have ih := eqv_strs a
    simp [PyData.eqvAll, PyData.eqv, ih]
theorem s_neStrs {K : PySem.W.Frag} {H : Hp} {Q : VK} {a b : Addr} {zs : List Str} (e : H a = some (.lst (zs.map V.str))) (f : H b = some (.lst (zs.map V.str))) (ha : ∀ z ∈ zs, asc z) (h : Q (.bl false) H) : rNeD K (.ref a) (.ref b) H Q := by
  refine ⟨_, _, .lst (SqL.of e) dp_strs, .lst (SqL.of f) dp_strs, shaped_strs ha, shaped_strs ha, ?_⟩
  have : PyData.eqv (.list (zs.map PyData.str)) (.list (zs.map PyData.str)) = true := by simp [PyData.eqv, eqv_strs]
  rw [this]
  exact h
theorem s_eqStrs {K : PySem.W.Frag} {H : Hp} {Q : VK} {a b : Addr} {zs : List Str} (e : H a = some (.lst (zs.map V.str))) (f : H b = some (.lst (zs.map V.str))) (ha : ∀ z ∈ zs, asc z) (h : Q (.bl true) H) : rEqD K (.ref a) (.ref b) H Q := by
  refine ⟨_, _, .lst (SqL.of e) dp_strs, .lst (SqL.of f) dp_strs, shaped_strs ha, shaped_strs ha, ?_⟩
  have : PyData.eqv (.list (zs.map PyData.str)) (.list (zs.map PyData.str)) = true := by simp [PyData.eqv, eqv_strs]
  rw [this]
  exact h
end G


namespace G
open PySem PySem.Spec PyProof.Rows L2 TL
/-- a claim about a value, what it holds, and tuples -/
structure FtT (P : (Addr → Prop) → V → Hp → Prop) : Prop where
  anti : ∀ A A' v H, (∀ a, A a → A' a) → P A' v H → P A v H
  stab : ∀ A v H1 H2, Ag A H1 H2 → Tp H1 H2 → P A v H1 → P A v H2
theorem lcDT {σ : L2.St} {H : Hp} {Q : VK} {g : TG} {te : TE} {vs : List Nat} {p : Addr} {P : (Addr → Prop) → V → Hp → Prop} (fp : FtT P) {J : It} {xs : List V} {G : Hp → Prop} (w : Walk J xs.length G (YAt xs)) (d : Dr p H) (hG : ∀ H1, Rx [p] H H1 → G H1) (hl : xs.length ≤ 1000000)
    (hs : ∀ x H1 (Q1 : VK), x ∈ xs → Rx [p] H H1 → Dr p H1 → (∀ v H2, Rx [p] H1 H2 → Dr p H2 → P (Al H1) v H2 → Q1 v H2) → g x (wipe σ vs) H1 fun σ2 H2 => wipe σ2 vs = wipe σ vs ∧ te σ2 H2 Q1)
    (gm : ∀ x σ1 H1 (P P' : L2.St → Hp → Prop), (∀ a b, P a b → P' a b) → g x σ1 H1 P → g x σ1 H1 P')
    (h : ∀ D H' ys, H D = none → Rx [p] H H' → Dr p H' → H' D = some (.lst ys) → ys.length = xs.length → (∀ y ∈ ys, P (fun a => Al H a ∨ a = D) y H') → Q (.ref D) H') : LC J g tYes te vs σ Q H := by
  intro D hD
  obtain ⟨s0, d0, c0, hp, _⟩ := id d
  have npD : D ≠ p := (ne_of_none hp hD).symm
  have nD : D ∉ [p] := by simpa using npD
  have pA : ∀ a ∈ [p], (Al H a ∨ a = D) := by
    intro a ha
    obtain rfl : a = p := by simpa using ha
    exact .inl (by unfold Al; rw [hp]; exact Option.some_ne_none _)
  have dA : ∀ {H1 : Hp} {o : HO}, Ag (fun a => Al H a ∨ a = D) H1 (upd H1 D o) := by
    intro H1 o a u n e
    rw [upd_ne (fun z => n (.inr z))]
    exact e
  have upR : ∀ {H1 : Hp} {o : HO}, Rx [p] H H1 → Rx [p] H (upd H1 D o) := fun r => r.own hD
  have upD : ∀ {H1 : Hp} {o : HO}, Dr p H1 → Dr p (upd H1 D o) := by
    rintro H1 o ⟨s, dd, c, e, r⟩
    exact ⟨s, dd, c, by rw [upd_ne npD.symm]; exact e, r⟩
  refine lc_it w (fun i H1 => Rx [p] H H1 ∧ Dr p H1 ∧ ∃ ys, H1 D = some (.lst ys) ∧ ys.length = i ∧ ∀ y ∈ ys, P (fun a => Al H a ∨ a = D) y H1) ⟨upR (Rx.refl _), upD d, [], upd_same, rfl, fun y hy => (List.not_mem_nil hy).elim⟩ (fun i H1 _ q => hG H1 q.1) ?_ ?_
  · rintro i x H1 H2 hi ⟨r, d1, ys, hd, hy, ha⟩ ⟨rfl, hx⟩
    refine gm _ _ _ _ _ ?_ (hs x H2 (fun y H4 => ∃ acc, H4 D = some (.lst acc) ∧ acc.length < sizeLine ∧ (Rx [p] H (upd H4 D (.lst (acc ++ [y]))) ∧ Dr p (upd H4 D (.lst (acc ++ [y]))) ∧
      ∃ ys, (upd H4 D (.lst (acc ++ [y]))) D = some (.lst ys) ∧ ys.length = i + 1 ∧ ∀ z ∈ ys, P (fun a => Al H a ∨ a = D) z (upd H4 D (.lst (acc ++ [y]))))) (List.mem_of_getElem? hx) r d1 ?_)
    · rintro σ2 H3 ⟨e, q⟩
      refine ⟨e, s_yes (iteT ?_)⟩
      exact q
    · intro v H4 r4 d4 pv
      refine ⟨ys, r4 _ _ nD hd, sz2 (by omega), upR (r.trans r4), upD d4, ys ++ [v], upd_same, by simp [hy], ?_⟩
      intro z hz
      refine fp.stab _ _ H4 _ dA (Tp.lst (r4 _ _ nD hd)) ?_
      rcases List.mem_append.mp hz with hz | hz
      · exact fp.stab _ _ H2 _ (r4.ag pA) (tp_dr d1 r4) (ha z hz)
      · obtain rfl : z = v := by simpa using hz
        refine fp.anti _ _ _ _ ?_ pv
        rintro a (q | rfl)
        · by_cases hap : a = p
          · subst hap
            obtain ⟨_, _, _, e, _⟩ := d1
            unfold Al
            rw [e]
            exact Option.some_ne_none _
          · unfold Al at q ⊢
            cases e : H a with
            | none => exact (q e).elim
            | some o =>
              rw [r a o (by simpa using hap) e]
              exact Option.some_ne_none _
        · unfold Al
          rw [hd]
          exact Option.some_ne_none _
  · rintro H1 ⟨r, d1, ys, hd, hy, ha⟩
    exact h D H1 ys hD r d1 hd hy ha
/-- a small row -/
structure Rw (zs : List Str) (row : Row) : Prop where
  can : Can row
  sm : ∀ pr ∈ row, pr.2.natAbs ≤ 99
  len : row.length ≤ 20
  sub : ∀ x ∈ keysR row, x ∈ zs
def RowA (zs : List Str) (A : Addr → Prop) (v : V) (H : Hp) : Prop := ∃ l xs row, v = .ref l ∧ ¬ A l ∧ H l = some (.lst xs) ∧ PrsL H xs row ∧ Rw zs row
theorem ftT_row {zs : List Str} : FtT (RowA zs) := by
  constructor
  · rintro A A' v H r ⟨l, xs, row, e, n, h, p, w⟩
    exact ⟨l, xs, row, e, fun a => n (r _ a), h, p, w⟩
  · rintro A v H1 H2 r t ⟨l, xs, row, e, n, h, p, w⟩
    exact ⟨l, xs, row, e, n, r _ _ n h, p.tp t, w⟩
theorem Rw.rb {zs : List Str} {row : Row} (h : Rw zs row) (hs : ∀ z ∈ zs, symS z = true) : RowB row :=
  ⟨by have := h.len; omega, fun p hp => hs _ (h.sub _ (mem_keys hp)), fun p hp => Nat.lt_of_le_of_lt (h.sm p hp) (by decide +kernel)⟩
/-- the text of a small row is short -/
theorem Rw.text {zs : List Str} {row : Row} (h : Rw zs row) (hs : ∀ z ∈ zs, symS z = true) (h5 : row.length ≤ 15) : (textR row).length ≤ 280 := by
  have part : ∀ p ∈ row, (partR p).length ≤ 14 ∧ (tailR p).length ≤ 14 := by
    intro p hp
    have s := hs _ (h.sub _ (mem_keys hp))
    have l1 := (sym_len s).2
    have l2 : (numL p.2.natAbs).length ≤ 2 := numL_len (by decide) (Nat.lt_of_le_of_lt (h.sm p hp) (by decide))
    have lw : (wordR p).length ≤ 11 := by
      rw [len_tl, tl_word]
      rw [len_tl] at l1
      split
      · omega
      · rw [List.length_append, List.length_cons]
        omega
    have h1 : ("-" : Str).length = 1 := by decide +kernel
    have h2 : (" - " : Str).length = 3 := by decide +kernel
    have h3 : (" + " : Str).length = 3 := by decide +kernel
    unfold partR tailR
    constructor <;> split <;> first | (simp only [len_lit]; omega) | omega
  rw [text_line]
  split
  · decide +kernel
  · unfold lineR
    rw [len_join]
    have ht : ∀ l : Row, (∀ p ∈ l, (tailR p).length ≤ 14) → ((l.map tailR).map (·.length)).sum ≤ 14 * l.length := by
      intro l
      induction l with
      | nil => intro _; simp
      | cons a l ih =>
        intro hl
        have := ih fun p hp => hl p (List.mem_cons_of_mem _ hp)
        have h2 := hl a List.mem_cons_self
        simp only [List.map_cons, List.sum_cons, List.length_cons]
        omega
    cases row with
    | nil => simp [wordsR]
    | cons p q =>
      have h0 := (part p List.mem_cons_self).1
      have h1 := ht q fun p' hp' => (part p' (List.mem_cons_of_mem _ hp')).2
      simp only [wordsR, List.map_cons, List.sum_cons, List.length_cons] at h5 ⊢
      omega
end G


namespace G
open PySem PySem.Spec PyProof.Rows L2 TL
/-- no factor above B -/
def Fb (B : Nat) (q : Row) : Prop := ∀ x, (fac q x).natAbs ≤ B
theorem fb_sum {A B : Nat} {r s q : Row} {t : Int} (ns : (keysR s).Nodup) (h1 : Fb A r) (h2 : Fb B s) (c : CanOf (sumR r s t) q) : Fb (A + B * t.natAbs) q := by
  intro x
  rw [c.fc, fac_sum t x s r ns]
  have a := h1 x
  have b := Nat.mul_le_mul_right t.natAbs (h2 x)
  have e : (fac s x * t).natAbs = (fac s x).natAbs * t.natAbs := Int.natAbs_mul _ _
  have f := Int.natAbs_add_le (fac r x) (fac s x * t)
  omega
theorem fb_small {zs : List Str} {q : Row} (h : Rw zs q) : Fb 99 q := by
  intro x
  by_cases hx : x ∈ keysR q
  · obtain ⟨p, hp, rfl⟩ := List.mem_map.mp hx
    rw [fac_mem h.can.nodup hp]
    exact h.sm p hp
  · rw [fac_out hx]
    decide
theorem s_addF {C : Addr} {H : Hp} {Q : VK} {x y : V} {q1 q2 : Row} {t : Int} {A B l1 l2 : Nat} (f1 : FormAt C H x q1) (f2 : FormAt C H y q2) (b1 : Fb A q1) (b2 : Fb B q2) (h1 : q1.length ≤ l1) (h2 : q2.length ≤ l2) (hl1 : l1 ≤ 400) (hl2 : l2 ≤ 400)
    (hb : A + B * t.natAbs < 2 ^ 1900) (k : ∀ v q H', CanOf (sumR q1 q2 t) q → Same H H' → FormAt C H' v q → Fb (A + B * t.natAbs) q → q.length ≤ l1 + l2 → Q v H') : rOwn2 C (spAdd C t) E0 x y H Q := by
  have n2 : (keysR q2).Nodup := by
    obtain ⟨_, _, _, _, _, _, f⟩ := f2
    exact f.can.nodup
  refine s_own2 f1 f2 ⟨x, y, q1, q2, rfl, f1, f2, by omega, by omega, fun z => ?_, fun v q H' c r fa => k v q H' c r fa (fb_sum n2 b1 b2 c) ?_⟩
  · have a := b1 z
    have b := Nat.mul_le_mul_right t.natAbs (b2 z)
    have e : (fac q2 z * t).natAbs = (fac q2 z).natAbs * t.natAbs := Int.natAbs_mul _ _
    have f := Int.natAbs_add_le (fac q1 z) (fac q2 z * t)
    refine Nat.lt_of_le_of_lt (Nat.le_trans f ?_) hb
    rw [e]
    exact Nat.add_le_add a b
  · have := c.len
    have := sum_len t q2 q1
    omega
theorem s_mulF {C : Addr} {H : Hp} {Q : VK} {x : V} {q1 : Row} {t : Int} {B l1 : Nat} (f1 : FormAt C H x q1) (b1 : Fb B q1) (h1 : q1.length ≤ l1) (hl1 : l1 ≤ 400) (ht : t.natAbs < 2 ^ 1900)
    (hb : B * t.natAbs < 2 ^ 1900) (k : ∀ v q H', CanOf (sumR [] q1 t) q → Same H H' → FormAt C H' v q → Fb (B * t.natAbs) q → q.length ≤ l1 → Q v H') : rOwnI C (spMul C) E0 x (.int t) H Q := by
  have n1 : (keysR q1).Nodup := by
    obtain ⟨_, _, _, _, _, _, f⟩ := f1
    exact f.can.nodup
  refine s_ownI f1 ⟨x, t, q1, rfl, f1, by omega, ht, fun z => ?_, fun v q H' c r fa => k v q H' c r fa ?_ ?_⟩
  · have b := Nat.mul_le_mul_right t.natAbs (b1 z)
    have e : (fac q1 z * t).natAbs = (fac q1 z).natAbs * t.natAbs := Int.natAbs_mul _ _
    exact Nat.lt_of_le_of_lt (by rw [e]; exact b) hb
  · have := fb_sum (A := 0) n1 (fun z => by rw [fac_nil]; decide) b1 c
    simpa using this
  · have := c.len
    have := sum_len t q1 []
    simp at this
    omega
theorem s_negF {C : Addr} {H : Hp} {Q : VK} {x : V} {q1 : Row} {B l1 : Nat} (f1 : FormAt C H x q1) (b1 : Fb B q1) (h1 : q1.length ≤ l1) (hl1 : l1 ≤ 400)
    (k : ∀ v q H', CanOf (sumR [] q1 (0 - 1)) q → Same H H' → FormAt C H' v q → Fb B q → q.length ≤ l1 → Q v H') : rOwnU C (spNeg C) E0 x H Q := by
  have n1 : (keysR q1).Nodup := by
    obtain ⟨_, _, _, _, _, _, f⟩ := f1
    exact f.can.nodup
  refine s_ownU f1 ⟨x, q1, rfl, f1, by omega, fun v q H' c r fa => k v q H' c r fa ?_ ?_⟩
  · have := fb_sum (A := 0) n1 (fun z => by rw [fac_nil]; decide) b1 c
    simpa using this
  · have := c.len
    have h3 := sum_len (0 - 1) q1 []
    rw [List.length_nil, Nat.zero_add] at h3
    omega
end G


namespace G
open PySem PySem.Spec PyProof.Rows L2 TL
/-- a form's row by its factors -/
structure IsR (q : Row) (e : Str → Int) : Prop where
  can : Can q
  fc : ∀ x, fac q x = e x
theorem IsR.self {q : Row} (h : Can q) : IsR q (fac q) := ⟨h, fun _ => rfl⟩
theorem IsR.nil : IsR [] (fun _ => 0) := ⟨Can.nil, fac_nil⟩
theorem IsR.sum {r s q : Row} {e f : Str → Int} {t : Int} (c : CanOf (sumR r s t) q) (h1 : IsR r e) (h2 : IsR s f) : IsR q (fun x => e x + f x * t) :=
  ⟨c.can, fun x => by rw [c.fc, fac_sum t x s r h2.can.nodup, h1.fc, h2.fc]⟩
theorem IsR.mul {s q : Row} {f : Str → Int} {t : Int} (c : CanOf (sumR [] s t) q) (h2 : IsR s f) : IsR q (fun x => f x * t) :=
  ⟨c.can, fun x => by rw [c.fc, fac_sum t x s [] h2.can.nodup, fac_nil, h2.fc, Int.zero_add]⟩
theorem IsR.eq {a b : Row} {e f : Str → Int} (h1 : IsR a e) (h2 : IsR b f) (h : ∀ x, e x = f x) : a = b :=
  can_uniq h1.can h2.can fun x => by rw [h1.fc, h2.fc, h x]
/-- lists of rows -/
def RwR (H : Hp) (v : V) (q : Row) : Prop := ∃ l xs, v = .ref l ∧ H l = some (.lst xs) ∧ PrsL H xs q
theorem RwR.same {H H' : Hp} {v : V} {q : Row} (r : Same H H') (h : RwR H v q) : RwR H' v q := by
  obtain ⟨l, xs, e, h, p⟩ := h
  exact ⟨l, xs, e, r _ _ h, p.same r⟩
/-- all lists but p stay -/
theorem RwR.rx {p : Addr} {H H' : Hp} {l : Addr} {q : Row} (d : Dr p H) (n : l ≠ p) (r : Rx [p] H H') (h : RwR H (.ref l) q) : RwR H' (.ref l) q := by
  obtain ⟨l', xs, e, h, pr⟩ := h
  cases e
  exact ⟨l, xs, rfl, r _ _ (by simpa using n) h, pr.tp (tp_dr d r)⟩
theorem paired_same {β : Type} {Rel : Hp → V → β → Prop} (st : ∀ (H H' : Hp) (v : V) (b : β), Same H H' → Rel H v b → Rel H' v b) {H H' : Hp} (t : Same H H') : ∀ {vs : List V} {bs : List β}, Paired (Rel H) vs bs → Paired (Rel H') vs bs
  | _, _, .nil => .nil
  | _, _, .cons h r => .cons (st _ _ _ _ t h) (paired_same st t r)
theorem paired_at {α β : Type} {R : α → β → Prop} : ∀ {vs : List α} {bs : List β} {i : Nat} {v : α}, Paired R vs bs → vs[i]? = some v → ∃ b, bs[i]? = some b ∧ R v b
  | _, _, _, _, .nil, e => by simp at e
  | _, _, 0, _, .cons h _, e => by
    cases e
    exact ⟨_, rfl, h⟩
  | _, _, i + 1, _, .cons _ h, e => by
    obtain ⟨b, h1, h2⟩ := paired_at (i := i) h (by simpa using e)
    exact ⟨b, by simpa using h1, h2⟩
theorem paired_len {α β : Type} {R : α → β → Prop} : ∀ {vs : List α} {bs : List β}, Paired R vs bs → vs.length = bs.length
  | _, _, .nil => rfl
  | _, _, .cons _ r => by rw [List.length_cons, List.length_cons, paired_len r]
/-! values of forms are short -/
theorem sum_abs {α : Type} (f : α → Int) (B : Nat) : ∀ l : List α, (∀ x ∈ l, (f x).natAbs ≤ B) → ((l.map f).sum).natAbs ≤ l.length * B
  | [], _ => by simp
  | x :: l, h => by
    have h1 := h x List.mem_cons_self
    have h2 := sum_abs f B l fun y hy => h y (List.mem_cons_of_mem _ hy)
    rw [List.map_cons, List.sum_cons, List.length_cons, Nat.succ_mul]
    have := Int.natAbs_add_le (f x) ((l.map f).sum)
    omega
theorem eval_abs {q r : Row} {A B : Nat} (c : Can q) (h1 : Fb A q) (h2 : ∀ x, (fac r x).natAbs ≤ B) : (evalR q r).natAbs ≤ q.length * (A * B) := by
  refine sum_abs _ _ _ fun p hp => ?_
  rw [Int.natAbs_mul]
  have := h1 p.1
  rw [fac_mem c.nodup hp] at this
  exact Nat.mul_le_mul this (h2 _)
theorem dp_ints {K : PySem.W.Frag} {H : Hp} : ∀ {ns : List Int}, DpAll K H (ns.map V.int) (ns.map PyData.int)
  | [] => .nil
  | i :: ns => .cons (.int i) dp_ints
theorem showable_ints : ∀ {ns : List Int}, (∀ i ∈ ns, bd i) → PyData.showableAll (ns.map PyData.int) = true
  | [], _ => by simp [PyData.showableAll]
  | i :: ns, h => by
    have h1 := bd_log (h i List.mem_cons_self)
    have h2 := showable_ints (ns := ns) fun j hj => h j (List.mem_cons_of_mem _ hj)
    simp only [List.map_cons, PyData.showableAll, PyData.showable, h2, Bool.and_true]
    exact decide_eq_true h1
theorem noDict_ints : ∀ {ns : List Int}, PyData.hasDictAll (ns.map PyData.int) = false
  | [] => by simp [PyData.hasDictAll]
  | i :: ns => by simp only [List.map_cons, PyData.hasDictAll, PyData.hasDict, noDict_ints (ns := ns), Bool.or_false]
theorem depth_ints : ∀ {ns : List Int}, PyData.depthAll (ns.map PyData.int) = 0
  | [] => by simp [PyData.depthAll]
  | i :: ns => by simp only [List.map_cons, PyData.depthAll, PyData.depth, depth_ints (ns := ns), Nat.max_self]
theorem len_int {i : Int} (h : bd i) : (Str.ofString (toString i)).length ≤ 574 := by
  have pos : ∀ n : Nat, n < 2 ^ 1900 → (Str.ofString (toString ((n : Nat) : Int))).length ≤ 573 := fun n hn => by
    rw [len_tl, tl_num]
    exact len_num hn
  by_cases hi : i < 0
  · have e := len_text_negI hi
    have e1 : 0 - i = ((i.natAbs : Nat) : Int) := by omega
    rw [e1] at e
    have := pos _ h
    omega
  · have e : i = ((i.natAbs : Nat) : Int) := by omega
    have := pos _ h
    rw [← e] at this
    omega
theorem shown_ints : ∀ {ns : List Int}, (∀ i ∈ ns, bd i) → ((PyData.shownAll (ns.map PyData.int)).map (·.length)).sum ≤ 574 * ns.length
  | [], _ => by simp [PyData.shownAll]
  | i :: ns, h => by
    have h1 := len_int (h i List.mem_cons_self)
    have h2 := shown_ints (ns := ns) fun j hj => h j (List.mem_cons_of_mem _ hj)
    simp only [List.map_cons, PyData.shownAll, PyData.shown, List.sum_cons, List.length_cons]
    have h3 : (Str.ofString (toString i)).length ≤ 574 := h1
    omega
def intsD (ns : List Int) : PyData := .list (ns.map PyData.int)
theorem s_reprInts {K : PySem.W.Frag} {H : Hp} {Q : VK} {a : Addr} {ns : List Int} (c : H a = some (.lst (ns.map V.int))) (hb : ∀ i ∈ ns, bd i) (hl : ns.length ≤ 1000) (h : Q (.str (intsD ns).shown) H) : rRepr K [.ref a] H Q := by
  refine ⟨a, intsD ns, rfl, .lst (SqL.of c) dp_ints, ?_, ?_, ?_, sz1 ?_, h⟩
  · unfold intsD
    rw [PyData.showable]
    exact showable_ints hb
  · unfold intsD
    rw [PyData.hasDict]
    exact noDict_ints
  · unfold intsD
    rw [PyData.depth, depth_ints]
    decide
  · unfold intsD
    rw [PyData.shown]
    have h1 := listText_len_le (PyData.shownAll (ns.map PyData.int))
    have h2 := shown_ints hb
    have h3 := PyData.shownAll_length (ns.map PyData.int)
    rw [List.length_map] at h3
    omega
theorem asc_line {q : Row} (s : ∀ p ∈ q, symS p.1 = true) : asc (lineR q) := by
  intro c hc
  have hc : c ∈ tl (lineR q) := hc
  rw [tl_line] at hc
  obtain ⟨l, hl, hcl⟩ := List.mem_flatten.mp hc
  obtain ⟨z, hz, rfl⟩ := List.mem_map.mp hl
  exact asc_words s z hz c hcl
theorem asc_text {q : Row} (s : ∀ p ∈ q, symS p.1 = true) : asc (textR q) := by
  rw [text_line]
  split
  · decide +kernel
  · exact asc_line s
theorem text_len {q : Row} (b : RowB q) (h : q.length ≤ 100) : (textR q).length ≤ 60000 := by
  rw [text_line]
  split
  · decide +kernel
  · have := line_len b
    omega
end G


namespace G
open PySem PySem.Spec PyProof.Rows L2 TL
theorem Same.own {H H1 : Hp} {p : Addr} {o : HO} (r : Same H H1) (h : H p = none) : Same H (upd H1 p o) := fun a u e => by
  rw [upd_ne (ne_of_none e h)]
  exact r a u e
theorem Fb.mono {A B : Nat} {q : Row} (h : Fb A q) (l : A ≤ B) : Fb B q := fun x => Nat.le_trans (h x) l
/-- a list changed elsewhere -/
theorem RwR.upd {H : Hp} {l D : Addr} {q : Row} {ys : List V} {o : HO} (n : l ≠ D) (e : H D = some (.lst ys)) (h : RwR H (.ref l) q) : RwR (upd H D o) (.ref l) q := by
  obtain ⟨l', xs, e', h, pr⟩ := h
  cases e'
  exact ⟨l, xs, rfl, by rw [upd_ne n]; exact h, pr.tp (Tp.lst e)⟩
theorem RwR.nil {H : Hp} {l : Addr} (e : H l = some (.lst [])) : RwR H (.ref l) [] := ⟨l, [], rfl, e, .nil⟩
theorem s_added {K : PySem.W.Frag} {H : Hp} {Q : VK} {a b : Addr} {t : Int} {r s : Row} {A B l1 l2 : Nat} (h1 : RwR H (.ref a) r) (h2 : RwR H (.ref b) s) (c1 : Can r) (c2 : Can s) (b1 : Fb A r) (b2 : Fb B s) (hl1 : r.length ≤ l1) (hl2 : s.length ≤ l2) (e1 : l1 ≤ 400) (e2 : l2 ≤ 400) (hB : B < 2 ^ 1900) (ht : t.natAbs < 2 ^ 1900)
    (k : ∀ l q H', H l = none → Same H H' → RwR H' (.ref l) q → CanOf (sumR r s t) q → Fb (A + B * t.natAbs) q → q.length ≤ l1 + l2 → Q (.ref l) H') : spAddedL K [.ref a, .ref b, .int t] H Q E0 := by
  obtain ⟨a', xs, e, ha, pa⟩ := h1
  cases e
  obtain ⟨b', ys, e, hb, pb⟩ := h2
  cases e
  refine ⟨a, b, t, xs, ys, r, s, rfl, SqL.of ha, pa, SqL.of hb, pb, c1.nodup, c2.nodup, by omega, by omega, fun p hp => ?_, ht, fun l zs q H' hl sm e pr c => k l q H' hl sm ⟨l, zs, rfl, e, pr⟩ c (fb_sum c2.nodup b1 b2 c) ?_⟩
  · have := b2 p.1
    rw [fac_mem c2.nodup hp] at this
    exact Nat.lt_of_le_of_lt this hB
  · have := c.len
    have := sum_len t s r
    omega
theorem FormAt.can {C : Addr} {H : Hp} {v : V} {q : Row} (h : FormAt C H v q) : Can q := by
  obtain ⟨_, _, _, _, _, _, f⟩ := h
  exact f.can
theorem FormAt.rb {C : Addr} {H : Hp} {v : V} {q : Row} (h : FormAt C H v q) : RowB q := by
  obtain ⟨_, _, _, _, _, _, f⟩ := h
  exact f.rb
theorem zero_row {q p : Row} (c : Can q) (h : CanOf (sumR q q (0 - 1)) p) : p = [] :=
  IsR.eq (IsR.sum h (IsR.self c) (IsR.self c)) IsR.nil fun x => by
    show fac q x + fac q x * (0 - 1) = 0
    omega
theorem twice_row {q y p : Row} (c : Can q) (h : CanOf (sumR [] q (0 - 1)) y) (h' : CanOf (sumR [] y (0 - 1)) p) : p = q :=
  IsR.eq (IsR.mul h' (IsR.mul h (IsR.self c))) (IsR.self c) fun x => by
    show fac q x * (0 - 1) * (0 - 1) = fac q x
    omega
theorem double_row {q y z e : Row} {t : Int} (c : Can q) (h : CanOf (sumR [] q t) y) (h' : CanOf (sumR [] y 2) z) (h'' : CanOf (sumR [] q (2 * t)) e) : e = z :=
  IsR.eq (IsR.mul h'' (IsR.self c)) (IsR.mul h' (IsR.mul h (IsR.self c))) fun x => by
    show fac q x * (2 * t) = fac q x * t * 2
    rw [Int.mul_comm 2 t, Int.mul_assoc]
theorem form_same {C : Addr} : ∀ (H H' : Hp) (v : V) (q : Row), Same H H' → FormAt C H v q → FormAt C H' v q := fun _ _ _ _ r h => h.same r
theorem rw_same : ∀ (H H' : Hp) (v : V) (q : Row), Same H H' → RwR H v q → RwR H' v q := fun _ _ _ _ r h => h.same r
end G


namespace G
open PySem PySem.Spec PyProof.Rows L2 TL
/-- a row's symbols -/
def Sub (zs : List Str) (q : Row) : Prop := ∀ x ∈ keysR q, x ∈ zs
theorem Sub.nil {zs : List Str} : Sub zs [] := fun _ h => (List.not_mem_nil h).elim
theorem Sub.sum {zs : List Str} {r s q : Row} {t : Int} (h1 : Sub zs r) (h2 : Sub zs s) (c : CanOf (sumR r s t) q) : Sub zs q := by
  intro x hx
  obtain ⟨p, hp, rfl⟩ := List.mem_map.mp hx
  exact sum_keys t (fun x => x ∈ zs) s r h1 h2 p.1 (c.mem hp).1
theorem asc_sorted {q : Row} (nq : (keysR q).Nodup) (s : SrtO.Srtd SrtG.lxB q) : (keysR q).Pairwise fun a b => a.cps.toList < b.cps.toList := by
  have : q.Pairwise fun a b => a.1.cps.toList < b.1.cps.toList := by
    have s' : q.Pairwise fun a b => SrtG.lxB b a = false := s
    have nq' : q.Pairwise fun a b => a.1 ≠ b.1 := List.pairwise_map.mp nq
    refine List.Pairwise.imp ?_ (List.Pairwise.and s' nq')
    rintro a b ⟨h1, h2⟩
    have h1 := SrtG.lxB_no.mp h1
    refine Classical.byContradiction fun h3 => ?_
    exact h2 (SrtG.cps_inj (SrtG.lst_tri h3 fun z => h1 (.inl z)))
  exact List.pairwise_map.mpr this
theorem eval_perm {q r r' : Row} (p : r'.Perm r) (nd : (keysR r').Nodup) : evalR q r' = evalR q r := by
  unfold evalR
  congr 1
  refine List.map_congr_left fun x _ => ?_
  rw [fac_perm p nd]
theorem fac_abs {r : Row} {B : Nat} (nd : (keysR r).Nodup) (h : ∀ p ∈ r, p.2.natAbs ≤ B) (x : Str) : (fac r x).natAbs ≤ B := by
  by_cases hx : x ∈ keysR r
  · obtain ⟨p, hp, rfl⟩ := List.mem_map.mp hx
    rw [fac_mem nd hp]
    exact h p hp
  · rw [fac_out hx]
    exact Nat.zero_le _
theorem paired_all {α β : Type} {R : α → β → Prop} {P : β → Prop} (h : ∀ a b, R a b → P b) : ∀ {vs : List α} {bs : List β}, Paired R vs bs → ∀ b ∈ bs, P b
  | _, _, .nil, b, hb => (List.not_mem_nil hb).elim
  | _, _, .cons h0 r, b, hb => by
    rcases List.mem_cons.mp hb with rfl | hb
    · exact h _ _ h0
    · exact paired_all h r b hb
/-- the drawing list is no list of pairs -/
theorem RwR.ne {p l : Addr} {H : Hp} {q : Row} (d : Dr p H) (h : RwR H (.ref l) q) : l ≠ p := by
  rintro rfl
  obtain ⟨l', xs, e, h, pr⟩ := h
  cases e
  obtain ⟨s, dd, c, e, _⟩ := d
  rw [e] at h
  cases h
  cases pr
theorem RwR.dr {p : Addr} {H H' : Hp} {v : V} {q : Row} (d : Dr p H) (r : Rx [p] H H') (h : RwR H v q) : RwR H' v q := by
  obtain ⟨l, xs, rfl, h⟩ := id h
  exact RwR.rx d (RwR.ne d (by assumption)) r (by assumption)
theorem paired_dr {β : Type} {Rel : Hp → V → β → Prop} {p : Addr} {H H' : Hp} (d : Dr p H) (r : Rx [p] H H') (st : ∀ (v : V) (b : β), Rel H v b → Rel H' v b) : ∀ {vs : List V} {bs : List β}, Paired (Rel H) vs bs → Paired (Rel H') vs bs
  | _, _, .nil => .nil
  | _, _, .cons h r' => .cons (st _ _ h) (paired_dr d r st r')
end G


namespace G
open PySem PySem.Spec PyProof.Rows L2 TL
/-! slots written out -/
section
variable {K : PySem.W.Frag} {σ σ' : L2.St} {H : Hp} {x y v : V} {i j n : Nat} {P : L2.St → Hp → Prop}
theorem s_gnE (e : σ.set n (some v) = σ') (h : P σ' H) : gName n v σ H P := by
  subst e
  exact h
theorem s_g2E {t : Addr} (c : SqT K H t [x, y]) (e : (σ.set i (some x)).set j (some y) = σ') (h : P σ' H) : gTup K 2 (gCons (gName i) (gCons (gName j) gNil)) (.ref t) σ H P := by
  subst e
  exact s_g2 c h
theorem s_g3E {t : Addr} {k : Nat} {z : V} (c : SqT K H t [x, y, z]) (e : ((σ.set i (some x)).set j (some y)).set k (some z) = σ') (h : P σ' H) : gTup K 3 (gCons (gName i) (gCons (gName j) (gCons (gName k) gNil))) (.ref t) σ H P := by
  subst e
  exact s_g3 c h
theorem s_u3E {t : Addr} {k : Nat} {z : V} (c : SqL K H t [x, y, z]) (e : ((σ.set i (some x)).set j (some y)).set k (some z) = σ') (h : P σ' H) : gUnl K 3 (gCons (gName i) (gCons (gName j) (gCons (gName k) gNil))) (.ref t) σ H P := by
  subst e
  exact s_u3 c h
theorem s_st {t : TS} {D : Ends} (e : σ = σ') (h : t D σ' H) : t D σ H := by
  subst e
  exact h
end
theorem kit_self {K : PySem.W.Frag} {C : Addr} : PySem.W.kitOne K (.ref C) (.ref C) = some true := by
  unfold PySem.W.kitOne
  rw [if_pos (beq_self_eq_true _)]
end G


namespace G
open PySem PySem.Spec PyProof.Rows L2 StX ClX
/-! ### own == and != -/
section
variable {prog : Program} {w : World} {A : Around} {E : Value → Shared → Prop} {s : Shared} {K : PySem.W.Frag} {x C L f : Addr} {h₀ : Heap} {m : Str → Option Value} {ox : Obj} {od : Option Obj} {b tb : Value}
/-- object.__ne__ by an own __eq__ -/
theorem entry_ne {Q : Fin → Shared → Prop} (hu : A.units < cLine) (X : K.In s.heap) (I : PySem.W.InstAt s.heap x ox C od) (hs : PySem.W.findIn K (.ref C) "__eq__" = some (some (.ref f))) (hf : PySem.W.isFn K (.ref f) = true)
    (h : wpAny (model prog w) A (call (.ref f) [.ref x, b]) (fun v s' => ∃ k, v = .bool k ∧ Q (.done (.ret (.bool (!k)))) s') E s) : wpAny (model prog w) A (Builtin.«object.__ne__» ⟨[.ref x, b], []⟩) Q E s := by
  unfold Builtin.«object.__ne__»
  repeat (first
    | with_reducible refine wpAny_cRoomFor hu ?_
    | (refine wpAny_bind (m := callSpecialIfBound? (.ref x) (Str.ofString "__eq__") [b])
        (PySem.W.ifBound_K X I hs hf (wpAny_mono h (fun r s' hr => by
          obtain ⟨b, rfl, hq⟩ := hr
          repeat (first | exact hq | exact wpAny_pure hq | exact wpAny_truthy_bool hq | (refine wpAny_bind (m := truthy (.bool _)) (wpAny_truthy_bool ?_)) | wp_step)) fun _ _ e => e)))
    | wp_step)
theorem ifBound_objNe {M : Model} {args : List Value} {Q : Option Value → Shared → Prop} (X : K.In s.heap) (I : PySem.W.InstAt s.heap x ox C od) (hs : PySem.W.findIn K (.ref C) "__ne__" = some (some (.builtin "object.__ne__")))
    (h : wpAny M A (call (.builtin "object.__ne__") (.ref x :: args)) (fun v => Q (some v)) E s) : wpAny M A (callSpecialIfBound? (.ref x) "__ne__" args) Q E s := by
  simp only [callSpecialIfBound?, bindSpecialIfBound?]
  refine wpAny_holding (wpAny_bind (wpAny_bind (wpAny_bind (I.type.here ((PySem.W.looks_findIn X hs).here ?_)))))
  refine wpAny_bind (wpAny_askSetting (wpAny_ite ?_))
  have fin : wpAny M A (call (.builtin "object.__ne__") ([.ref x] ++ args) >>= fun v => pure (some v)) Q E s := wpAny_bind (wpAny_mono h (fun v s' h' => wpAny_pure h') fun _ _ h' => h')
  split
  · exact wpAny_bind (wpAny_of_eq (F.cmp_object.ne.bind _) (wpAny_pure (by exact fin)))
  · exact wpAny_tryCatch (wpAny_bind (wpAny_of_eq (F.cmp_object.ne.bind _) (wpAny_pure (by exact fin))))
theorem ne_K {Q : Value → Shared → Prop} (hu : A.units + 1 < cLine) (F : Fr h₀ L s.heap m) (X₀ : K.In h₀) (I : PySem.W.InstAt s.heap x ox C od) (hb : PySem.W.Looks (model prog w) s.heap (typeOf b) tb) (hn : PySem.W.notFirst K C tb = true)
    (hne : PySem.W.findIn K (.ref C) "__ne__" = some (some (.builtin "object.__ne__"))) (hs : PySem.W.findIn K (.ref C) "__eq__" = some (some (.ref f))) (hf : PySem.W.isFn K (.ref f) = true) (hm : PySem.W.mroIn K C (.type "object") = some true)
    (h : wpAny (model prog w) A.in1 (call (.ref f) [.ref x, b]) (fun v s' => ∃ k, v = .bool k ∧ Q (.bool (!k)) s') E s) : wpAny (model prog w) A (richCompare .NotEq (.ref x) b) Q E s := by
  have X := X₀.keeps F.keep
  have one : wpAny (model prog w) A (tryCompare (.ref x) (cmpInfo .NotEq).2.1 b) (fun r s' => ∃ v, r = some v ∧ Q v s') E s := by
    rw [show (cmpInfo CmpOp.NotEq).2.1 = Str.ofString "__ne__" from by rw [cmpInfo_NotEq]]
    unfold tryCompare
    refine wpAny_bind (ifBound_objNe X I hne (wpAny_call (codeAny_call_builtin PySem.F.cmp_object.ne.plain PySem.F.cmpEntry_ne (PySem.W.check_slot PySem.F.cmpKind_ne PySem.F.cmpSplit_ne (I.type.andThen (PySem.W.looks_mroIn X hm)) (PySem.F.cmpArgs_ne _ _)
      (entry_ne (A := A.in1) hu X I hs hf (wpAny_mono h (fun v s' hv => ?_) fun _ _ e => e))))))
    obtain ⟨k, rfl, hq⟩ := hv
    first | exact ⟨k, rfl, _, rfl, hq⟩ | exact ⟨k, rfl, wpAny_pure ⟨_, rfl, hq⟩⟩ | exact ⟨k, rfl, wpAny_pure (wpAny_pure ⟨_, rfl, hq⟩)⟩
  unfold richCompare
  simp only [oneThing_ref]
  refine wpAny_holding (wpAny_bind (wpAny_cRoomFor (Nat.lt_of_succ_lt hu) ?_))
  refine wpAny_bind (I.type.here (wpAny_bind (hb.here ?_)))
  split
  · rename_i q
    have e : PySem.W.subIn K tb (.ref C) = some false := by
      rcases Bool.or_eq_true_iff.mp hn with e | e
      · rw [beq_iff_eq.mp e] at q; simp at q
      · exact beq_iff_eq.mp e
    refine wpAny_bind ((PySem.W.looks_subIn X e).here ?_)
    simp only [Bool.false_eq_true, if_false]
    refine wpAny_bind (wpAny_mono one (fun r s' z => ?_) fun _ _ e => e)
    obtain ⟨v, rfl, hq⟩ := z
    exact wpAny_pure hq
  · refine wpAny_bind (wpAny_pure ?_)
    simp only [Bool.false_eq_true, if_false]
    refine wpAny_bind (wpAny_mono one (fun r s' z => ?_) fun _ _ e => e)
    obtain ⟨v, rfl, hq⟩ := z
    exact wpAny_pure hq
end
theorem con_no {C : Addr} : ∀ l : List String, (l.map Value.type).contains (.ref C) = false
  | [] => rfl
  | a :: l => by
    rw [List.map_cons, List.contains_cons, con_no l]
    rfl
theorem sub_no {K : PySem.W.Frag} {C : Addr} {T : String} {l : List String} (e : fastBuiltinMro T = some (l.map Value.type)) : PySem.W.subIn K (.type T) (.ref C) = some false := by
  show (fastBuiltinMro T).map (·.contains (.ref C)) = some false
  rw [e]
  show some _ = some false
  congr 1
  exact con_no l
theorem sub_str {K : PySem.W.Frag} {C : Addr} : PySem.W.subIn K (.type "str") (.ref C) = some false := sub_no (l := ["str", "object"]) (by decide +kernel)
theorem sub_int {K : PySem.W.Frag} {C : Addr} : PySem.W.subIn K (.type "int") (.ref C) = some false := sub_no (l := ["int", "object"]) (by decide +kernel)
end G


namespace G
open PySem PySem.Spec PyProof.Rows L2 StX ClX
/-- what stands on the right of an own == -/
inductive TyE (C : Addr) (H : Hp) : V → Prop where
  | own {b dy : Addr} {gs : List (Str × V)} (e : H b = some (.ins C dy gs)) : TyE C H (.ref b)
  | str (z : Str) : TyE C H (.str z)
  | int (i : Int) : TyE C H (.int i)
section
variable {X : Cx} {CX : CXT} {k : Nat} {f C : Addr} {fd : FuncData} {ps ks : List Str} {sp : Sp} {E : XK}
theorem TyE.at {pins : List (Addr × Obj)} {σ : L2.St} {H : Hp} {s : Shared} {y : V} {u : Value} (I : Inv X pins σ H s) (t : TyE C H y) (r : RelV y u) : ∃ tb, PySem.W.Looks (model X.prog X.w) s.heap (typeOf u) tb ∧ PySem.W.notFirst X.K C tb = true := by
  cases t with
  | own e =>
    cases r
    obtain ⟨oy, oe, J2, _⟩ := insC_at I (.inr ⟨_, _, e⟩)
    exact ⟨.ref C, J2.type, by simp [PySem.W.notFirst]⟩
  | str z =>
    obtain ⟨t, rfl⟩ := r
    exact ⟨.type "str", PySem.W.Looks.of_pure rfl, by unfold PySem.W.notFirst; rw [sub_str]; rfl⟩
  | int z =>
    obtain ⟨t, rfl⟩ := r
    exact ⟨.type "int", PySem.W.Looks.of_pure rfl, by unfold PySem.W.notFirst; rw [sub_int]; rfl⟩
def rOwnEq (C : Addr) (sp : Sp) (E : XK) : R2 := fun x y H Q => ∃ a dx fs, x = .ref a ∧ H a = some (.ins C dx fs) ∧ TyE C H y ∧ sp [x, y] H Q E
theorem op_ownEq (at_ : PySem.W.findIn X.K (.ref C) "__eq__" = some (some (.ref f))) (fn : PySem.W.isFn X.K (.ref f) = true) (F : Fg X.prog X.w X.K X.mg X.base CX k f fd ps sp) (hr : Room k X.A) (hgd : Gd X.A) (hb : Binds X.K fd ps []) (hx : Passes CX X E) : OpR X (compareOp .Eq) (rOwnEq C sp E) := by
  intro pins s σ H x y v u Q I rx ry h
  obtain ⟨a, dx, fs, rfl, ha, ty, hq⟩ := h
  cases rx
  obtain ⟨ox, od, J, _⟩ := insC_at I (.inr ⟨dx, fs, ha⟩)
  obtain ⟨m, Fr⟩ := I.fr
  obtain ⟨tb, lk, nf⟩ := ty.at I ry
  refine PySem.W.cmp_ofEq (PySem.W.cmp_K (op := .Eq) (tb := tb) hr.units0 Fr I.ok.mod.kin J lk nf at_ fn ?_)
  refine thn (runG (us := [.ref a, u]) (vs' := [.ref a, y]) (us' := [.ref a, u]) F hr hgd hx I (fun hl => ?_) (.cons rfl (.cons ry .nil)) hq) fun r s' q => RelV.back q
  have := hb s [.ref a, u] I.kIn (by simpa using hl)
  simpa using this
def rOwnNe (C : Addr) (sp : Sp) (E : XK) : R2 := fun x y H Q => ∃ a dx fs, x = .ref a ∧ H a = some (.ins C dx fs) ∧ TyE C H y ∧ sp [x, y] H (fun v H' => ∃ b, v = .bl b ∧ Q (.bl (!b)) H') E
theorem op_ownNe (hne : PySem.W.findIn X.K (.ref C) "__ne__" = some (some (.builtin "object.__ne__"))) (hm : PySem.W.mroIn X.K C (.type "object") = some true) (at_ : PySem.W.findIn X.K (.ref C) "__eq__" = some (some (.ref f))) (fn : PySem.W.isFn X.K (.ref f) = true) (F : Fg X.prog X.w X.K X.mg X.base CX k f fd ps sp) (hr : Room (k + 1) X.A) (hgd : Gd X.A) (hb : Binds X.K fd ps []) (hx : Passes CX X E) : OpR X (compareOp .NotEq) (rOwnNe C sp E) := by
  intro pins s σ H x y v u Q I rx ry h
  obtain ⟨a, dx, fs, rfl, ha, ty, hq⟩ := h
  cases rx
  obtain ⟨ox, od, J, _⟩ := insC_at I (.inr ⟨dx, fs, ha⟩)
  obtain ⟨m, Fr⟩ := I.fr
  obtain ⟨tb, lk, nf⟩ := ty.at I ry
  have hr1 : Room k X.A.in1 := hr.in1
  refine PySem.W.cmp_ofNotEq (ne_K (tb := tb) hr1.units0 Fr I.ok.mod.kin J lk nf hne at_ fn hm ?_)
  have hl : [V.ref a, y].length = ps.length := F.len _ _ _ _ hq
  have bb := hb s [.ref a, u] I.kIn (by simpa using hl)
  refine wpAny_call (codeAny_mono (F.go X.A.in1 X.stack s H ⟨[.ref a, u], []⟩ [.ref a, u] [.ref a, y] _ E hr1 hgd.in1 I.env0.in1 (by simpa using bb) (.cons rfl (.cons ry .nil)) hq) ?_)
  intro rs s' hq'
  cases rs with
  | error e => exact hx pins σ H s e s' I hq'
  | ok fl => cases fl with
    | ret u =>
      obtain ⟨v, H', I3, rv, b, hz, q3⟩ := I.after hq'
      subst hz
      cases rv
      exact ⟨b, rfl, .bl (!b), H', I3, rfl, q3⟩
    | next => exact hq'.elim
    | brk => exact hq'.elim
    | cont => exact hq'.elim
/-- repr(o) by an own __repr__ -/
def rReprO (C : Addr) (sp : Sp) (E : XK) : RC := fun xs H Q => ∃ a dx fs, xs = [.ref a] ∧ H a = some (.ins C dx fs) ∧ sp [.ref a] H (fun v H' => (∃ z, v = .str z) ∧ Q v H') E
theorem c_reprO (at_ : PySem.W.findIn X.K (.ref C) "__repr__" = some (some (.ref f))) (fn : PySem.W.isFn X.K (.ref f) = true) (F : Fg X.prog X.w X.K X.mg X.base CX k f fd ps sp) (hr : Room (k + 1) X.A) (hgd : Gd X.A) (hb : Binds X.K fd ps []) (hx : Passes CX X E) : CallR X (.builtin "repr") (rReprO C sp E) := by
  intro pins s σ H xs us Q I r h
  obtain ⟨a, dx, fs, rfl, ha, hq⟩ := h
  cases r with
  | cons r0 rr =>
    cases rr
    obtain rfl : _ = Value.ref a := r0
    obtain ⟨ox, od, J, _⟩ := insC_at I (.inr ⟨dx, fs, ha⟩)
    obtain ⟨m, Fr⟩ := I.fr
    have hr1 : Room k X.A.in1 := hr.in1
    refine PySem.W.repr_K hr1.units0 Fr I.ok.mod.kin J at_ fn ?_
    have hl : [V.ref a].length = ps.length := F.len _ _ _ _ hq
    have bb := hb s [.ref a] I.kIn (by simpa using hl)
    refine wpAny_call (codeAny_mono (F.go X.A.in1 X.stack s H ⟨[.ref a], []⟩ [.ref a] [.ref a] _ E hr1 hgd.in1 I.env0.in1 (by simpa using bb) (.cons rfl .nil) hq) ?_)
    intro rs s' hq'
    cases rs with
    | error e => exact hx pins σ H s e s' I hq'
    | ok fl => cases fl with
      | ret u =>
        obtain ⟨v, H', I3, rv, ⟨z, hz⟩, q3⟩ := I.after hq'
        subst hz
        obtain ⟨t, rfl⟩ := rv
        exact ⟨.str z, H', I3, ⟨t, rfl⟩, q3⟩
      | next => exact hq'.elim
      | brk => exact hq'.elim
      | cont => exact hq'.elim
end
/-! ### C(k = v, ..), C() -/
theorem KV.zip : ∀ {ks : List Str} {zs : List V} {ws : List Value}, Vals zs ws → KV (ks.zip zs) (ks.zip ws)
  | [], _, _, _ => .nil
  | _ :: _, _, _, .nil => .nil
  | k :: ks, _, _, .cons h r => .cons ⟨rfl, h⟩ (KV.zip r)
def tMakeZ (C : Addr) (sp : List V → List (Str × V) → Hp → VK → XK → Prop) (ks : List Str) (E : XK) (tk : TA) : TE := fun σ H Q => tk σ H fun zs H1 => ∀ x dx, H1 x = none → H1 dx = none → dx ≠ x →
  sp [.ref x] (ks.zip zs) (upd (upd H1 dx (.own x)) x (.ins C dx [])) (fun v H2 => v = .non ∧ Q (.ref x) H2) E
section
variable {X : Cx} {k : Nat} {C : Addr} {x : Str} {p pos : Pos} {kws : List Keyword} {tk : TA} {ks : List Str} {spk : List V → List (Str × V) → Hp → VK → XK → Prop}
theorem peMkZ (h : HasK X.prog X.w X.K X.mg X.base C x k spk) (hr : Room (k + 1) X.A) (hgd : Gd X.A) (hg : Gl X x) (hkw : PK X kws tk) (hall : (backToKw pos (keywordEach kws X.env)).all (·.1.isSome) = true := by rfl)
    (hks : (backToKw pos (keywordEach kws X.env)).filterMap (·.1) = ks := by rfl) (hdb : (x == ("__debug__" : Str)) = false := by decide)
    (hpl : ((backTo pos (starEach [] X.env)).any (·.1) || (backToKw pos (keywordEach kws X.env)).any (·.1.isNone)) = false := by rfl) : PE X (.Call (.Name x p) [] kws pos) (tMakeZ C spk ks E0 tk) := by
  obtain ⟨f, M, hm, F⟩ := h
  constructor
  intro pins s σ H Q I h
  apply wpAny_Call_Name_kw
  refine ld_glob I hg hm ?_ hdb
  refine PySem.W.callWith_KW0 (first := []) (h₀ := X.base) I.ok.mod.kin M.kp hall ?_ hpl
  refine thn (hkw.run pos pins s σ H _ I h) ?_
  rintro ws s2 ⟨zs, H2, I2, rz, q2⟩
  refine ⟨I2.kIn, ?_⟩
  rw [hks]
  exact run_makeG (us := []) (vs := []) M F hr hgd pass0 I2 .nil (KV.zip rz) q2
theorem peMk0 (h : HasK X.prog X.w X.K X.mg X.base C x k spk) (hr : Room (k + 1) X.A) (hgd : Gd X.A) (hg : Gl X x) (hdb : (x == ("__debug__" : Str)) = false := by decide) : PE X (.Call (.Name x p) [] [] pos) (tMakeZ C spk [] E0 tNil) := by
  obtain ⟨f, M, hm, F⟩ := h
  constructor
  intro pins s σ H Q I h
  apply wpAny_Call_Name_kw
  refine ld_glob I hg hm ?_ hdb
  exact PySem.W.callWith_K0 (first := []) I.kIn M.kp (run_makeG (us := []) (vs := []) (zs := []) (ys := []) M F hr hgd pass0 I .nil .nil h)
end
section
variable {X : Cx} {k : Nat} {C : Addr} {st : Stmt} {ps ks : List Str} {sp : Sp} {m : Str} {pos apos : Pos} {o : Expr} {ta : TE} {tk : TA} {kws : List Keyword}
/-- C.m(k = v), m a staticmethod, in the order of the def -/
theorem peHSZ {pl : Sem Bool} (h : HasS X.prog X.w X.K X.mg X.base C m st ps k sp) (hr : Room k X.A) (hgd : Gd X.A) (he : PE X o ta) (hkw : PK X kws tk)
    (hb : ∀ (q : Str) (kV doc pm : Value) (an : Option Addr) (cdv ct : Value) (ws : List Value), ws.length = ps.length →
      bindArgs (PySem.W.fnOf m q (defArgs st) (defBody st) (defScope st) .none kV doc pm an cdv ct) ⟨[], ks.zip ws⟩ = pure (ps.zip ws))
    (hall : (backToKw pos (keywordEach kws X.env)).all (·.1.isSome) = true := by rfl)
    (hks : (backToKw pos (keywordEach kws X.env)).filterMap (·.1) = ks := by rfl)
    (hpl : ((backTo pos (starEach [] X.env)).any (·.1) || (backToKw pos (keywordEach kws X.env)).any (·.1.isNone)) = false := by rfl)
    (ht : eval (.Call (.Attribute o m apos) [] kws pos) X.env = (do
      let ov ← eval o X.env
      standAt apos.atName
      let (f, first) ← holding [ov] (getMethod ov m pl)
      callWith pos f first (backTo pos (starEach [] X.env)) (backToKw pos (keywordEach kws X.env))) := by rfl) :
    PE X (.Call (.Attribute o m apos) [] kws pos) (tSMeth C sp [] E0 ta tk) := by
  obtain ⟨g, fd, q, F, ⟨⟨mc, p, r, c⟩, bi, ok⟩⟩ := h
  constructor
  intro pins s σ H Q I h
  refine PySem.W.methodCall_KW (pl := pl) (thn (he.run pins s σ H _ I h) ?_) ht
  rintro u s1 ⟨x, H1, I1, rx, ex, q1⟩
  subst ex
  obtain rfl : u = Value.ref C := rx
  obtain ⟨rest, hp⟩ := c.rc
  refine PySem.W.method_cls I1.kIn r.ga (PySem.W.cls_bind I1.kIn r.rd c.at_ ?_)
  refine wpAny_call (PySem.W.sm_get (s := { s1 with toks := s1.toks + 1 }) I1.kIn hp (PySem.W.handed_on c.hd ?_))
  have I2 := I1.tok (s1.toks + 1)
  refine PySem.W.callWith_KW0 (first := []) (h₀ := X.base) I.ok.mod.kin c.kp hall ?_ hpl
  refine thn (hkw.run pos pins _ σ H1 _ I2 q1) ?_
  rintro ws s2 ⟨zs, H2, I3, rz, q2⟩
  refine ⟨I3.kIn, ?_⟩
  rw [hks]
  obtain ⟨oc, od, kV, doc, pm, an, cdv, ct, osl, rfl, lk, hcd⟩ := F.ex
  have q2 : sp (zs ++ []) H2 Q E0 := q2
  rw [List.append_nil] at q2
  exact runG (us := []) (us' := ws) (vs' := zs) ok hr hgd pass0 I3 (fun hl => BindsTo.of_eq (hb q kV doc pm an cdv ct ws hl)) rz q2
/-- own == and != by a method of the class -/
theorem eqH (h : HasM X.prog X.w X.K X.mg X.base C "__eq__" st ps k sp) (hr : Room k X.A) (hgd : Gd X.A) : OpR X (compareOp .Eq) (rOwnEq C sp E0) := by
  obtain ⟨f, fd, q, _, h⟩ := h
  exact op_ownEq h.me.at_ h.me.fn h.ok hr hgd h.bi pass0
theorem neH (h : HasM X.prog X.w X.K X.mg X.base C "__eq__" st ps k sp) (hne : PySem.W.findIn X.K (.ref C) "__ne__" = some (some (.builtin "object.__ne__"))) (hm : PySem.W.mroIn X.K C (.type "object") = some true) (hr : Room (k + 1) X.A) (hgd : Gd X.A) : OpR X (compareOp .NotEq) (rOwnNe C sp E0) := by
  obtain ⟨f, fd, q, _, h⟩ := h
  exact op_ownNe hne hm h.me.at_ h.me.fn h.ok hr hgd h.bi pass0
theorem reprH (h : HasM X.prog X.w X.K X.mg X.base C "__repr__" st ps k sp) (hr : Room (k + 1) X.A) (hgd : Gd X.A) : CallR X (.builtin "repr") (rReprO C sp E0) := by
  obtain ⟨f, fd, q, _, h⟩ := h
  exact c_reprO h.me.at_ h.me.fn h.ok hr hgd h.bi pass0
end
end G


namespace G
open PySem PySem.Spec PyProof.Rows L2 StX ClX PySem.SeqAt MeetsSeq
/-! ### a text == a thing -/
theorem str_eq_declines_dict (b : Str) (u : Tok) (l : Addr) (c : Value) (es : Array DictEntry) (ep : Nat) (dd : Option Addr) (sl : Array (Option Value)) :
    Meets (Builtin.«str.__eq__» ⟨[.str b u, .ref l], []⟩) (fun _ R s => s.heap.get? l = some { cls := c, dict := dd, data := .dict es ep, slots := sl } ∧ R (.ok (.ret .notImplemented)) s) :=
  .of_wp fun prog w A R s h => by obtain ⟨hp, g, d, tk, os⟩ := s; obtain ⟨hl, h⟩ := h; wp_walk using wpAny_loadPart' hl, wpAny_load hl; exact ⟨_, rfl, h⟩
theorem dict_eq_declines_str (l : Addr) (es : Array DictEntry) (ep : Nat) (dd : Option Addr) (sl : Array (Option Value)) (b : Str) (u : Tok) :
    Meets (Builtin.«dict.__eq__» ⟨[.ref l, .str b u], []⟩) (fun _ R s => s.heap.get? l = some { cls := .type "dict", dict := dd, data := .dict es ep, slots := sl } ∧ R (.ok (.ret .notImplemented)) s) :=
  .of_wp fun prog w A R s h => by obtain ⟨hp, g, d, tk, os⟩ := s; obtain ⟨hl, h⟩ := h; have f1 := F.sub_str_dict; wp_walk using wpAny_loadPart' hl; exact ⟨_, rfl, h⟩
theorem rc_str_dict {A : Around} {s : Shared} {l : Addr} {o : Obj} {es : Array DictEntry} {ep : Nat} (b : Str) (u : Tok) (ho : s.heap.get? l = some o) (hc : o.cls = .type "dict") (hd : o.data = .dict es ep) (hu : A.units < cLine) : RcAt A s (.str b u) (.ref l) false := fun prog w E Q h => by
  obtain ⟨cls, dd, data, sl⟩ := o
  simp only at hc hd
  subst hc hd
  exact rc_eq_decline_or (k := false) (typeIs_str s b u) ⟨_, ho, rfl⟩ (by decide) F.sub_dict_str F.slot_str_eq F.slot_dict_eq_refl
    (fun _ hq => call_meets F.slot_str_eq (typeIs_str s b u) F.entry_str_eq (F.args_str_eq_2 _ _) (str_eq_declines_dict b u l (.type "dict") es ep dd sl) ⟨ho, hq⟩)
    (fun _ hq => call_meets F.slot_dict_eq_refl ⟨_, ho, rfl⟩ F.entry_dict_eq (F.args_dict_eq_2 _ _) (dict_eq_declines_str l es ep dd sl b u) ⟨ho, hq⟩)
    (fun _ hq => wpAny_of_eq (rfl : isSame (.str b u) (.ref l) = pure false) hq) (.inr hu) h
def rEqT : R2 := fun x y H Q => ∃ a, x = .str a ∧ ((scal x y = true ∧ Q (.bl (decide (x = y))) H) ∨ ∃ q, y = .ref q ∧ ((∃ xs, H q = some (.lst xs)) ∨ (∃ xs, H q = some (.tup xs)) ∨ ∃ kvs, H q = some (.dK kvs)) ∧ Q (.bl false) H)
theorem op_eqT {X : Cx} (hu : X.A.units < cLine) : OpR X (compareOp .Eq) rEqT := by
  intro pins s σ H x y v u Q I rx ry h
  obtain ⟨a, rfl, h⟩ := h
  rcases h with h | ⟨q, rfl, h, hq⟩
  · exact op_eq pins s σ H _ y v u Q I rx ry h
  · obtain ⟨t, rfl⟩ := rx
    cases ry
    have fin : EP X pins σ Q (.bool false) s := ⟨.bl false, H, I, rfl, hq⟩
    rcases h with ⟨xs, h⟩ | ⟨xs, h⟩ | ⟨kvs, h⟩
    · obtain ⟨z, its, n, r, hl, e⟩ := I.lstM h
      exact PySem.W.cmp_ofEq (RcAt.str_list a t ⟨_, e, rfl, n, rfl⟩ hu _ _ _ _ fin)
    · obtain ⟨its, r, ⟨o, ho, hc, n, hd⟩, _⟩ := I.tuple (SqT.of h)
      exact PySem.W.cmp_ofEq (RcAt.str_tuple a t ⟨o, ho, hc, n, hd⟩ hu _ _ _ _ fin)
    · obtain ⟨z, hs, vs, rk, o, es, ep, ho, hx, hdat, _⟩ := dk_of I.hok h
      exact PySem.W.cmp_ofEq (rc_str_dict a t ho hx.1 hdat hu _ _ _ _ fin)
/-- .. by what is known of the thing -/
def eqT (a : Str) : V → Bool
  | .str z => decide (a = z)
  | _ => false
theorem s_eqT {A : Addr → Prop} {H : Hp} {Q : VK} {a : Str} {y : V} {n : Nat} (t : Th A H n y) (h : Q (.bl (eqT a y)) H) : rEqT (.str a) y H Q := by
  have h0 : Th A H 0 y := by
    cases n with
    | zero => exact t
    | succ n => exact t.down
  refine ⟨a, rfl, ?_⟩
  cases y with
  | non => exact .inl ⟨rfl, h⟩
  | bl b => exact .inl ⟨rfl, h⟩
  | int b => exact .inl ⟨rfl, h⟩
  | str z =>
    refine .inl ⟨rfl, ?_⟩
    have e : decide (V.str a = V.str z) = decide (a = z) := by simp
    rw [e]
    exact h
  | byt b => exact h0.elim
  | flt b => exact h0.elim
  | ty b => exact h0.elim
  | ref q =>
    obtain ⟨ne, h0⟩ := h0
    refine .inr ⟨q, rfl, ?_, h⟩
    rcases h0 with h0 | h0 | h0
    · exact .inl h0
    · exact .inr (.inr h0)
    · exact .inr (.inl h0)
/-! ### dict(list of pairs), pop, list * int -/
def rDictL (K : PySem.W.Frag) : RC := fun vs H Q => ∃ (a : Addr) (xs : List V) (r : Row), vs = [.ref a] ∧ SqL K H a xs ∧ PrsL H xs r ∧ ∀ p, H p = none → Q (.ref p) (upd H p (.dK (mergeK [] (kvR r))))
theorem prs_refs {K : PySem.W.Frag} {H : Hp} : ∀ {xs : List V} {r : Row}, PrsL H xs r → ∃ ps : List Addr, xs = ps.map V.ref ∧ Paired (fun p (kv : Key × V) => SqT K H p [kV kv.1, kv.2]) ps (kvR r)
  | _, _, .nil => ⟨[], rfl, .nil⟩
  | _, _, .cons (t := t) h r => by
    obtain ⟨ps, e, q⟩ := prs_refs r
    exact ⟨t :: ps, by rw [List.map_cons, e], .cons (SqT.of h) q⟩
theorem dictLK {X : Cx} (K : PySem.W.Frag) (h : X.K = K := by rfl) (hc : X.calm = true := by rfl) : CallR X (.type "dict") (rDictL K) := by
  subst h
  intro pins s σ H vs us Q I r q
  obtain ⟨a, xs, rw_, rfl, hl, pr, q⟩ := q
  obtain ⟨ps, rfl, pp⟩ := prs_refs (K := X.K) pr
  exact call_dictP hc pins s σ H _ us Q I r ⟨a, ps, kvR rw_, rfl, hl, pp, q⟩
theorem s_dictL {K : PySem.W.Frag} {H : Hp} {Q : VK} {a : Addr} {xs : List V} {r : Row} (c : SqL K H a xs) (pr : PrsL H xs r) (nd : (keysR r).Nodup) (h : ∀ p H', H p = none → Same H H' → H' p = some (.dK (kvR r)) → Q (.ref p) H') : rDictL K [.ref a] H Q := by
  refine ⟨a, xs, r, rfl, c, pr, fun p hp => ?_⟩
  rw [kvR_self nd]
  exact h p _ hp (fun a u e => by rw [upd_ne (ne_of_none e hp)]; exact e) upd_same
section
variable {X : Cx} (K : PySem.W.Frag) (h : X.K = K := by rfl)
include h
theorem popK {o e : Expr} {to : TE} {t : TA} {apos cpos : Pos} (ho : PE X o to) (ha : PA X [e] t)
    (hbase : attributeBase o "pop" X.env (eval o X.env) = eval o X.env := by rfl)
    (hfew : ((backTo cpos (starEach [e] X.env)).all (fun x => !x.1) && (backToKw cpos (keywordEach [] X.env)).all (fun x => x.1.isSome)
      && decide ([e].length + ([] : List Keyword).length + (if ([] : List Keyword).isEmpty then 0 else 1) < 30)) = true := by rfl)
    (hline : (apos.endLine == cpos.line) = true := by rfl) (hs : starEach [e] X.env = (false, eval e X.env) :: starEach [] X.env := by rfl)
    (hplain : (backTo cpos (starEach [] X.env)).any (·.1) = false := by rfl) :
    PE X (.Call (.Attribute o "pop" apos) [e] [] cpos) (tBM K "list" rPopAt to t) := by
  subst h
  exact pe_bm PySem.F.plainAttrs_list PySem.F.slot_list_pop PySem.F.type_list_pop mt_popAt ho ha hbase hfew hline hs hplain
end
theorem s_popAt {H : Hp} {Q : VK} {l : Addr} {xs : List V} {i : Int} (e : H l = some (.lst xs)) (h0 : 0 ≤ i) (h1 : i < xs.length) (hl : xs.length ≤ 1000000) (h : ∀ y, xs[i.toNat]? = some y → Q y (upd H l (.lst (xs.eraseIdx i.toNat)))) : rPopAt (.ref l) [.int i] H Q := by
  have hi : i.toNat < xs.length := by omega
  refine ⟨l, xs, i, i.toNat, xs[i.toNat], rfl, rfl, e, by omega, by omega, ?_, by simp [hi], h _ (by simp [hi])⟩
  unfold PySem.seqIndex?
  simp only []
  first
    | (rw [if_neg (by omega)]; simp [hi]; omega)
    | (split <;> simp <;> omega)
theorem s_rep {H : Hp} {Q : VK} {l : Addr} {xs : List V} {k : Nat} (e : H l = some (.lst xs)) (hk : k ≤ 1000) (hl : xs.length ≤ 1000) (h : ∀ p H', H p = none → Same H H' → H' p = some (.lst (List.replicate k xs).flatten) → Q (.ref p) H') : rRep (.ref l) (.int (k : Nat)) H Q := by
  refine ⟨l, (k : Nat), xs, rfl, rfl, e, by omega, by omega, ?_, ?_⟩
  · rw [Int.toNat_natCast]
    refine sz1 (Nat.le_trans (Nat.mul_le_mul hl hk) (by decide))
  · rw [Int.toNat_natCast]
    exact fun p hp => h p _ hp (fun a u e => by rw [upd_ne (ne_of_none e hp)]; exact e) upd_same
/-! ### isinstance(y, C) -/
theorem kit_no {K : PySem.W.Frag} {C : Addr} {T : String} (h1 : PySem.W.isClsIn K C = true) (h2 : PySem.W.typeIn K (.ref C) = some (.type "type")) (h3 : PySem.W.subIn K (.type T) (.ref C) = some false) : PySem.W.kitOne K (.type T) (.ref C) = some false := by
  unfold PySem.W.kitOne
  rw [if_neg (by rw [show (Value.type T == Value.ref C) = false from rfl]; exact Bool.false_ne_true)]
  unfold PySem.W.kitCls
  have h1' : (PySem.W.clsIn K C).isSome = true := h1
  simp only [h1', h2, h3]
  simp
end G


namespace G
open PySem PySem.Spec PyProof.Rows L2 StX ClX TL
/-- further facts about the class -/
structure NeC (K : PySem.W.Frag) (C : Addr) : Prop where
  ne : PySem.W.findIn K (.ref C) "__ne__" = some (some (.builtin "object.__ne__"))
  ob : PySem.W.mroIn K C (.type "object") = some true
  ic : PySem.W.isClsIn K C = true
  ty : PySem.W.typeIn K (.ref C) = some (.type "type")
theorem NeC.isiS {K : PySem.W.Frag} {C : Addr} {H : Hp} {Q : VK} {z : Str} (f : NeC K C) (h : Q (.bl false) H) : rIsi K [.str z, .ref C] H Q :=
  ⟨_, _, _, _, _, rfl, .own C, .base (.str z), kit_no f.ic f.ty sub_str, h⟩
theorem NeC.isiI {K : PySem.W.Frag} {C : Addr} {H : Hp} {Q : VK} {z : Int} (f : NeC K C) (h : Q (.bl false) H) : rIsi K [.int z, .ref C] H Q :=
  ⟨_, _, _, _, _, rfl, .own C, .base (.int z), kit_no f.ic f.ty sub_int, h⟩
/-! ### promises -/
def facT (q : Row) : V → Int
  | .str z => fac q z
  | _ => 0
def spFactor (C : Addr) : Sp := fun vs H Q _ => ∃ (v y : V) (q : Row) (A : Addr → Prop) (n : Nat), vs = [v, y] ∧ FormAt C H v q ∧ Th A H n y ∧ Q (.int (facT q y)) H
def spEqF (C : Addr) : Sp := fun vs H Q _ => ∃ (v y : V) (q : Row), vs = [v, y] ∧ FormAt C H v q ∧ ((∃ q', FormAt C H y q' ∧ Q (.bl (decide (textR q = textR q'))) H) ∨ (((∃ z, y = .str z) ∨ ∃ i, y = .int i) ∧ Q (.bl false) H))
def reprR (q : Row) : Str := Str.ofString "Form(" ++ textR q ++ Str.ofString ")"
def spReprF (C : Addr) : Sp := fun vs H Q _ => ∃ (v : V) (q : Row), vs = [v] ∧ FormAt C H v q ∧ (textR q).length ≤ 100000 ∧ Q (.str (reprR q)) H
/-- what is seen of a form -/
def seenD (q : Row) (fs : List Int) : PyData := .list [.str (textR q), .str (reprR q), .tuple ((keysR q).map .str), .bool true, .list (fs.map .int), .list (fs.map .int)]
structure Sm (q : Row) : Prop where
  can : Can q
  rb : RowB q
  len : q.length ≤ 20
  fb : Fb (10 ^ 40) q
def spSeen (C : Addr) : Sp := fun vs H Q _ => ∃ (v : V) (l : Addr) (ys : List V) (q : Row) (A : Addr → Prop) (n : Nat), vs = [v, .ref l] ∧ FormAt C H v q ∧ Sm q ∧ H l = some (.lst ys) ∧ ys.length ≤ 60 ∧ (∀ y ∈ ys, Th A H n y) ∧ ∀ H', Same H H' → Q (.str (seenD q (ys.map (facT q))).shown) H'
def spDue : Sp := fun vs H Q _ => ∃ (l m : Addr) (q : Row) (zs : List Str), vs = [.ref l, .ref m] ∧ RwR H (.ref l) q ∧ Sm q ∧ H m = some (.lst (zs.map V.str)) ∧ zs.length ≤ 60 ∧ ∀ H', Same H H' → Q (.str (seenD q (zs.map (fac q))).shown) H'
def spDueOdd : Sp := fun vs H Q _ => ∃ (l m o : Addr) (q : Row) (zs : List Str) (os : List V), vs = [.ref l, .ref m, .ref o] ∧ RwR H (.ref l) q ∧ Sm q ∧ H m = some (.lst (zs.map V.str)) ∧ zs.length ≤ 25 ∧ H o = some (.lst os) ∧ os.length ≤ 25 ∧ ∀ H', Same H H' → Q (.str (seenD q ((zs ++ [Str.ofString "@"]).map (fac q) ++ List.replicate os.length 0)).shown) H'
def spMixed (K : PySem.W.Frag) : Sp := fun vs H Q _ => ∃ (p l : Addr) (xs : List V), vs = [.ref p, .ref l] ∧ Dr p H ∧ l ≠ p ∧ SqL K H l xs ∧ xs.length ≤ 20 ∧ ∀ m ys H', H m = none → Rx [p] H H' → Dr p H' → H' m = some (.lst ys) → ys.Perm xs → Q (.ref m) H'
def spByTerms (C : Addr) : Sp := fun vs H Q _ => ∃ (p l : Addr) (q : Row), vs = [.ref p, .ref l] ∧ Dr p H ∧ RwR H (.ref l) q ∧ Can q ∧ RowB q ∧ q.length ≤ 20 ∧ Fb (10 ^ 31) q ∧ ∀ v H', Rx [p] H H' → Dr p H' → FormAt C H' v q → Q v H'
/-! ### what is shown is short -/
theorem abs_len {i : Int} (h : i.natAbs ≤ 10 ^ 40) : (Str.ofString (toString i)).length ≤ 43 := by
  have pos : ∀ n : Nat, n ≤ 10 ^ 40 → (Str.ofString (toString ((n : Nat) : Int))).length ≤ 42 := fun n hn => by
    rw [len_tl, tl_num]
    exact numL_len (by decide) (Nat.lt_of_le_of_lt hn (by decide +kernel))
  by_cases hi : i < 0
  · have e := len_text_negI hi
    have e1 : 0 - i = ((i.natAbs : Nat) : Int) := by omega
    rw [e1] at e
    have := pos _ h
    omega
  · have e : i = ((i.natAbs : Nat) : Int) := by omega
    have := pos _ h
    rw [← e] at this
    omega
theorem text_short {q : Row} (h : Sm q) : (textR q).length ≤ 1200 := by
  have part : ∀ p ∈ q, (partR p).length ≤ 55 ∧ (tailR p).length ≤ 55 := by
    intro p hp
    have s := h.rb.sym p hp
    have l1 := (sym_len s).2
    have hb := h.fb p.1
    rw [fac_mem h.can.nodup hp] at hb
    have l2 : (numL p.2.natAbs).length ≤ 42 := numL_len (by decide) (Nat.lt_of_le_of_lt hb (by decide +kernel))
    have lw : (wordR p).length ≤ 51 := by
      rw [len_tl, tl_word]
      rw [len_tl] at l1
      split
      · omega
      · rw [List.length_append, List.length_cons]
        omega
    have h1 : ("-" : Str).length = 1 := by decide +kernel
    have h2 : (" - " : Str).length = 3 := by decide +kernel
    have h3 : (" + " : Str).length = 3 := by decide +kernel
    unfold partR tailR
    constructor <;> split <;> first | (simp only [len_lit]; omega) | omega
  rw [text_line]
  split
  · decide +kernel
  · unfold lineR
    rw [len_join]
    have ht : ∀ l : Row, (∀ p ∈ l, (tailR p).length ≤ 55) → ((l.map tailR).map (·.length)).sum ≤ 55 * l.length := by
      intro l
      induction l with
      | nil => intro _; simp
      | cons a l ih =>
        intro hl
        have := ih fun p hp => hl p (List.mem_cons_of_mem _ hp)
        have h2 := hl a List.mem_cons_self
        simp only [List.map_cons, List.sum_cons, List.length_cons]
        omega
    have hl := h.len
    cases q with
    | nil => simp [wordsR]
    | cons p q =>
      have h0 := (part p List.mem_cons_self).1
      have h1 := ht q fun p' hp' => (part p' (List.mem_cons_of_mem _ hp')).2
      simp only [wordsR, List.map_cons, List.sum_cons, List.length_cons] at hl ⊢
      omega
end G


namespace G
open PySem PySem.Spec PyProof.Rows L2 StX ClX TL
theorem leaves_strs : ∀ {zs : List Str}, (∀ z ∈ zs, asc z) → PyData.leavesShortAll 43 (zs.map PyData.str) = true
  | [], _ => by simp [PyData.leavesShortAll]
  | z :: zs, h => by
    have h2 := leaves_strs (zs := zs) fun y hy => h y (List.mem_cons_of_mem _ hy)
    simp only [List.map_cons, PyData.leavesShortAll, h2, Bool.and_true, PyData.leavesShort]
    rw [List.all_eq_true]
    intro c hc
    have := h z List.mem_cons_self c hc
    exact decide_eq_true (by omega)
theorem leaves_ints : ∀ {ns : List Int}, (∀ i ∈ ns, i.natAbs ≤ 10 ^ 40) → PyData.leavesShortAll 43 (ns.map PyData.int) = true
  | [], _ => by simp [PyData.leavesShortAll]
  | i :: ns, h => by
    have h2 := leaves_ints (ns := ns) fun y hy => h y (List.mem_cons_of_mem _ hy)
    simp only [List.map_cons, PyData.leavesShortAll, h2, Bool.and_true, PyData.leavesShort, PyData.shown]
    exact decide_eq_true (abs_len (h i List.mem_cons_self))
theorem weight_strs : ∀ {zs : List Str}, (∀ z ∈ zs, z.length ≤ 8) → PyData.weightAll (zs.map PyData.str) ≤ 9 * zs.length
  | [], _ => by simp [PyData.weightAll]
  | z :: zs, h => by
    have h2 := weight_strs (zs := zs) fun y hy => h y (List.mem_cons_of_mem _ hy)
    have h1 := h z List.mem_cons_self
    have h3 : z.cps.size = z.length := rfl
    simp only [List.map_cons, PyData.weightAll, PyData.weight, List.length_cons]
    omega
theorem weight_ints : ∀ {ns : List Int}, (∀ i ∈ ns, i.natAbs ≤ 10 ^ 40) → PyData.weightAll (ns.map PyData.int) ≤ 140 * ns.length
  | [], _ => by simp [PyData.weightAll]
  | i :: ns, h => by
    have h2 := weight_ints (ns := ns) fun y hy => h y (List.mem_cons_of_mem _ hy)
    have h1 := h i List.mem_cons_self
    simp only [List.map_cons, PyData.weightAll, PyData.weight, List.length_cons]
    have h3 : (if (i == 0) = true then 0 else i.natAbs.log2 + 1) ≤ 139 := by
      split
      · omega
      · rename_i hz
        have hz' : i.natAbs ≠ 0 := by
          intro z
          have : i = 0 := by omega
          simp [this] at hz
        have : i.natAbs.log2 < 134 := (Nat.log2_lt hz').mpr (Nat.lt_of_le_of_lt h1 (by decide +kernel))
        omega
    omega
theorem showable_strs : ∀ {zs : List Str}, PyData.showableAll (zs.map PyData.str) = true
  | [] => by simp [PyData.showableAll]
  | z :: zs => by simp only [List.map_cons, PyData.showableAll, PyData.showable, showable_strs (zs := zs), Bool.and_true]
theorem noDict_strs : ∀ {zs : List Str}, PyData.hasDictAll (zs.map PyData.str) = false
  | [] => by simp [PyData.hasDictAll]
  | z :: zs => by simp only [List.map_cons, PyData.hasDictAll, PyData.hasDict, noDict_strs (zs := zs), Bool.or_false]
theorem depth_strs : ∀ {zs : List Str}, PyData.depthAll (zs.map PyData.str) = 0
  | [] => by simp [PyData.depthAll]
  | z :: zs => by simp only [List.map_cons, PyData.depthAll, PyData.depth, depth_strs (zs := zs), Nat.max_self]
theorem asc_repr {q : Row} (h : Sm q) : asc (reprR q) := by
  unfold reprR
  exact asc_app (asc_app (by decide +kernel) (asc_text h.rb.sym)) (by decide +kernel)
theorem repr_len {q : Row} (h : Sm q) : (reprR q).length ≤ 1206 := by
  have := text_short h
  unfold reprR
  rw [len_app, len_app]
  have h1 : (Str.ofString "Form(").length = 5 := by decide +kernel
  have h2 : (Str.ofString ")").length = 1 := by decide +kernel
  omega
theorem seen_shown {q : Row} {fs : List Int} (h : Sm q) (hf : ∀ i ∈ fs, i.natAbs ≤ 10 ^ 40) (hl : fs.length ≤ 60) : (seenD q fs).showable = true ∧ (seenD q fs).hasDict = false ∧ (seenD q fs).depth ≤ 60 ∧ (seenD q fs).shown.length ≤ sizeLine := by
  have hbd : ∀ i ∈ fs, bd i := fun i hi => Nat.lt_of_le_of_lt (hf i hi) (by decide +kernel)
  have hk : ∀ z ∈ keysR q, z.length ≤ 8 := fun z hz => by
    obtain ⟨p, hp, rfl⟩ := List.mem_map.mp hz
    exact (sym_len (h.rb.sym p hp)).2
  have hka : ∀ z ∈ keysR q, asc z := fun z hz => by
    obtain ⟨p, hp, rfl⟩ := List.mem_map.mp hz
    intro c hc
    have := sym_signs (h.rb.sym p hp) c hc
    omega
  have hkl : (keysR q).length = q.length := by unfold keysR; simp
  have hql := h.len
  have ht := text_short h
  have hr := repr_len h
  refine ⟨?_, ?_, ?_, sz1 ?_⟩
  · unfold seenD
    simp only [PyData.showable, PyData.showableAll, showable_strs, showable_ints hbd, Bool.and_true, Bool.and_self]
  · unfold seenD
    simp only [PyData.hasDict, PyData.hasDictAll, noDict_strs, noDict_ints, Bool.or_false, Bool.or_self]
  · unfold seenD
    simp only [PyData.depth, PyData.depthAll, depth_strs, depth_ints]
    decide
  · have hs : (seenD q fs).leavesShort 43 = true := by
      unfold seenD
      have la : ∀ z : Str, asc z → (z.cps.toList.all fun c => decide (c < 16 ^ 8)) = true := fun z hz => by
        rw [List.all_eq_true]
        intro c hc
        have := hz c hc
        exact decide_eq_true (by omega)
      simp only [PyData.leavesShort, PyData.leavesShortAll, leaves_strs hka, leaves_ints hf, la _ (asc_text h.rb.sym), la _ (asc_repr h), Bool.and_true, Bool.and_self]
    have h1 := PyData.shown_le 43 (by decide) _ hs
    have hw : (seenD q fs).weight ≤ 20000 := by
      unfold seenD
      have w1 := weight_strs hk
      have w2 := weight_ints hf
      have h3 : (textR q).cps.size = (textR q).length := rfl
      have h4 : (reprR q).cps.size = (reprR q).length := rfl
      simp only [PyData.weight, PyData.weightAll]
      omega
    omega
theorem s_reprSeen {K : PySem.W.Frag} {H : Hp} {Q : VK} {a y f g : Addr} {q : Row} {fs : List Int} (h : Sm q) (hf : ∀ i ∈ fs, i.natAbs ≤ 10 ^ 40) (hl : fs.length ≤ 60)
    (ha : H a = some (.lst [.str (textR q), .str (reprR q), .ref y, .bl true, .ref f, .ref g])) (hy : H y = some (.tup ((keysR q).map V.str))) (e1 : H f = some (.lst (fs.map V.int))) (e2 : H g = some (.lst (fs.map V.int)))
    (k : Q (.str (seenD q fs).shown) H) : rRepr K [.ref a] H Q := by
  obtain ⟨h1, h2, h3, h4⟩ := seen_shown h hf hl
  refine ⟨a, seenD q fs, rfl, .lst (SqL.of ha) ?_, h1, h2, h3, h4, k⟩
  exact .cons (.str _) (.cons (.str _) (.cons (.tup (SqT.of hy) dp_strs) (.cons (.bl true) (.cons (.lst (SqL.of e1) dp_ints) (.cons (.lst (SqL.of e2) dp_ints) .nil)))))
theorem facT_abs {q : Row} (h : Sm q) (y : V) : (facT q y).natAbs ≤ 10 ^ 40 := by
  cases y with
  | str z => exact h.fb z
  | _ => exact Nat.zero_le _
end G


namespace G
open PySem PySem.Spec PyProof.Rows L2 StX ClX TL
theorem facT_hit {q : Row} {p : Str × Int} {y : V} (c : Can q) (hp : p ∈ q) (e : eqT p.1 y = true) : facT q y = p.2 := by
  cases y with
  | str z =>
    have : p.1 = z := of_decide_eq_true e
    show fac q z = p.2
    rw [← this, fac_mem c.nodup hp]
  | _ => cases e
theorem facT_miss {q : Row} {y : V} (h : ∀ p ∈ q, eqT p.1 y = false) : facT q y = 0 := by
  cases y with
  | str z =>
    refine fac_out fun m => ?_
    obtain ⟨p, hp, e⟩ := List.mem_map.mp m
    have := h p hp
    exact absurd (of_decide_eq_false this) (by simpa using e)
  | _ => rfl
section
variable {K : PySem.W.Frag} {σ : L2.St} {H : Hp} {Q : VK} {C : Addr} {sp : Sp}
theorem s_reprO {x : V} {q1 : Row} (f1 : FormAt C H x q1) (h : sp [x] H (fun v H' => (∃ z, v = .str z) ∧ Q v H') E0) : rReprO C sp E0 [x] H Q := by
  obtain ⟨a, dx, t, z, xs, rfl, f1⟩ := f1
  exact ⟨a, dx, _, rfl, f1.ins, h⟩
theorem s_ownEq {x y : V} {q1 : Row} (f1 : FormAt C H x q1) (t : TyE C H y) (h : sp [x, y] H Q E0) : rOwnEq C sp E0 x y H Q := by
  obtain ⟨a, dx, t', z, xs, rfl, f1⟩ := f1
  exact ⟨a, dx, _, rfl, f1.ins, t, h⟩
theorem s_ownNe {x y : V} {q1 : Row} (f1 : FormAt C H x q1) (t : TyE C H y) (h : sp [x, y] H (fun v H' => ∃ b, v = .bl b ∧ Q (.bl (!b)) H') E0) : rOwnNe C sp E0 x y H Q := by
  obtain ⟨a, dx, t', z, xs, rfl, f1⟩ := f1
  exact ⟨a, dx, _, rfl, f1.ins, t, h⟩
theorem FormAt.tyE {y : V} {q : Row} (h : FormAt C H y q) : TyE C H y := by
  obtain ⟨a, dx, t', z, xs, rfl, f1⟩ := h
  exact .own f1.ins
/-- a form by keywords -/
theorem s_mkZ {ks : List Str} {zs : List Int} {Qa : Addr → Hp → Prop} (nd : ks.Nodup) (hl : ks.length = zs.length) (b : RowB (ks.zip zs))
    (k : ∀ x q H', CanOf (ks.zip zs) q → Same H H' → FormAt C H' (.ref x) q → Qa x H') :
    ∀ x dx, H x = none → H dx = none → dx ≠ x → spMake C [.ref x] (ks.zip (zs.map V.int)) (upd (upd H dx (.own x)) x (.ins C dx [])) (fun v H2 => v = .non ∧ Qa x H2) E0 := by
  intro x dx hx hd ne
  have ez : ∀ (ks : List Str) (zs : List Int), ks.zip (zs.map V.int) = (ks.zip zs).map fun p => (p.1, V.int p.2) := by
    intro ks
    induction ks with
    | nil => intro zs; rfl
    | cons k ks ih =>
      intro zs
      cases zs with
      | nil => rfl
      | cons z zs =>
        rw [List.map_cons, List.zip_cons_cons, List.zip_cons_cons, List.map_cons, ih]
  have nk : (keysR (ks.zip zs)).Nodup := by
    unfold keysR
    rw [List.map_fst_zip (by omega)]
    exact nd
  rw [ez]
  refine ⟨_, rfl, ?_, ?_, ?_, ?_⟩
  · intro p hp
    obtain ⟨q, hq, rfl⟩ := List.mem_map.mp hp
    have hs := b.sym q hq
    refine beq_eq_false_iff_ne.mpr fun z => ?_
    have z : q.1 = "own_form" := z
    rw [z, own_not_sym] at hs
    cases hs
  · rw [List.map_map]
    exact nk
  · rw [List.length_map]
    have := b.len
    exact sz1 (by omega)
  · intro d hd2
    rw [← kvR_inrs]
    have nx : x ≠ d := by
      rintro rfl
      rw [upd_same] at hd2
      cases hd2
    have hd3 : H d = none := by
      rw [upd_ne (Ne.symm nx)] at hd2
      by_cases z : d = dx
      · subst z
        rw [upd_same] at hd2
        cases hd2
      · rw [upd_ne z] at hd2
        exact hd2
    refine ⟨x, dx, d, ks.zip zs, rfl, by rw [upd_ne nx, upd_same], upd_same, nk, b, fun q H' cq rx fa => ⟨rfl, k x q H' cq ?_ fa⟩⟩
    intro a o e
    have n1 : a ≠ x := ne_of_none e hx
    refine rx a o (by simpa using n1) ?_
    rw [upd_ne (ne_of_none e hd3), upd_ne n1, upd_ne (ne_of_none e hd)]
    exact e
theorem s_mkz {tk : TA} {ks : List Str} (h : tk σ H fun zs H1 => ∀ x dx, H1 x = none → H1 dx = none → dx ≠ x → spMake C [.ref x] (ks.zip zs) (upd (upd H1 dx (.own x)) x (.ins C dx [])) (fun v H2 => v = .non ∧ Q (.ref x) H2) E0) : tMakeZ C (spMake C) ks E0 tk σ H Q := h
end
end G


namespace G
open PySem PySem.Spec PyProof.Rows L2 StX ClX TL
theorem s_lstL {K : PySem.W.Frag} {H : Hp} {Q : VK} {p : Addr} {xs : List V} (c : SqL K H p xs) (h : ∀ p H', H p = none → Same H H' → H' p = some (.lst xs) → Q (.ref p) H') : rLstOf K [.ref p] H Q := ⟨p, xs, rfl, .inl c, s_new (P := fun p H' => Q (.ref p) H') h⟩
theorem perm_pop {α : Type} {fs ls : List α} {k : Nat} {y : α} (h : ls[k]? = some y) : ((fs ++ [y]) ++ ls.eraseIdx k).Perm (fs ++ ls) := by
  obtain ⟨hk, e⟩ := List.getElem?_eq_some_iff.mp h
  rw [List.append_assoc]
  refine List.Perm.append_left _ ?_
  clear fs
  show (y :: ls.eraseIdx k).Perm ls
  have : ls = ls.take k ++ y :: ls.drop (k + 1) := by
    rw [← e, ← List.drop_eq_getElem_cons hk, List.take_append_drop]
  rw [List.eraseIdx_eq_take_drop_succ]
  conv => rhs; rw [this]
  exact List.perm_middle.symm
theorem PrsL.perm {H : Hp} {xs ys : List V} (p : ys.Perm xs) : ∀ {q : Row}, PrsL H xs q → ∃ q', q'.Perm q ∧ PrsL H ys q' := by
  have : ∀ {xs ys : List V}, xs.Perm ys → ∀ {q : Row}, PrsL H xs q → ∃ q', q'.Perm q ∧ PrsL H ys q' := by
    intro xs ys p
    induction p with
    | nil => exact fun h => ⟨_, .refl _, h⟩
    | cons x p ih =>
      intro q h
      cases h with
      | cons h r =>
        obtain ⟨q', p', h'⟩ := ih r
        exact ⟨_, p'.cons _, .cons h h'⟩
    | swap x y l =>
      intro q h
      cases h with
      | cons h r =>
        cases r with
        | cons h2 r => exact ⟨_, .swap .., .cons h2 (.cons h r)⟩
    | trans p1 p2 ih1 ih2 =>
      intro q h
      obtain ⟨q1, e1, h1⟩ := ih1 h
      obtain ⟨q2, e2, h2⟩ := ih2 h1
      exact ⟨q2, e2.trans e1, h2⟩
  intro q h
  exact this p.symm h
theorem text_one {z : Str} : textR [(z, 1)] = z := by
  refine ext_tl ?_
  rw [text_line, if_neg (by simp), tl_line]
  show ([partR (z, 1)].map tl).flatten = _
  rw [List.map_cons, List.flatten_cons, List.map_nil, List.flatten_nil, List.append_nil, tl_part, if_neg (show ¬ (1 : Int) < 0 by decide), tl_word, if_pos (show (1 : Int).natAbs = 1 from rfl)]
theorem can_one {z : Str} {i : Int} (h : i ≠ 0) : Can [(z, i)] := ⟨by unfold keysR; simp, fun p hp => by
  have : p = (z, i) := by simpa using hp
  rw [this]
  exact h⟩
theorem rb_one {z : Str} {i : Int} (s : symS z = true) (b : bd i) : RowB [(z, i)] := ⟨by simp, fun p hp => by
  have : p = (z, i) := by simpa using hp
  rw [this]
  exact s, fun p hp => by
  have : p = (z, i) := by simpa using hp
  rw [this]
  exact b⟩
theorem fac_one (z : Str) (i : Int) (x : Str) : fac [(z, i)] x = if z = x then i else 0 := by
  rw [fac_cons, fac_nil]
theorem fac_snoc {r : Row} {p : Str × Int} (h : (keysR (r ++ [p])).Nodup) (x : Str) : fac (r ++ [p]) x = fac r x + (if p.1 = x then p.2 else 0) := by
  have hn : p.1 ∉ keysR r := by
    unfold keysR at h
    rw [List.map_append, List.nodup_append] at h
    intro m
    exact h.2.2 p.1 m p.1 (by simp) rfl
  have e : r ++ [p] = putR r p.1 p.2 := (put_new hn).symm
  rw [e, fac_put]
  by_cases hx : p.1 = x
  · subst hx
    rw [if_pos rfl, if_pos rfl, fac_out hn, Int.zero_add]
  · rw [if_neg (fun z => hx z.symm), if_neg hx, Int.add_zero]
theorem s_read {C : Addr} {H : Hp} {Q : VK} {z : Str} {q : Row} (e : textR q = z) (c : Can q) (b : RowB q) (l : z.length ≤ 280) (k : ∀ v H', Same H H' → FormAt C H' v q → Q v H') : spRead C [.str z] H Q E0 :=
  ⟨q, by rw [e], c, b, by rw [e]; exact l, k⟩
theorem lt_dr {p l : Addr} {H : Hp} {q : Row} (d : Dr p H) (h : RwR H (.ref l) q) : l ≠ p := RwR.ne d h
end G


namespace G
open PySem PySem.Spec PyProof.Rows L2 StX ClX TL Builtin Builtin.Str
/-! ### what is shown is plain -/
theorem reprChar_asc : ∀ c < 128, (∀ d ∈ reprChar 39 c, d < 128) ∧ ∀ d ∈ reprChar 34 c, d < 128 := by
  have h : ∀ c : Fin 128, (∀ d ∈ reprChar 39 c.1, d < 128) ∧ ∀ d ∈ reprChar 34 c.1, d < 128 := by decide +kernel
  exact fun c hc => h ⟨c, hc⟩
theorem reprQuote_two (x : Str) : reprQuote x = 39 ∨ reprQuote x = 34 := by
  unfold reprQuote
  split
  · first | exact .inl rfl | exact .inr rfl
  · first | exact .inl rfl | exact .inr rfl
theorem foldl_asc {q : Nat} (hq : q = 39 ∨ q = 34) : ∀ (l : List Nat) (acc : Array Nat), (∀ c ∈ l, c < 128) → (∀ c ∈ acc.toList, c < 128) → ∀ c ∈ (l.foldl (fun out c => out ++ (reprChar q c).toArray) acc).toList, c < 128
  | [], acc, _, h => h
  | c :: l, acc, hl, h => by
    refine foldl_asc hq l _ (fun d hd => hl d (List.mem_cons_of_mem _ hd)) ?_
    intro d hd
    rw [Array.toList_append] at hd
    rcases List.mem_append.mp hd with hd | hd
    · exact h d hd
    · have hc := reprChar_asc c (hl c List.mem_cons_self)
      rcases hq with rfl | rfl
      · exact hc.1 d (by simpa using hd)
      · exact hc.2 d (by simpa using hd)
theorem asc_reprText {x : Str} (h : asc x) : asc (reprText x) := by
  intro c hc
  unfold reprText at hc
  have hq := reprQuote_two x
  have hq' : reprQuote x < 128 := by rcases hq with h | h <;> rw [h] <;> decide
  have hc : c ∈ ((x.cps.foldl (fun out c => out ++ (reprChar (reprQuote x) c).toArray) #[reprQuote x]).push (reprQuote x)).toList := hc
  rw [Array.toList_push] at hc
  rcases List.mem_append.mp hc with hc | hc
  · rw [← Array.foldl_toList] at hc
    refine foldl_asc hq _ _ h ?_ c hc
    intro d hd
    have : d = reprQuote x := by simpa using hd
    rw [this]
    exact hq'
  · have : c = reprQuote x := by simpa using hc
    rw [this]
    exact hq'
theorem asc_joinS {s : Str} (hs : asc s) : ∀ {ts : List Str}, (∀ t ∈ ts, asc t) → asc (Str.join s ts)
  | [], _ => by
    intro c hc
    exact absurd hc (by simp [Str.join, Str.empty])
  | [t], h => by
    have : Str.join s [t] = t := rfl
    rw [this]
    exact h t List.mem_cons_self
  | t :: u :: r, h => by
    have : Str.join s (t :: u :: r) = t ++ s ++ Str.join s (u :: r) := rfl
    rw [this]
    exact asc_app (asc_app (h t List.mem_cons_self) hs) (asc_joinS hs fun t ht => h t (List.mem_cons_of_mem _ ht))
theorem asc_int (i : Int) : asc (Str.ofString (toString i)) := by
  intro c hc
  have hd : ∀ n : Nat, ∀ c ∈ tl (Str.ofString (toString ((n : Nat) : Int))), c < 128 := fun n c hc => by
    rw [tl_num] at hc
    have := numL_digits _ c hc
    omega
  by_cases hi : i < 0
  · have e : Str.ofString (toString i) = Str.ofString "-" ++ Str.ofString (toString (0 - i)) := by
      refine ext_tl ?_
      rw [tl_append]
      show (Str.ofString (toString i)).cps.toList = (Str.ofString "-").cps.toList ++ (Str.ofString (toString (0 - i))).cps.toList
      rw [toString_neg hi, PySem.Str.ofString_eq_toList, PySem.Str.ofString_eq_toList, PySem.Str.ofString_eq_toList]
      simp
    have e1 : 0 - i = ((i.natAbs : Nat) : Int) := by omega
    rw [e, e1] at hc
    rw [cps_app] at hc
    rcases List.mem_append.mp hc with hc | hc
    · have h0 : asc (Str.ofString "-") := by decide +kernel
      exact h0 c hc
    · exact hd _ c hc
  · have e : i = ((i.natAbs : Nat) : Int) := by omega
    rw [e] at hc
    exact hd _ c hc
theorem shownAll_asc_strs : ∀ {zs : List Str}, (∀ z ∈ zs, asc z) → ∀ t ∈ PyData.shownAll (zs.map PyData.str), asc t
  | [], _, t, ht => by simp [PyData.shownAll] at ht
  | z :: zs, h, t, ht => by
    simp only [List.map_cons, PyData.shownAll, PyData.shown, List.mem_cons] at ht
    rcases ht with rfl | ht
    · exact asc_reprText (h z List.mem_cons_self)
    · exact shownAll_asc_strs (fun y hy => h y (List.mem_cons_of_mem _ hy)) t ht
theorem shownAll_asc_ints : ∀ {ns : List Int}, ∀ t ∈ PyData.shownAll (ns.map PyData.int), asc t
  | [], t, ht => by simp [PyData.shownAll] at ht
  | i :: ns, t, ht => by
    simp only [List.map_cons, PyData.shownAll, PyData.shown, List.mem_cons] at ht
    rcases ht with rfl | ht
    · exact asc_int i
    · exact shownAll_asc_ints t ht
theorem asc_listD {ds : List PyData} (h : ∀ t ∈ PyData.shownAll ds, asc t) : asc (PyData.list ds).shown := by
  rw [PyData.shown_list]
  exact asc_app (asc_app (by decide +kernel) (asc_joinS (by decide +kernel) h)) (by decide +kernel)
theorem asc_tupD {ds : List PyData} (h : ∀ t ∈ PyData.shownAll ds, asc t) : asc (PyData.tuple ds).shown := by
  have e : (PyData.tuple ds).shown = ("(" : Str) ++ Str.join ", " (PyData.shownAll ds) ++ (if (PyData.shownAll ds).length == 1 then ",)" else ")" : String) := rfl
  rw [e]
  refine asc_app (asc_app (by decide +kernel) (asc_joinS (by decide +kernel) h)) ?_
  split <;> decide +kernel
theorem asc_seen {q : Row} {fs : List Int} (h : Sm q) : asc (seenD q fs).shown := by
  have hka : ∀ z ∈ keysR q, asc z := fun z hz => by
    obtain ⟨p, hp, rfl⟩ := List.mem_map.mp hz
    intro c hc
    have := sym_signs (h.rb.sym p hp) c hc
    omega
  unfold seenD
  refine asc_listD ?_
  intro t ht
  simp only [PyData.shownAll, List.mem_cons, List.not_mem_nil, or_false] at ht
  rcases ht with rfl | rfl | rfl | rfl | rfl | rfl
  · exact asc_reprText (asc_text h.rb.sym)
  · exact asc_reprText (asc_repr h)
  · exact asc_tupD (shownAll_asc_strs hka)
  · simp only [PyData.shown]
    decide +kernel
  · exact asc_listD shownAll_asc_ints
  · exact asc_listD shownAll_asc_ints
end G


namespace G
open PySem PySem.Spec PyProof.Rows L2 StX ClX TL
/-! lists of pairs against [] -/
def pairD (p : Str × Int) : PyData := .tuple [.str p.1, .int p.2]
theorem dp_pairs {K : PySem.W.Frag} {H : Hp} : ∀ {xs : List V} {q : Row}, PrsL H xs q → DpAll K H xs (q.map pairD)
  | _, _, .nil => .nil
  | _, _, .cons (x := x) (i := i) h r => .cons (.tup (SqT.of h) (.cons (.str x) (.cons (.int i) .nil))) (dp_pairs r)
theorem canLay_pairs : ∀ {q : Row}, (∀ p ∈ q, asc p.1) → PyData.canLayAll0 (q.map pairD) = true ∧ PyData.depthAll (q.map pairD) ≤ 1
  | [], _ => ⟨rfl, by simp [PyData.depthAll]⟩
  | p :: q, h => by
    obtain ⟨a, b⟩ := canLay_pairs (q := q) fun y hy => h y (by simp [hy])
    have h0 := ok_asc (h p (by simp))
    constructor
    · simp only [List.map_cons, pairD, PyData.canLayAll0, PyData.canLay0, h0, a, Bool.and_true, Bool.and_self]
    · simp only [List.map_cons, pairD, PyData.depthAll, PyData.depth]
      have : PyData.depthAll (q.map pairD) ≤ 1 := b
      simp
      omega
theorem eqv_nilP (q : Row) : PyData.eqv (.list (q.map pairD)) (.list []) = decide (q = []) := by
  cases q with
  | nil => decide +kernel
  | cons z zs => first | rfl | (simp [PyData.eqv]; done) | decide
theorem s_neNilP {K : PySem.W.Frag} {H : Hp} {Q : VK} {a b : Addr} {xs : List V} {q : Row} (e : H a = some (.lst xs)) (pr : PrsL H xs q) (f : H b = some (.lst [])) (ha : ∀ p ∈ q, asc p.1) (h : Q (.bl (!decide (q = []))) H) : rNeD K (.ref a) (.ref b) H Q := by
  refine ⟨_, _, .lst (SqL.of e) (dp_pairs pr), .lst (SqL.of f) .nil, ?_, rfl, by rw [eqv_nilP]; exact h⟩
  obtain ⟨x, y⟩ := canLay_pairs ha
  show (PyData.canLayAll0 (q.map pairD) && decide (PyData.depthAll (q.map pairD) + 1 ≤ 64)) = true
  rw [x, Bool.true_and]
  exact decide_eq_true (by omega)
/-! repr of bools -/
theorem showable_bls : ∀ {bs : List Bool}, PyData.showableAll (bs.map PyData.bool) = true
  | [] => by simp [PyData.showableAll]
  | z :: zs => by simp only [List.map_cons, PyData.showableAll, PyData.showable, showable_bls (bs := zs), Bool.and_true]
theorem noDict_bls : ∀ {bs : List Bool}, PyData.hasDictAll (bs.map PyData.bool) = false
  | [] => by simp [PyData.hasDictAll]
  | z :: zs => by simp only [List.map_cons, PyData.hasDictAll, PyData.hasDict, noDict_bls (bs := zs), Bool.or_false]
theorem depth_bls : ∀ {bs : List Bool}, PyData.depthAll (bs.map PyData.bool) = 0
  | [] => by simp [PyData.depthAll]
  | z :: zs => by simp only [List.map_cons, PyData.depthAll, PyData.depth, depth_bls (bs := zs), Nat.max_self]
theorem shown_bls : ∀ {bs : List Bool}, ((PyData.shownAll (bs.map PyData.bool)).map (·.length)).sum ≤ 5 * bs.length
  | [] => by simp [PyData.shownAll]
  | b :: bs => by
    have h2 := shown_bls (bs := bs)
    have h1 : (if b = true then ("True" : Str) else "False").length ≤ 5 := by cases b <;> decide +kernel
    simp only [List.map_cons, PyData.shownAll, PyData.shown, List.sum_cons, List.length_cons]
    omega
theorem s_reprBs {K : PySem.W.Frag} {H : Hp} {Q : VK} {a : Addr} {bs : List Bool} (c : H a = some (.lst (bs.map V.bl))) (hl : bs.length ≤ 1000) (h : Q (.str (bsD bs).shown) H) : rRepr K [.ref a] H Q := by
  refine ⟨a, bsD bs, rfl, .lst (SqL.of c) dp_bls, ?_, ?_, ?_, sz1 ?_, h⟩
  · unfold bsD
    rw [PyData.showable]
    exact showable_bls
  · unfold bsD
    rw [PyData.hasDict]
    exact noDict_bls
  · unfold bsD
    rw [PyData.depth, depth_bls]
    decide
  · unfold bsD
    rw [PyData.shown]
    have h1 := listText_len_le (PyData.shownAll (bs.map PyData.bool))
    have h2 := shown_bls (bs := bs)
    have h3 := PyData.shownAll_length (bs.map PyData.bool)
    rw [List.length_map] at h3
    omega
/-! texts of six terms -/
theorem text_280 {q : Row} (c : Can q) (rb : RowB q) (hl : q.length ≤ 6) (hb : Fb (10 ^ 31 - 1) q) : (textR q).length ≤ 280 := by
  have part : ∀ p ∈ q, (partR p).length ≤ 43 ∧ (tailR p).length ≤ 43 := by
    intro p hp
    have s := rb.sym p hp
    have l1 := (sym_len s).2
    have hb := hb p.1
    rw [fac_mem c.nodup hp] at hb
    have l2 : (numL p.2.natAbs).length ≤ 31 := numL_len (by decide) (Nat.lt_of_le_of_lt hb (by decide +kernel))
    have lw : (wordR p).length ≤ 40 := by
      rw [len_tl, tl_word]
      rw [len_tl] at l1
      split
      · omega
      · rw [List.length_append, List.length_cons]
        omega
    have h1 : ("-" : Str).length = 1 := by decide +kernel
    have h2 : (" - " : Str).length = 3 := by decide +kernel
    have h3 : (" + " : Str).length = 3 := by decide +kernel
    unfold partR tailR
    constructor <;> split <;> first | (simp only [len_lit]; omega) | omega
  rw [text_line]
  split
  · decide +kernel
  · unfold lineR
    rw [len_join]
    have ht : ∀ l : Row, (∀ p ∈ l, (tailR p).length ≤ 43) → ((l.map tailR).map (·.length)).sum ≤ 43 * l.length := by
      intro l
      induction l with
      | nil => intro _; simp
      | cons a l ih =>
        intro hl
        have := ih fun p hp => hl p (List.mem_cons_of_mem _ hp)
        have h2 := hl a List.mem_cons_self
        simp only [List.map_cons, List.sum_cons, List.length_cons]
        omega
    cases q with
    | nil => simp [wordsR]
    | cons p q =>
      have h0 := (part p List.mem_cons_self).1
      have h1 := ht q fun p' hp' => (part p' (List.mem_cons_of_mem _ hp')).2
      simp only [wordsR, List.map_cons, List.sum_cons, List.length_cons] at hl ⊢
      omega
theorem text_inj {q r : Row} (cq : Can q) (cr : Can r) (sq : ∀ p ∈ q, symS p.1 = true) (sr : ∀ p ∈ r, symS p.1 = true) (h : textR q = textR r) : q = r := by
  have h1 := rawF_text cq sq
  rw [h, rawF_text cr sr] at h1
  cases h1
  rfl
end G


namespace G
open PySem PySem.Spec PyProof.Rows L2 StX ClX TL
theorem s_par2E {σ σ' : L2.St} {H : Hp} {a b : Nat} {v w : V} {N : L2.St → Hp → Prop} (e : (σ.set a (some v)).set b (some w) = σ') (h : N σ' H) : ∃ v' w', [v, w] = [v', w'] ∧ N ((σ.set a (some v')).set b (some w')) H := ⟨v, w, rfl, by rw [e]; exact h⟩
theorem s_par3E {σ σ' : L2.St} {H : Hp} {a b c : Nat} {u v w : V} {N : L2.St → Hp → Prop} (e : ((σ.set a (some u)).set b (some v)).set c (some w) = σ') (h : N σ' H) : ∃ u' v' w', [u, v, w] = [u', v', w'] ∧ N (((σ.set a (some u')).set b (some v')).set c (some w')) H := ⟨u, v, w, rfl, by rw [e]; exact h⟩
/-- a drawn row of the law k02 -/
structure Rw2 (zs : List Str) (q : Row) : Prop where
  can : Can q
  fb : Fb (10 ^ 30 + 7) q
  len : q.length ≤ 6
  sub : ∀ x ∈ keysR q, x ∈ zs
theorem Rw2.rb {zs : List Str} {q : Row} (h : Rw2 zs q) (hs : ∀ z ∈ zs, symS z = true) : RowB q :=
  ⟨by have := h.len; omega, fun p hp => hs _ (h.sub _ (mem_keys hp)), fun p hp => by
    have := h.fb p.1
    rw [fac_mem h.can.nodup hp] at this
    exact Nat.lt_of_le_of_lt this (by decide +kernel)⟩
theorem Rw2.sm {zs : List Str} {q : Row} (h : Rw2 zs q) (hs : ∀ z ∈ zs, symS z = true) : Sm q := ⟨h.can, h.rb hs, by have := h.len; omega, h.fb.mono (by decide +kernel)⟩
/-- its first factor changed -/
theorem Rw2.head {zs : List Str} {x : Str} {i j : Int} {q : Row} (h : Rw2 zs ((x, i) :: q)) (hj : j ≠ 0) (hb : j.natAbs ≤ 10 ^ 30 + 7) : Rw2 zs ((x, j) :: q) := by
  refine ⟨⟨h.can.asc, fun p hp => ?_⟩, fun y => ?_, h.len, h.sub⟩
  · rcases List.mem_cons.mp hp with rfl | hp
    · exact hj
    · exact h.can.nz p (List.mem_cons_of_mem _ hp)
  · have h1 := h.fb y
    rw [fac_cons] at h1 ⊢
    by_cases e : x = y
    · simp only [e, if_true]
      exact hb
    · simp only [e, if_false] at h1 ⊢
      exact h1
theorem no_sym {q : Row} (hs : ∀ p ∈ q, symS p.1 = true) {z : Str} (h : symS z = false) : fac q z = 0 := by
  refine fac_out fun m => ?_
  obtain ⟨p, hp, e⟩ := List.mem_map.mp m
  have := hs p hp
  rw [e, h] at this
  cases this
theorem sym_blank (z : Str) : symS (z ++ Str.ofString " ") = false := by
  cases e : symS (z ++ Str.ofString " ") with
  | false => rfl
  | true =>
    have h := sym_signs e 32 (by rw [tl_append]; exact List.mem_append_right _ (by decide +kernel))
    omega
theorem ixN_0 {n : Nat} : ixN (n + 1) 0 = some 0 := by
  unfold ixN
  rw [if_pos (Int.le_refl 0), if_pos (by omega)]
  rfl
end G


namespace G
open PySem PySem.Spec PyProof.Rows L2 StX ClX TL
/-! ### repr of a thing -/
inductive DpT (K : PySem.W.Frag) (H : Hp) : V → PyData → Prop where
  | of {v : V} {d : PyData} (h : Dp K H v d) (n : d.hasDict = false) : DpT K H v d
  | dct {a : Addr} {kvs : List (Str × Str)} (h : H a = some (.dK (kvs.map fun p => ((Sum.inr p.1 : Key), V.str p.2)))) : DpT K H (.ref a) (.dict (kvs.map fun p => (.str p.1, .str p.2)))
theorem pairs_reads {P : Program} {w : World} {h : Heap} : ∀ {l : List DictEntry} {kvs : List (Str × Str)} {vs : List (Key × Value)}, Pairs (mixKind P w) l vs → KV (kvs.map fun p => ((Sum.inr p.1 : Key), V.str p.2)) vs →
    ReadsAll h (l.map (·.key)) ((kvs.map fun p => ((PyData.str p.1, PyData.str p.2) : PyData × PyData)).map (·.1)) [] ∧ ReadsAll h (l.map (·.val)) ((kvs.map fun p => ((PyData.str p.1, PyData.str p.2) : PyData × PyData)).map (·.2)) []
  | _, [], _, .nil, _ => ⟨.nil, .nil⟩
  | _, p :: r, _, .nil, hk => by cases hk
  | _, [], _, .cons (kv := kv) h1 h2 h3, hk => by cases hk
  | _, p :: r, _, .cons (kv := kv) h1 h2 h3, hk => by
    cases hk with
    | cons a b =>
      obtain ⟨a1, a2⟩ := a
      have a1 : Sum.inr p.1 = kv.1 := a1
      rw [← a1] at h1
      obtain ⟨t, et⟩ := isStrOf_at (x := p.1) h1
      obtain ⟨u, eu⟩ : ∃ u, kv.2 = .str p.2 u := a2
      obtain ⟨q1, q2⟩ := pairs_reads (h := h) h3 b
      refine ⟨?_, ?_⟩
      · rw [List.map_cons, List.map_cons, List.map_cons, et]
        exact ReadsAll.cons (.str p.1 t) q1
      · rw [List.map_cons, List.map_cons, List.map_cons, h2, eu]
        exact ReadsAll.cons (.str p.2 u) q2
def rReprT (K : PySem.W.Frag) : RC := fun xs H Q => ∃ (x : V) (d : PyData), xs = [x] ∧ DpT K H x d ∧ d.showable = true ∧ d.depth ≤ 60 ∧ d.shown.length ≤ sizeLine ∧ Q (.str d.shown) H
theorem reprTK {X : Cx} (K : PySem.W.Frag) (h : X.K = K := by rfl) (hgd : Gd X.A) (hu : X.A.units + 64 < cLine) : CallR X (.builtin "repr") (rReprT K) := by
  subst h
  intro pins s σ H xs us Q I r h
  obtain ⟨x, d, rfl, hd, h1, h3, h4, q⟩ := h
  cases r with
  | cons r0 rr =>
    cases rr
    cases hd with
    | of hd h2 =>
      cases hd with
      | non =>
        cases r0
        exact PySem.P.repr_of_none ⟨.str _, H, I.tok _, ⟨_, rfl⟩, by simpa [PyData.shown] using q⟩
      | bl b =>
        cases r0
        exact PySem.P.repr_of_bool ⟨.str _, H, I.tok _, ⟨_, rfl⟩, by simpa [PyData.shown] using q⟩
      | int i =>
        obtain ⟨t, rfl⟩ := r0
        exact PySem.P.repr_of_int (by simpa [PyData.showable] using h1) ⟨.str _, H, I.tok _, ⟨_, rfl⟩, by simpa [PyData.shown] using q⟩
      | str z =>
        obtain ⟨t, rfl⟩ := r0
        exact PySem.P.repr_of_str ⟨.str _, H, I.tok _, ⟨_, rfl⟩, by simpa [PyData.shown] using q⟩ (by simpa [PyData.shown] using h4)
      | @lst a xs ds hl ha =>
        obtain rfl : _ = Value.ref a := r0
        obtain ⟨as, rd⟩ := Dp.reads I _ _ _ (Dp.lst hl ha) rfl
        exact repr_of_reads' rd h1 (PyData.noDict_hsm h2) hgd (by omega) (fun _ _ e => e) (fun h' u tk hk => ⟨.str _, H, I.kept hk, ⟨_, rfl⟩, q⟩) h4
      | @tup a xs ds hl ha =>
        obtain rfl : _ = Value.ref a := r0
        obtain ⟨as, rd⟩ := Dp.reads I _ _ _ (Dp.tup hl ha) rfl
        exact repr_of_reads' rd h1 (PyData.noDict_hsm h2) hgd (by omega) (fun _ _ e => e) (fun h' u tk hk => ⟨.str _, H, I.kept hk, ⟨_, rfl⟩, q⟩) h4
    | @dct a kvs ha =>
      obtain rfl : _ = Value.ref a := r0
      obtain ⟨z, hsys, vs, rk, o, es, ep, ho, hx, hdat, _, hpr, _⟩ := dk_of I.hok ha
      obtain ⟨q1, q2⟩ := pairs_reads (h := s.heap) hpr rk
      have rd : Reads s.heap (.ref a) (.dict (kvs.map fun p => (PyData.str p.1, PyData.str p.2))) ([a] ++ [] ++ []) := Reads.dict ho hx.1 hdat q1 q2
      refine repr_of_reads' rd h1 (fun _ m => ?_) hgd (by omega) (fun _ _ e => e) (fun h' u tk hk => ⟨.str _, H, I.kept hk, ⟨_, rfl⟩, q⟩) h4
      have : sysModules = a := by simpa using m
      rw [this] at hsys
      simp at hsys
/-! ### own errors -/
/-- what the written part says of an error's class -/
structure ErrC (K : PySem.W.Frag) (mg : Str → Option Value) (nm f : Str) (C : Addr) : Prop where
  gl : mg nm = some (.ref C)
  oe : OexC K C
  ga : PySem.W.findIn K (.ref C) "__getattribute__" = some (some (.builtin "BaseException.__getattribute__"))
  gg : PySem.W.findIn K (.ref C) "__getattr__" = some none
  hd : PySem.W.hasDictIn K C = true
  no : PySem.W.findIn K (.ref C) f = some none
  ic : PySem.W.isClsIn K C = true
  ha : PySem.W.findIn K (.ref C) "__class__" = some (some (.builtin "object.__class__"))
  hn : PySem.W.specialIn K (.builtin "object.__class__") "__get__" = some (some (.builtin "getset_descriptor.__get__"))
  ht : PySem.W.takesIn K (.builtin "object.__class__") = some true
  hm : PySem.W.mroIn K C (.type "object") = some true
  self : PySem.W.subIn K (.ref C) (.ref C) = some true
def AtE (K : PySem.W.Frag) (mg : Str → Option Value) (nm f : Str) (C : Addr) (q : Str) (st : Stmt) : Prop :=
  ErrC K mg nm f C ∧ ∃ (fI : Addr) (fd : FuncData), Fun K "__init__" q st fI fd ∧ PySem.W.findIn K (.ref C) "__init__" = some (some (.ref fI)) ∧ PySem.W.typeIn K (.ref fI) = some (.type "function")
def spErrInit (C : Addr) (f : Str) : Sp := fun vs H Q _ => ∃ (a : Addr) (y : V), vs = [.ref a, y] ∧ H a = some (exo a C none) ∧ ∀ dx, H dx = none → dx ≠ a → Q .non (upd (upd H dx (exd dx [(f, y)])) a (exo a C (some dx)))
def HasE (P : Program) (w : World) (K : PySem.W.Frag) (mg : Str → Option Value) (base : Heap) (nm f : Str) (C : Addr) (k : Nat) : Prop :=
  ErrC K mg nm f C ∧ ∃ (fI : Addr) (fd : FuncData) (ps : List Str), PySem.W.findIn K (.ref C) "__init__" = some (some (.ref fI)) ∧ PySem.W.typeIn K (.ref fI) = some (.type "function") ∧ Binds K fd ps [] ∧ Fg P w K mg base CX0 k fI fd ps (spErrInit C f)
section
variable {P : Program} {w : World} {K : PySem.W.Frag} {mg : Str → Option Value} {base : Heap}
theorem hasE_mk {nm f q : Str} {C : Addr} {st : Stmt} {N : List Str} {x1 x2 : Str} (D : AtE K mg nm f C q st)
    (S : FnScope N [x1, x2] (defScope st)) (h0 : N[0]? = some x1) (h1 : N[1]? = some x2)
    (hbi : ∀ (kV doc pm : Value) (an : Option Addr) (cdv ct : Value) (us : List Value), us.length = 2 →
      bindArgs (PySem.W.fnOf "__init__" q (defArgs st) (defBody st) (defScope st) .none kV doc pm an cdv ct) ⟨us, []⟩ = pure ([x1, x2].zip us))
    (hb : ∀ (g : Addr) (cdv : Value) (A : Around) (outer : List Env) (s : Shared) (H : Hp) (vs : List V) (Q : VK) (E : XK),
      Room 0 (A.deeper (envOfC q (defScope st) s.heap.objs.size g cdv)) → Gd (A.deeper (envOfC q (defScope st) s.heap.objs.size g cdv)) →
      spErrInit C f vs H Q E → ∃ t, PSs (cxOf CX0 P w K mg base N q (defScope st) g cdv A outer s H E).nox (defBody st) t ∧
        t { nx := fun _ H' => Q .non H', rt := Q } (start N vs) H) :
    HasE P w K mg base nm f C 1 := by
  obtain ⟨ec, fI, fd, F, iC, tI⟩ := D
  exact ⟨ec, fI, fd, [x1, x2], iC, tI, F.binds (ps := [x1, x2]) hbi, ok0 F S (fun vs H Q E h => by obtain ⟨a, y, rfl, _⟩ := h; rfl) fun cdv A outer s H vs Q E hr hg h => hb fI cdv A outer s H vs Q E hr hg h⟩
end
end G


namespace G
open PySem PySem.Spec PyProof.Rows L2 StX ClX TL
section
variable {X : Cx} {nm f : Str} {C : Addr} {k : Nat} {e : Expr} {ta : TA} {p pos pos2 : Pos} {W : WX}
/-- nm(e), an own error -/
def tMkE (C : Addr) (f : Str) (ta : TA) : L2.St → Hp → XK → Prop := fun σ H Q => ta σ H fun vs H1 => ∃ y, vs = [y] ∧ ∀ d, H1 d = none → Q (.ref C) (some d) (upd H1 d (.xd [(f, y)]))
theorem pmk_err (h : HasE X.prog X.w X.K X.mg X.base nm f C k) (hr : Room (k + 1) X.A) (hgd : Gd X.A) (hg : Gl X nm) (ha : PA X [e] ta)
    (hdb : (nm == ("__debug__" : Str)) = false := by decide) (hst : starEach (e :: []) X.env = (false, eval e X.env) :: starEach [] X.env := by rfl) (hpl : (backTo pos (starEach [] X.env)).any (·.1) = false := by rfl) :
    PMk X (.Call (.Name nm p) [e] [] pos) (tMkE C f ta) := by
  obtain ⟨ec, fI, fd, ps, iC, tI, hb, F1⟩ := h
  intro pins s σ H Q I h
  have T := ec.oe
  obtain ⟨nm', q, N, bs, bm, sn, sub, ab, col, dd, k0, k1, k2, k3, k5, hC, hbm⟩ := T.cls
  refine wpAny_Call_Name_kw (ld_glob I hg ec.gl ?_ hdb)
  refine PySem.W.callWith_K (h₀ := X.base) I.ok.mod.kin T.kC (thn (ha.run pos pins s σ H _ I h) fun us s1 hh => ?_) hst hpl
  obtain ⟨vs, H1, I1, r1, y, rfl, q1⟩ := hh
  refine ⟨I1.kIn, ?_⟩
  cases r1 with
  | @cons _ u _ ur ry rn =>
  cases rn
  show wpAny _ _ (call (.ref C) [u]) _ _ _
  obtain ⟨hp, g, dr, tk, os⟩ := s1
  have hsz : hp.objs.size ≤ hp.objs.size + 1 := Nat.le_succ _
  have hn : H1 (hp.objs.size + 1) = none := I1.hok.fresh hsz
  have kk : ∀ b o, hp.get? b = some o → ((hp.push (PySem.W.kdv_tup [u])).push (PySem.HandSPX.excO C hp.objs.size)).get? b = some o := fun b o e => Heap.get?_push_of_some _ (Heap.get?_push_of_some _ e)
  have hget : ((hp.push (PySem.W.kdv_tup [u])).push (PySem.HandSPX.excO C hp.objs.size)).get? (hp.objs.size + 1) = some (PySem.HandSPX.excO C hp.objs.size) := by heap_get
  have I2 : Inv X pins σ (upd H1 (hp.objs.size + 1) (exo (hp.objs.size + 1) C none)) ⟨(hp.push (PySem.W.kdv_tup [u])).push (PySem.HandSPX.excO C hp.objs.size), g, dr, tk, os⟩ :=
    I1.laid (t' := tk) (a := hp.objs.size + 1) (o := exo (hp.objs.size + 1) C none) (h' := (hp.push (PySem.W.kdv_tup [u])).push (PySem.HandSPX.excO C hp.objs.size)) kk hsz (exo_ok hget)
  have r2 : Vals [V.ref (hp.objs.size + 1), y] [Value.ref (hp.objs.size + 1), u] := .cons rfl (.cons ry .nil)
  have gd2 : Gd (X.A.under (.builtin "type.__call__" ⟨.ref C :: [u], []⟩)) := by
    unfold Gd at hgd ⊢
    first | exact hgd | simpa [Around.under, Code.guards, Code.isGuard, pushGuards, guardIds] using hgd
  have hus : [u].length ≤ sizeLine := sz1 (by simp)
  have hq : spErrInit C f [.ref (hp.objs.size + 1), y] (upd H1 (hp.objs.size + 1) (exo (hp.objs.size + 1) C none)) (fun v H2 => v = .non ∧ ∃ (d : Addr), H1 d = none ∧ d ≠ hp.objs.size + 1 ∧ H2 = upd (upd (upd H1 (hp.objs.size + 1) (exo (hp.objs.size + 1) C none)) d (exd d [(f, y)])) (hp.objs.size + 1) (exo (hp.objs.size + 1) C (some d))) E0 :=
    ⟨_, y, rfl, upd_same, fun dx hdx ne => ⟨rfl, dx, by rw [upd_ne ne] at hdx; exact hdx, ne, rfl⟩⟩
  have hl : [V.ref (hp.objs.size + 1), y].length = ps.length := F1.len _ _ _ _ hq
  have bb := hb ⟨(hp.push (PySem.W.kdv_tup [u])).push (PySem.HandSPX.excO C hp.objs.size), g, dr, tk, os⟩ [Value.ref (hp.objs.size + 1), u] I2.kIn (by simpa using hl)
  rw [List.append_nil] at bb
  refine wpAny_call (PySem.HandSPX.call_own F.excBase_ValueError (fun Y => PySem.HandSPX.refsVE_contains Y bm hbm) (I1.kIn _ _ hC) (PySem.W.looks_findIn I1.kIn iC) (fun self => PySem.W.bind_fn I1.kIn self tI) hus
    (codeAny_mono (F1.go _ X.stack _ _ ⟨[Value.ref (hp.objs.size + 1), u], []⟩ [Value.ref (hp.objs.size + 1), u] _ _ E0 (hr.make C [u] []) gd2 (I2.env0.make C [u] []) bb r2 hq) fun r s' hq' => ?_))
  cases r with
  | error er => exact hq'.elim
  | ok fl =>
    cases fl with
    | ret u =>
      obtain ⟨v, H2, os2, bare2, un2, hok2, rv, ev, d, hd1, ned, eH⟩ := hq'
      subst ev
      obtain ⟨h2, g2, d2, t2, os'⟩ := s'
      have ea : H2 (hp.objs.size + 1) = some (exo (hp.objs.size + 1) C (some d)) := by rw [eH, upd_same]
      have ed : H2 d = some (exd d [(f, y)]) := by rw [eH, upd_ne ned, upd_same]
      refine ⟨rv, mk_end (Q := Q) (raises_own T.exC T.tyC) I1 hsz kk un2 hok2 os2 bare2 ea ed hd1 ?_⟩
      have e : upd (del H2 (hp.objs.size + 1)) d (.xd [(f, y)]) = upd H1 d (.xd [(f, y)]) := by
        funext b
        by_cases h1 : b = d
        · rw [h1, upd_same, upd_same]
        · rw [upd_ne h1, upd_ne h1]
          by_cases h2 : b = hp.objs.size + 1
          · rw [h2, del_same, hn]
          · rw [del_ne h2, eH, upd_ne h2, upd_ne h1, upd_ne h2]
      rw [e]
      exact q1 d hd1
    | next => exact False.elim hq'
    | brk => exact False.elim hq'
    | cont => exact False.elim hq'
/-- raise nm(e) -/
def tRaiseE (C : Addr) (f : Str) (W : WX) (ta : TA) : TS := fun _ σ H => ta σ H fun vs H1 => ∃ y, vs = [y] ∧ ∀ d, H1 d = none → W (.ref C) (some d) σ (upd H1 d (.xd [(f, y)]))
theorem ps_raiseE (hc : X.calm = true) (h : HasE X.prog X.w X.K X.mg X.base nm f C k) (hr : Room (k + 1) X.A) (hgd : Gd X.A) (tk : Takes X W) (hg : Gl X nm) (ha : PA X [e] ta)
    (hdb : (nm == ("__debug__" : Str)) = false := by decide) (hst : starEach (e :: []) X.env = (false, eval e X.env) :: starEach [] X.env := by rfl) (hpl : (backTo pos (starEach [] X.env)).any (·.1) = false := by rfl) :
    PS X (.Raise (some (.Call (.Name nm p) [e] [] pos)) none pos2) (tRaiseE C f W ta) := ps_raise hc tk (pmk_err h hr hgd hg ha hdb hst hpl)
end
end G


namespace G
open PySem PySem.Spec PyProof.Rows L2 StX ClX TL
/-! ### defs that may raise -/
section
variable {P : Program} {w : World} {K : PySem.W.Frag} {mg : Str → Option Value} {base : Heap}
theorem ok0X {x qual : Str} {st : Stmt} {f : Addr} {fd : FuncData} {N ps : List Str} {k : Nat} {sp : Sp}
    (F : Fun K x qual st f fd) (S : FnScope N ps (defScope st)) (len : ∀ vs H Q E, sp vs H Q E → vs.length = ps.length)
    (hb : ∀ (cdv : Value) (A : Around) (outer : List Env) (s : Shared) (H : Hp) (vs : List V) (Q : VK) (E : XK),
      Room k (A.deeper (envOfC qual (defScope st) s.heap.objs.size f cdv)) → Gd (A.deeper (envOfC qual (defScope st) s.heap.objs.size f cdv)) →
      sp vs H Q E → ∃ t, PSs (cxOf (L2.CX P w) P w K mg base N qual (defScope st) f cdv A outer s H E) (defBody st) t ∧
        t { nx := fun _ H' => Q .non H', rt := Q } (start N vs) H) :
    Fg P w K mg base (L2.CX P w) (k + 1) f fd ps sp := by
  obtain ⟨oc, od, kV, doc, pm, an, cdv, ct, osl, rfl, lk, hcd⟩ := F.ex
  exact fg_of lk hcd S len fun A outer s H vs Q E hr hg hsp => hb cdv A outer s H vs Q E hr hg hsp
/-- what such a def's body may let out -/
theorem takesX {N : List Str} {q : Str} {sc : Scope} {f : Addr} {cdv : Value} {A : Around} {outer : List Env} {s : Shared} {H : Hp} {E : XK} : Takes (cxOf (L2.CX P w) P w K mg base N q sc f cdv A outer s H E) (fun cls d _ H => E cls d H) :=
  takes_of rfl rfl rfl rfl
structure HasSX0 (P : Program) (w : World) (K : PySem.W.Frag) (mg : Str → Option Value) (base : Heap) (C : Addr) (m : Str) (ps : List Str) (k : Nat) (sp : Sp) (f : Addr) (fd : FuncData) : Prop where
  me : ∃ mc p, CRead K C mc ∧ SMet K C mc m p f
  bi : Binds K fd ps []
  ok : Fg P w K mg base (L2.CX P w) k f fd ps sp
def HasSX (P : Program) (w : World) (K : PySem.W.Frag) (mg : Str → Option Value) (base : Heap) (C : Addr) (m : Str) (st : Stmt) (ps : List Str) (k : Nat) (sp : Sp) : Prop := ∃ f fd q, Fun K m q st f fd ∧ HasSX0 P w K mg base C m ps k sp f fd
theorem hasSX_mk {C : Addr} {m q : Str} {st : Stmt} {N ps : List Str} {k : Nat} {sp : Sp} (D : AtS K C m q st)
    (S : FnScope N ps (defScope st)) (len : ∀ vs H Q E, sp vs H Q E → vs.length = ps.length)
    (hbi : ∀ (kV doc pm : Value) (an : Option Addr) (cdv ct : Value) (us : List Value), us.length = ps.length →
      bindArgs (PySem.W.fnOf m q (defArgs st) (defBody st) (defScope st) .none kV doc pm an cdv ct) ⟨us, []⟩ = pure (ps.zip us))
    (hb : ∀ (f : Addr) (cdv : Value) (A : Around) (outer : List Env) (s : Shared) (H : Hp) (vs : List V) (Q : VK) (E : XK),
      Room k (A.deeper (envOfC q (defScope st) s.heap.objs.size f cdv)) → Gd (A.deeper (envOfC q (defScope st) s.heap.objs.size f cdv)) →
      sp vs H Q E → ∃ t, PSs (cxOf (L2.CX P w) P w K mg base N q (defScope st) f cdv A outer s H E) (defBody st) t ∧
        t { nx := fun _ H' => Q .non H', rt := Q } (start N vs) H) :
    HasSX P w K mg base C m st ps (k + 1) sp := by
  obtain ⟨f, fd, F, hm⟩ := D
  exact ⟨f, fd, q, F, hm, F.binds hbi, ok0X F S len fun cdv A outer s H vs Q E hr hg h => hb f cdv A outer s H vs Q E hr hg h⟩
end
section
variable {X : Cx} {CX : CXT} {k : Nat} {f C : Addr} {fd : FuncData} {ps ks : List Str} {sp : Sp} {E : XK} {x m : Str} {p pos apos : Pos} {e o : Expr} {es : List Expr} {kws : List Keyword} {ta : TE} {t tk : TA} {st : Stmt} {W : WX}
/-- the callee runs; what it raises is wished for at the slots -/
theorem runGS {pins : List (Addr × Obj)} {σ : L2.St} {H : Hp} {s : Shared} {Q : VK} {us : List Value}
    {kw : List (Str × Value)} {us' : List Value} {vs' : List V}
    (F : Fg X.prog X.w X.K X.mg X.base CX k f fd ps sp) (hr : Room k X.A) (hgd : Gd X.A) (hx : PassesAt CX X σ E)
    (I : Inv X pins σ H s) (hb : us'.length = ps.length → BindsTo s fd ⟨us, kw⟩ (ps.zip us')) (r : Vals vs' us')
    (h : sp vs' H Q E) : wpAny (model X.prog X.w) X.A (call (.ref f) us kw) (EP X pins σ Q) X.xe s := by
  have hl : us'.length = ps.length := r.length.symm.trans (F.len _ _ _ _ h)
  apply wpAny_call
  apply codeAny_mono (F.go X.A X.stack s H ⟨us, kw⟩ us' vs' Q E hr hgd I.env0 (hb hl) r h)
  intro rs s' hq
  cases rs with
  | error e => exact hx pins H s e s' I hq
  | ok fl => cases fl with
    | ret u => exact I.after hq
    | next => exact hq.elim
    | brk => exact hq.elim
    | cont => exact hq.elim
def tSMethX (C : Addr) (sp : Sp) (W : WX) (ta : TE) (t : TA) : TE := fun σ H Q => ta σ H fun x H1 => x = .ref C ∧ t σ H1 fun vs H2 => sp (vs ++ []) H2 Q fun cls d H' => W cls d σ H'
/-- C.m(e, ..), m a staticmethod that may raise -/
theorem peHSX {pl : Sem Bool} (h : HasSX X.prog X.w X.K X.mg X.base C m st ps k sp) (tk : Takes X W) (hr : Room k X.A) (hgd : Gd X.A) (he : PE X o ta) (ha : PA X (e :: es) t)
    (hst : starEach (e :: es) X.env = (false, eval e X.env) :: starEach es X.env := by rfl)
    (hpl : (backTo pos (starEach es X.env)).any (·.1) = false := by rfl)
    (ht : eval (.Call (.Attribute o m apos) (e :: es) [] pos) X.env = (do
      let ov ← eval o X.env
      standAt apos.atName
      let (f, first) ← holding [ov] (getMethod ov m pl)
      callWith pos f first (backTo pos (starEach (e :: es) X.env)) (backToKw pos (keywordEach [] X.env))) := by rfl) :
    PE X (.Call (.Attribute o m apos) (e :: es) [] pos) (tSMethX C sp W ta t) := by
  obtain ⟨f, fd, q, _, ⟨⟨mc, p, r, c⟩, hb, F⟩⟩ := h
  constructor
  intro pins s σ H Q I h
  refine PySem.W.methodCall_KW (pl := pl) (thn (he.run pins s σ H _ I h) ?_) ht
  rintro u s1 ⟨x, H1, I1, rx, ex, q⟩
  subst ex
  obtain rfl : u = Value.ref C := rx
  obtain ⟨rest, hp⟩ := c.rc
  refine PySem.W.method_cls I1.kIn r.ga (PySem.W.cls_bind I1.kIn r.rd c.at_ ?_)
  refine wpAny_call (PySem.W.sm_get (s := { s1 with toks := s1.toks + 1 }) I1.kIn hp (PySem.W.handed_on c.hd ?_))
  have I2 := I1.tok (s1.toks + 1)
  refine PySem.W.callWith_K (first := []) (h₀ := X.base) I.ok.mod.kin c.kp (thn (ha.run pos pins _ σ H1 _ I2 q) ?_) hst hpl
  rintro us s2 ⟨vs, H2, I3, rv, q2⟩
  exact ⟨I3.kIn, runGS (us := us) F hr hgd (passAt tk σ) I3 (fun hl => hb s2 us I3.kIn hl) (rv.append .nil) q2⟩
theorem peHSZX {pl : Sem Bool} (h : HasSX X.prog X.w X.K X.mg X.base C m st ps k sp) (tkx : Takes X W) (hr : Room k X.A) (hgd : Gd X.A) (he : PE X o ta) (hkw : PK X kws tk)
    (hb : ∀ (q : Str) (kV doc pm : Value) (an : Option Addr) (cdv ct : Value) (ws : List Value), ws.length = ps.length →
      bindArgs (PySem.W.fnOf m q (defArgs st) (defBody st) (defScope st) .none kV doc pm an cdv ct) ⟨[], ks.zip ws⟩ = pure (ps.zip ws))
    (hall : (backToKw pos (keywordEach kws X.env)).all (·.1.isSome) = true := by rfl)
    (hks : (backToKw pos (keywordEach kws X.env)).filterMap (·.1) = ks := by rfl)
    (hpl : ((backTo pos (starEach [] X.env)).any (·.1) || (backToKw pos (keywordEach kws X.env)).any (·.1.isNone)) = false := by rfl)
    (ht : eval (.Call (.Attribute o m apos) [] kws pos) X.env = (do
      let ov ← eval o X.env
      standAt apos.atName
      let (f, first) ← holding [ov] (getMethod ov m pl)
      callWith pos f first (backTo pos (starEach [] X.env)) (backToKw pos (keywordEach kws X.env))) := by rfl) :
    PE X (.Call (.Attribute o m apos) [] kws pos) (tSMethX C sp W ta tk) := by
  obtain ⟨g, fd, q, F, ⟨⟨mc, p, r, c⟩, bi, ok⟩⟩ := h
  constructor
  intro pins s σ H Q I h
  refine PySem.W.methodCall_KW (pl := pl) (thn (he.run pins s σ H _ I h) ?_) ht
  rintro u s1 ⟨x, H1, I1, rx, ex, q1⟩
  subst ex
  obtain rfl : u = Value.ref C := rx
  obtain ⟨rest, hp⟩ := c.rc
  refine PySem.W.method_cls I1.kIn r.ga (PySem.W.cls_bind I1.kIn r.rd c.at_ ?_)
  refine wpAny_call (PySem.W.sm_get (s := { s1 with toks := s1.toks + 1 }) I1.kIn hp (PySem.W.handed_on c.hd ?_))
  have I2 := I1.tok (s1.toks + 1)
  refine PySem.W.callWith_KW0 (first := []) (h₀ := X.base) I.ok.mod.kin c.kp hall ?_ hpl
  refine thn (hkw.run pos pins _ σ H1 _ I2 q1) ?_
  rintro ws s2 ⟨zs, H2, I3, rz, q2⟩
  refine ⟨I3.kIn, ?_⟩
  rw [hks]
  obtain ⟨oc, od, kV, doc, pm, an, cdv, ct, osl, rfl, lk, hcd⟩ := F.ex
  rw [List.append_nil] at q2
  exact runGS (us := []) (us' := ws) (vs' := zs) ok hr hgd (passAt tkx σ) I3 (fun hl => BindsTo.of_eq (hb q kV doc pm an cdv ct ws hl)) rz q2
/-! ### in an except suite -/
/-- what isinstance asks of the class of an error -/
structure ExK (K : PySem.W.Frag) (D : Addr) : Prop where
  ic : PySem.W.isClsIn K D = true
  ga : PySem.W.findIn K (.ref D) "__getattribute__" = some (some (.builtin "BaseException.__getattribute__"))
  gg : PySem.W.findIn K (.ref D) "__getattr__" = some none
  hs : PySem.W.subIn K (.ref D) (.type "BaseException") = some true
  ha : PySem.W.findIn K (.ref D) "__class__" = some (some (.builtin "object.__class__"))
  hn : PySem.W.specialIn K (.builtin "object.__class__") "__get__" = some (some (.builtin "getset_descriptor.__get__"))
  ht : PySem.W.takesIn K (.builtin "object.__class__") = some true
  hm : PySem.W.mroIn K D (.type "object") = some true
theorem ErrC.exK {K : PySem.W.Frag} {mg : Str → Option Value} {nm f : Str} {C : Addr} (h : ErrC K mg nm f C) : ExK K C := ⟨h.ic, h.ga, h.gg, h.oe.exC, h.ha, h.hn, h.ht, h.hm⟩
theorem ErrC.xf {K : PySem.W.Frag} {mg : Str → Option Value} {nm f : Str} {C : Addr} (h : ErrC K mg nm f C) : XfC K C := ⟨h.ga, h.gg, h.oe.exC, h.hd⟩
/-- isinstance(e, c), e the error that the suite holds -/
def rIsX (K : PySem.W.Frag) (cls : Value) (d : Option Addr) (a : Addr) : RC := fun xs H Q => ∃ (c : V) (cv : Value) (b : Bool) (D dd : Addr) (fs : List (Str × V)), xs = [.ref a, c] ∧ cls = .ref D ∧ d = some dd ∧ H dd = some (.xd fs) ∧ ExK K D ∧ (∀ u, RelV c u → u = cv) ∧ PySem.W.kitOne K (.ref D) cv = some b ∧ Q (.bl b) H
theorem call_isX {a : Addr} {oe : Obj} {pn : List (Addr × Obj)} {cls : Value} {d : Option Addr} (K : PySem.W.Frag) (hz : Zc cls d oe) (hf : ∃ vs, oe.data = .fields vs) (hk : X.K = K := by rfl) : CallR (X.suite a ((a, oe) :: pn)) (.builtin "isinstance") (rIsX K cls d a) := by
  subst hk
  intro pins s σ H xs us Q I r h
  obtain ⟨c, cv, b, D, dd, fs, rfl, rfl, rfl, hdd, C, hcv, e, q⟩ := h
  cases r with
  | cons rx rr =>
    cases rr with
    | cons rt rr =>
      cases rr
      cases rx
      have ec := hcv _ rt
      subst ec
      obtain ⟨hget, _⟩ := I.pin (a, oe) (List.mem_append.mpr (.inl List.mem_cons_self))
      obtain ⟨vs, hv⟩ := hf
      have hx : ObjOk X.prog X.w H s.heap dd (.xd fs) := I.hok dd _ hdd
      obtain ⟨mA, hns, hr⟩ := hx
      obtain ⟨od, ho, hl⟩ := lookIn_ns hns
      have J : PySem.W.InstAt s.heap a oe D (some od) := ⟨hget, hz.1, by unfold PySem.W.notCls; rw [hv] <;> rfl, by rw [hz.2]; exact ho⟩
      exact PySem.W.kia_one (PySem.W.kitx_exc (show (PySem.W.clsIn X.K D).isSome = true from C.ic) C.ga C.gg C.hs C.ha C.hn C.ht C.hm) I.kIn J e (fun z => nomatch z) fun tk => ⟨.bl b, H, I.kept (t' := tk) fun _ _ z => z, rfl, q⟩
end
theorem kit_ref {K : PySem.W.Frag} {D I : Addr} {b : Bool} (h1 : PySem.W.isClsIn K I = true) (h2 : PySem.W.typeIn K (.ref I) = some (.type "type")) (h3 : PySem.W.subIn K (.ref D) (.ref I) = some b) (hb : D = I → b = true) : PySem.W.kitOne K (.ref D) (.ref I) = some b := by
  by_cases e : D = I
  · subst e
    rw [kit_self, hb rfl]
  · unfold PySem.W.kitOne
    rw [if_neg (by simpa using e)]
    unfold PySem.W.kitCls
    have h1' : (PySem.W.clsIn K I).isSome = true := h1
    simp only [h1', h2, h3]
    simp
theorem kit_ve {K : PySem.W.Frag} {D : Addr} {b : Bool} (h3 : PySem.W.subIn K (.ref D) (.type "ValueError") = some b) : PySem.W.kitOne K (.ref D) (.type "ValueError") = some b := by
  unfold PySem.W.kitOne
  rw [if_neg (by rw [show (Value.ref D == Value.type "ValueError") = false from rfl]; exact Bool.false_ne_true)]
  unfold PySem.W.kitCls
  have hm : PySem.W.kitMeta "ValueError" = true := by decide +kernel
  simp only [hm, if_true]
  exact h3
theorem exm_self {K : PySem.W.Frag} {mg : Str → Option Value} {nm f : Str} {C : Addr} (h : ErrC K mg nm f C) : PySem.W.exmOne K (.ref C) (.ref C) = some true := PySem.W.exm_ref h.oe.exC h.hd h.oe.tyC h.self
end G


namespace G
open PySem PySem.Spec PyProof.Rows L2 StX ClX TL
/-! ### the law's own reading of texts (k04) -/
theorem tl_ext' {a b : Str} (h : tl a = tl b) : a = b := ext_tl h
theorem at_star {z : Str} {i : Nat} : StrLaws.At z "*" z.length i ↔ (tl z)[i]? = some 42 := by
  unfold StrLaws.At
  have hl : (Str.ofString "*").length = 1 := by decide +kernel
  have ht : (Str.ofString "*").cps.toList = [42] := by decide +kernel
  rw [StrLaws.subAt_eq, hl, ht, len_tl]
  show i + 1 ≤ (tl z).length ∧ ((List.take 1 (List.drop i (tl z)) == [42]) = true) ↔ _
  generalize tl z = l
  constructor
  · rintro ⟨h1, h2⟩
    have h3 : List.take 1 (List.drop i l) = [42] := by simpa using h2
    have hi : i < l.length := by omega
    rw [List.drop_eq_getElem_cons hi] at h3
    have h4 : l[i] = 42 := by
      rw [List.take_succ_cons, List.take_zero] at h3
      exact (List.cons.inj h3).1
    rw [List.getElem?_eq_getElem hi, h4]
  · intro h
    obtain ⟨hi, e⟩ := List.getElem?_eq_some_iff.mp h
    refine ⟨by omega, ?_⟩
    rw [List.drop_eq_getElem_cons hi, e]
    simp
theorem find_none {z : Str} (h : 42 ∉ tl z) : Txt.find z "*" = -1 := by
  rcases PyProof.Rows.find_whole z "*" with ⟨e, _⟩ | ⟨i, _, a, _⟩
  · exact e
  · exact absurd (List.mem_of_getElem? (at_star.mp a)) h
theorem find_at {z : Str} {a b : List Nat} (e : tl z = a ++ 42 :: b) (h : 42 ∉ a) : Txt.find z "*" = (a.length : Int) := by
  have here : StrLaws.At z "*" z.length a.length := at_star.mpr (by rw [e]; simp)
  rcases PyProof.Rows.find_whole z "*" with ⟨_, no⟩ | ⟨i, ei, ai, no⟩
  · exact absurd here (no _)
  · rw [ei]
    have h1 := at_star.mp ai
    have : i = a.length := by
      rcases Nat.lt_trichotomy i a.length with hl | hl | hl
      · exfalso
        rw [e, List.getElem?_append_left hl] at h1
        exact h (List.mem_of_getElem? h1)
      · exact hl
      · exact absurd here (no _ hl)
    rw [this]
theorem cutD_tl (z : Str) (n : Nat) : tl (cutS z (some (n : Int)) none) = (tl z).drop n := by
  unfold cutS
  have e1 : HT.sIx z.length z.length none = z.length := rfl
  have e2 : HT.sIx z.length 0 (some (n : Int)) = min n z.length := HT.sIx_nat z.length 0 n
  rw [tl_mk, e1, e2, len_tl]
  show List.take (z.cps.toList.length - min n z.cps.toList.length) (List.drop (min n z.cps.toList.length) z.cps.toList) = List.drop n z.cps.toList
  generalize z.cps.toList = l
  by_cases hn : n ≤ l.length
  · rw [Nat.min_eq_left hn]
    exact List.take_of_length_le (by rw [List.length_drop]; omega)
  · have : min n l.length = l.length := by omega
    rw [this, List.drop_length, List.drop_eq_nil_of_le (by omega), List.take_nil]
/-- the symbol of a term -/
def termL (z : Str) : Option Str :=
  if ¬ cutS z (some (Txt.find z "*" + 1)) none = "@" ∧ nameS (cutS z (some (Txt.find z "*" + 1)) none) = false then none
  else if Txt.find z "*" < 0 then some (cutS z (some (Txt.find z "*" + 1)) none)
  else if cutS z none (some (Txt.find z "*")) = "" ∨ digF (cutS z none (some (Txt.find z "*"))) = false then none
  else if (tl (cutS z none (some (Txt.find z "*")))).head? = some 48 ∨ cutS z none (some (Txt.find z "*")) = "1" then none
  else some (cutS z (some (Txt.find z "*" + 1)) none)
theorem symS_or (s : Str) : symS s = true ↔ ¬ (¬ s = "@" ∧ nameS s = false) := by
  unfold symS
  rw [Bool.or_eq_true, decide_eq_true_eq]
  constructor
  · rintro (h | h) ⟨h1, h2⟩
    · exact h1 h
    · rw [h] at h2; cases h2
  · intro h
    by_cases e : s = "@"
    · exact .inl e
    · cases hn : nameS s with
      | true => exact .inr rfl
      | false => exact absurd ⟨e, hn⟩ h
theorem num_back {cs : List Nat} (h : NumText.AllDigits cs) (h0 : cs ≠ []) (h1 : cs.head? ≠ some 48) : numL (NumText.digitsVal cs) = cs := by
  unfold numL
  obtain ⟨c, r, rfl⟩ : ∃ c r, cs = c :: r := by
    cases cs with
    | nil => exact absurd rfl h0
    | cons c r => exact ⟨c, r, rfl⟩
  have hc := h c List.mem_cons_self
  rw [NumText.toDigits_digitsVal r.length (c :: r) rfl h (.inr ⟨c, r, rfl, by
    have : c ≠ 48 := fun z => h1 (by rw [z]; rfl)
    omega⟩), List.map_map]
  have : ∀ l : List Nat, NumText.AllDigits l → l.map (Char.toNat ∘ Char.ofNat) = l := by
    intro l hl
    induction l with
    | nil => rfl
    | cons a l ih =>
      rw [List.map_cons, ih fun d hd => hl d (List.mem_cons_of_mem _ hd)]
      have ha := hl a List.mem_cons_self
      have : ∀ k : Fin 10, (Char.ofNat (48 + k.1)).toNat = 48 + k.1 := by decide
      have h2 := this ⟨a - 48, by omega⟩
      have e : 48 + (a - 48) = a := by omega
      simp only [e] at h2
      show (Char.ofNat a).toNat :: l = a :: l
      rw [h2]
  exact this _ h
theorem numL_head : ∀ {n : Nat}, n ≠ 0 → (numL n).head? ≠ some 48 := by
  intro n
  induction n using Nat.strongRecOn with
  | ind n ih =>
    intro h
    by_cases hl : n < 10
    · rw [numL_lt hl]
      intro q
      have : 48 + n = 48 := by simpa using q
      omega
    · rw [numL_step (by omega)]
      have hn := numL_ne (n / 10)
      have := ih (n / 10) (by omega) (by omega)
      cases e : numL (n / 10) with
      | nil => exact absurd e hn
      | cons c r =>
        rw [e] at this
        exact this
theorem digF_lt {z : Str} (h : digF z = true) : NumText.digitsVal (tl z) < 10 ^ (tl z).length := by
  have h1 := fold_lt (tl z) 0 (digF_all.mp h)
  rw [Nat.zero_add, Nat.one_mul] at h1
  exact h1
/-- a term that the law reads is the word of a symbol and a number -/
theorem termL_word {z s : Str} (h : termL z = some s) : symS s = true ∧ ∃ n : Nat, 1 ≤ n ∧ n < 10 ^ (z.length + 1) ∧ ∀ i : Int, i.natAbs = n → wordR (s, i) = z := by
  unfold termL at h
  split at h
  · cases h
  · rename_i hs
    split at h
    · rename_i hf
      cases h
      have hn : 42 ∉ tl z := fun m => by
        rcases PyProof.Rows.find_whole z "*" with ⟨_, no⟩ | ⟨i, ei, _⟩
        · obtain ⟨i, hi⟩ := List.mem_iff_getElem?.mp m
          exact absurd (at_star.mpr hi) (no i)
        · rw [ei] at hf
          omega
      have e1 : cutS z (some (Txt.find z "*" + 1)) none = z := tl_ext' (by
        rw [find_none hn]
        exact cutD_tl z 0)
      rw [e1] at hs ⊢
      refine ⟨(symS_or z).mpr hs, 1, Nat.le_refl _, Nat.one_lt_pow (by omega) (by decide), fun i hi => tl_ext' ?_⟩
      rw [tl_word, if_pos hi]
    · rename_i hf
      split at h
      · cases h
      · rename_i hd
        split at h
        · cases h
        · rename_i h1
          cases h
          rcases PyProof.Rows.find_whole z "*" with ⟨e, _⟩ | ⟨i, ei, ai, no⟩
          · rw [e] at hf
            exact absurd (by decide) hf
          · have hai := at_star.mp ai
            obtain ⟨hi, ec⟩ := List.getElem?_eq_some_iff.mp hai
            have esplit : tl z = (tl z).take i ++ 42 :: (tl z).drop (i + 1) := by
              rw [← ec, ← List.drop_eq_getElem_cons hi, List.take_append_drop]
            rw [ei] at hs hd h1 ⊢
            have e2 : ((i : Int) + 1) = ((i + 1 : Nat) : Int) := by omega
            rw [e2] at hs ⊢
            have hd' : cutS z none (some (i : Int)) ≠ "" ∧ digF (cutS z none (some (i : Int))) = true := by
              constructor
              · exact fun q => hd (.inl q)
              · cases q : digF (cutS z none (some (i : Int))) with
                | true => rfl
                | false => exact absurd (.inr q) hd
            have tN := cutN_tl z i
            have hne : (tl z).take i ≠ [] := fun q => hd'.1 (tl_ext' (by rw [tN, q]; decide +kernel))
            have hdg := digF_all.mp hd'.2
            rw [tN] at hdg
            have hh : ((tl z).take i).head? ≠ some 48 := fun q => h1 (.inl (by rw [tN]; exact q))
            have hb := num_back hdg hne hh
            have hlt := digF_lt hd'.2
            rw [tN] at hlt
            have hn1 : NumText.digitsVal ((tl z).take i) ≠ 1 := fun q => h1 (.inr (tl_ext' (by
              rw [tN, ← hb, q]
              decide +kernel)))
            have hn0 : NumText.digitsVal ((tl z).take i) ≠ 0 := fun q => by
              rw [q] at hb
              exact hh (by rw [← hb]; decide +kernel)
            refine ⟨(symS_or _).mpr hs, NumText.digitsVal ((tl z).take i), by omega, ?_, fun j hj => tl_ext' ?_⟩
            · refine Nat.lt_of_lt_of_le hlt (Nat.pow_le_pow_right (by decide) ?_)
              rw [List.length_take, len_tl]
              omega
            · rw [tl_word, hj, if_neg hn1, hb]
              show (tl z).take i ++ 42 :: tl (cutS z (some ((i + 1 : Nat) : Int)) none) = tl z
              rw [cutD_tl]
              exact esplit.symm
/-- .. and back -/
theorem termL_of {s : Str} {i : Int} (hs : symS s = true) (hi : i ≠ 0) : termL (wordR (s, i)) = some s := by
  have hfree : 42 ∉ tl s := fun m => by
    have := sym_signs hs 42 m
    omega
  by_cases h1 : i.natAbs = 1
  · have e : wordR (s, i) = s := tl_ext' (by rw [tl_word, if_pos h1])
    rw [e]
    unfold termL
    have ef := find_none hfree
    have ec : cutS s (some (Txt.find s "*" + 1)) none = s := tl_ext' (by rw [ef]; exact cutD_tl s 0)
    rw [ec, if_neg ((symS_or s).mp hs), if_pos (by rw [ef]; decide)]
  · have et : tl (wordR (s, i)) = numL i.natAbs ++ 42 :: tl s := by rw [tl_word, if_neg h1]
    have hnf : 42 ∉ numL i.natAbs := fun m => by
      have := numL_digits _ 42 m
      omega
    have ef := find_at et hnf
    have e1 : cutS (wordR (s, i)) (some (Txt.find (wordR (s, i)) "*" + 1)) none = s := tl_ext' (by
      rw [ef, show ((numL i.natAbs).length : Int) + 1 = (((numL i.natAbs).length + 1 : Nat) : Int) by omega, cutD_tl, et]
      simp)
    have e2 : tl (cutS (wordR (s, i)) none (some (Txt.find (wordR (s, i)) "*"))) = numL i.natAbs := by
      rw [ef, cutN_tl, et]
      simp
    unfold termL
    have hn0 : i.natAbs ≠ 0 := by omega
    have hdig : digF (cutS (wordR (s, i)) none (some (Txt.find (wordR (s, i)) "*"))) = true := digF_all.mpr (by
      rw [e2]
      intro c hc
      exact numL_digits _ c hc)
    have hne : cutS (wordR (s, i)) none (some (Txt.find (wordR (s, i)) "*")) ≠ "" := fun q => by
      rw [q] at e2
      have h3 := numL_val i.natAbs
      rw [← e2] at h3
      exact hn0 (by rw [← h3]; decide +kernel)
    have hh : ¬ ((tl (cutS (wordR (s, i)) none (some (Txt.find (wordR (s, i)) "*")))).head? = some 48 ∨ cutS (wordR (s, i)) none (some (Txt.find (wordR (s, i)) "*")) = "1") := by
      rw [e2]
      rintro (q | q)
      · exact numL_head hn0 q
      · rw [q] at e2
        have h3 := numL_val i.natAbs
        rw [← e2] at h3
        exact h1 (by rw [← h3]; decide +kernel)
    rw [e1, if_neg ((symS_or s).mp hs), if_neg (by rw [ef]; omega), if_neg (by rintro (q | q); exact hne q; rw [hdig] at q; cases q), if_neg hh]
end G


namespace G
open PySem PySem.Spec PyProof.Rows L2 StX ClX TL
def evens {α : Type} : List α → List α
  | [] => []
  | [a] => [a]
  | a :: _ :: r => a :: evens r
def odds {α : Type} : List α → List α
  | [] => []
  | [_] => []
  | _ :: b :: r => b :: odds r
theorem evens_cons {α : Type} : ∀ (a : α) (r : List α), evens (a :: r) = a :: odds r
  | a, [] => rfl
  | a, [b] => rfl
  | a, b :: c :: r => by
    show a :: evens (c :: r) = a :: c :: odds r
    rw [evens_cons c r]
theorem odds_cons {α : Type} : ∀ (a : α) (r : List α), odds (a :: r) = evens r
  | a, [] => rfl
  | a, [b] => rfl
  | a, b :: c :: r => by
    show b :: odds (c :: r) = b :: evens r
    rw [odds_cons c r]
theorem eo_snoc {α : Type} (x : α) : ∀ l : List α, (evens (l ++ [x]) = if l.length % 2 = 0 then evens l ++ [x] else evens l) ∧ (odds (l ++ [x]) = if l.length % 2 = 0 then odds l else odds l ++ [x])
  | [] => ⟨rfl, rfl⟩
  | a :: l => by
    obtain ⟨h1, h2⟩ := eo_snoc x l
    rw [List.cons_append, evens_cons, odds_cons, evens_cons, odds_cons, h1, h2, List.length_cons]
    by_cases h : l.length % 2 = 0
    · have h' : ¬ (l.length + 1) % 2 = 0 := by omega
      simp [h, h']
    · have h' : (l.length + 1) % 2 = 0 := by omega
      simp [h, h']
def isSg (w : Str) : Bool := decide (w = "+") || decide (w = "-")
def stripF : List Str → List Str
  | [] => []
  | w :: r => (signF w).2 :: r
def wordsL (z : Str) : List Str := stripF (Txt.split z " ")
/-- whether a text is the text of a form, as the law asks -/
def textL (z : Str) : Bool := decide (z = "0") || ((odds (wordsL z)).all isSg && decide ((wordsL z).length % 2 = 1) && (evens (wordsL z)).all (fun w => (termL w).isSome) && ascS ((evens (wordsL z)).filterMap termL))
def sgR (p : Str × Int) : Str := if p.2 < 0 then "-" else "+"
def flatR (r : Row) : List Str := r.flatMap fun p => [sgR p, wordR p]
theorem flat_cons (p : Str × Int) (r : Row) : flatR (p :: r) = sgR p :: wordR p :: flatR r := rfl
theorem eo_flat : ∀ r : Row, evens (flatR r) = r.map sgR ∧ odds (flatR r) = r.map wordR
  | [] => ⟨rfl, rfl⟩
  | p :: r => by
    obtain ⟨h1, h2⟩ := eo_flat r
    rw [flat_cons]
    exact ⟨congrArg _ h1, congrArg _ h2⟩
theorem tl_blank : tl (" " : Str) = [32] := by decide +kernel
theorem free_word {p : Str × Int} (h : symS p.1 = true) : 32 ∉ tl (wordR p) := fun z => by
  have := word_free h _ z
  omega
theorem free_sg {p : Str × Int} : 32 ∉ tl (sgR p) := by
  unfold sgR
  split <;> decide +kernel
theorem free_part {p : Str × Int} (h : symS p.1 = true) : 32 ∉ tl (partR p) := fun z => by
  rw [tl_part] at z
  split at z
  · rcases List.mem_cons.mp z with z | z
    · omega
    · exact free_word h z
  · exact free_word h z
theorem joinL_flat (w : List Nat) : ∀ r : Row, joinL [32] (w :: (flatR r).map tl) = tgl w (r.map fun q => (decide (q.2 < 0), tl (wordR q)))
  | [] => by simp [flatR, joinL, tgl]
  | p :: r => by
    have ih := joinL_flat (tl (wordR p)) r
    rw [flat_cons, List.map_cons, List.map_cons, List.map_cons, tgl_cons, ← ih]
    show w ++ ([32] ++ (tl (sgR p) ++ ([32] ++ joinL [32] (tl (wordR p) :: (flatR r).map tl)))) = _
    have e : (if decide (p.2 < 0) = true then Mi else Pl) = [32] ++ (tl (sgR p) ++ [32]) := by
      unfold sgR
      by_cases h : p.2 < 0
      · rw [if_pos (by simpa using h), if_pos h]
        decide +kernel
      · rw [if_neg (by simpa using h), if_neg h]
        decide +kernel
    rw [e]
    simp
/-- a form's text by its words -/
theorem text_words (p : Str × Int) (r : Row) : textR (p :: r) = Txt.join " " (partR p :: flatR r) := by
  refine ext_tl ?_
  rw [tl_text, join_eq, tl_join, tl_blank, List.map_cons, joinL_flat]
theorem split_text {p : Str × Int} {r : Row} (h : ∀ q ∈ p :: r, symS q.1 = true) : Txt.split (textR (p :: r)) " " = partR p :: flatR r := by
  rw [text_words]
  refine split_join (s := 32) (S := []) tl_blank (by decide +kernel) (by simp) ?_
  intro w hw
  rcases List.mem_cons.mp hw with rfl | hw
  · exact free_part (h p List.mem_cons_self)
  · obtain ⟨q, hq, hm⟩ := List.mem_flatMap.mp hw
    have hs := h q (List.mem_cons_of_mem _ hq)
    have : w = sgR q ∨ w = wordR q := by simpa using hm
    rcases this with rfl | rfl
    · exact free_sg
    · exact free_word hs
theorem strip_part {p : Str × Int} (h : symS p.1 = true) : (signF (partR p)).2 = wordR p := by
  unfold partR
  split
  · rw [signF_neg]
  · refine (congrArg Prod.snd (?_ : signF (wordR p) = (1, wordR p)))
    unfold signF
    rw [if_neg]
    intro z
    have h1 := congrArg tl z
    rw [cut1_tl, tl_minus] at h1
    cases e : tl (wordR p) with
    | nil => rw [e] at h1; cases h1
    | cons c cs =>
      rw [e] at h1
      have hc : c = 45 := by simpa using h1
      have := word_free h c (by rw [e]; exact List.mem_cons_self)
      omega
/-- a form's text is one -/
theorem textL_of {q : Row} (c : Can q) (h : ∀ p ∈ q, symS p.1 = true) : textL (textR q) = true := by
  cases q with
  | nil =>
    unfold textL
    rw [text_nil]
    rfl
  | cons p r =>
    unfold textL
    rw [Bool.or_eq_true]
    refine .inr ?_
    have ew : wordsL (textR (p :: r)) = wordR p :: flatR r := by
      unfold wordsL
      rw [split_text h]
      show (signF (partR p)).2 :: flatR r = _
      rw [strip_part (h p List.mem_cons_self)]
    obtain ⟨e1, e2⟩ := eo_flat r
    have term : ∀ q ∈ p :: r, termL (wordR q) = some q.1 := fun q hq => termL_of (h q hq) (c.nz q hq)
    have hlen : ∀ r : Row, (flatR r).length = 2 * r.length := by
      intro r
      induction r with
      | nil => rfl
      | cons a r ih => rw [flat_cons, List.length_cons, List.length_cons, ih, List.length_cons]; omega
    rw [ew, odds_cons, evens_cons, e1, e2]
    have f1 : (r.map sgR).all isSg = true := by
      rw [List.all_eq_true]
      intro w hw
      obtain ⟨q, _, rfl⟩ := List.mem_map.mp hw
      unfold sgR
      split <;> rfl
    have f2 : (wordR p :: r.map wordR).all (fun w => (termL w).isSome) = true := by
      rw [List.all_eq_true]
      intro w hw
      obtain ⟨q, hq, rfl⟩ := List.mem_map.mp (show w ∈ (p :: r).map wordR from hw)
      rw [term q hq]
      rfl
    have f3 : (wordR p :: r.map wordR).filterMap termL = keysR (p :: r) := by
      have : ∀ l : Row, (∀ q ∈ l, termL (wordR q) = some q.1) → (l.map wordR).filterMap termL = keysR l := by
        intro l
        induction l with
        | nil => intro _; rfl
        | cons a l ih =>
          intro hl
          rw [List.map_cons, List.filterMap_cons, hl a List.mem_cons_self, ih fun q hq => hl q (List.mem_cons_of_mem _ hq)]
          rfl
      exact this (p :: r) term
    rw [f1, f2, f3, asc_pair c.asc]
    have : decide ((wordR p :: flatR r).length % 2 = 1) = true := decide_eq_true (by rw [List.length_cons, hlen]; omega)
    rw [this]
    rfl
/-- the words behind the first one -/
theorem build {B : Nat} : ∀ ws : List Str, ws.length % 2 = 0 → (evens ws).all isSg = true → (odds ws).all (fun w => (termL w).isSome) = true → (∀ w ∈ ws, w.length ≤ B) →
    ∃ r : Row, ws = flatR r ∧ (odds ws).filterMap termL = keysR r ∧ ∀ q ∈ r, symS q.1 = true ∧ q.2 ≠ 0 ∧ q.2.natAbs < 10 ^ (B + 1)
  | [], _, _, _, _ => ⟨[], rfl, rfl, fun _ h => (List.not_mem_nil h).elim⟩
  | [_], h, _, _, _ => by simp at h
  | a :: b :: r, hl, hs, ht, hb => by
    have hs' : (isSg a && (evens r).all isSg) = true := hs
    have ht' : ((termL b).isSome && (odds r).all (fun w => (termL w).isSome)) = true := ht
    rw [Bool.and_eq_true] at hs' ht'
    obtain ⟨q, e1, e2, e3⟩ := build r (by simp only [List.length_cons] at hl; omega) hs'.2 ht'.2 fun w hw => hb w (List.mem_cons_of_mem _ (List.mem_cons_of_mem _ hw))
    cases et : termL b with
    | none => rw [et] at ht'; cases ht'.1
    | some s =>
      obtain ⟨h1, n, h2, h3, h4⟩ := termL_word et
      have hbl := hb b (by simp)
      have hn : n < 10 ^ (B + 1) := Nat.lt_of_lt_of_le h3 (Nat.pow_le_pow_right (by decide) (by omega))
      have hsg : a = "+" ∨ a = "-" := by
        have := hs'.1
        unfold isSg at this
        rw [Bool.or_eq_true, decide_eq_true_eq, decide_eq_true_eq] at this
        exact this
      have key : ∀ i : Int, i.natAbs = n → i ≠ 0 → sgR (s, i) = a → ∃ r' : Row, a :: b :: r = flatR r' ∧ (b :: odds r).filterMap termL = keysR r' ∧ ∀ q ∈ r', symS q.1 = true ∧ q.2 ≠ 0 ∧ q.2.natAbs < 10 ^ (B + 1) := by
        intro i hi h0 hsi
        refine ⟨(s, i) :: q, ?_, ?_, ?_⟩
        · rw [flat_cons, hsi, h4 i hi, ← e1]
        · rw [List.filterMap_cons, et, e2]
          rfl
        · intro p hp
          rcases List.mem_cons.mp hp with rfl | hp
          · exact ⟨h1, h0, by rw [hi]; exact hn⟩
          · exact e3 p hp
      rcases hsg with ea | ea
      · refine key n (by omega) (by omega) ?_
        unfold sgR
        rw [if_neg (by show ¬ (n : Int) < 0; omega), ea]
      · refine key (-(n : Int)) (by omega) (by omega) ?_
        unfold sgR
        rw [if_pos (by show -(n : Int) < 0; omega), ea]
theorem asc_of_ascS : ∀ {l : List Str}, ascS l = true → l.Pairwise fun a b => a.cps.toList < b.cps.toList
  | [], _ => .nil
  | [a], _ => List.pairwise_singleton _ _
  | a :: b :: l, h => by
    rw [ascS_cons, Bool.and_eq_true] at h
    have ih := asc_of_ascS h.2
    have h1 : a.cps.toList < b.cps.toList := of_decide_eq_true h.1
    refine List.pairwise_cons.mpr ⟨fun c hc => ?_, ih⟩
    rcases List.mem_cons.mp hc with rfl | hc
    · exact h1
    · exact List.lt_trans h1 ((List.pairwise_cons.mp ih).1 c hc)
theorem join_split (z : Str) : Txt.join " " (Txt.split z " ") = z := by
  have hm : tl (" " : Str) ≠ [] := by rw [tl_blank]; simp
  have hk : (" " : Str).cps.all (· < 256) = true := by decide +kernel
  exact (replace_join hm hk).symm.trans (Txt.replace_self z " ")
/-- a text that is one is a form's -/
theorem textL_form {z : Str} (hz : z.length ≤ 400) (h : textL z = true) : ∃ q, Can q ∧ RowB q ∧ textR q = z := by
  unfold textL at h
  rw [Bool.or_eq_true, decide_eq_true_eq] at h
  rcases h with rfl | h
  · exact ⟨[], Can.nil, ⟨by simp, fun _ h => (List.not_mem_nil h).elim, fun _ h => (List.not_mem_nil h).elim⟩, rfl⟩
  · have hj := join_split z
    have hm : tl (" " : Str) ≠ [] := by rw [tl_blank]; simp
    have hk : (" " : Str).cps.all (· < 256) = true := by decide +kernel
    have hsl := split_len (x := z) hm hk
    have l1 : (" " : Str).length = 1 := by decide +kernel
    rw [l1] at hsl
    unfold wordsL at h
    cases e : Txt.split z " " with
    | nil => exact absurd e (split_ne z " ")
    | cons w ws =>
      rw [e] at h hj hsl
      have hwl : ∀ v ∈ w :: ws, v.length ≤ 400 := by
        intro v hv
        have h3 := mem_sum (List.mem_map.mpr ⟨tl v, List.mem_map.mpr ⟨v, hv, rfl⟩, rfl⟩ : (tl v).length ∈ ((w :: ws).map tl).map List.length)
        have h4 : 0 < (w :: ws).length := by simp
        rw [len_tl]
        omega
      have hcnt : (w :: ws).length ≤ 401 := by omega
      have h : ((odds ((signF w).2 :: ws)).all isSg && decide (((signF w).2 :: ws).length % 2 = 1) && (evens ((signF w).2 :: ws)).all (fun w => (termL w).isSome) && ascS ((evens ((signF w).2 :: ws)).filterMap termL)) = true := h
      rw [odds_cons, evens_cons, Bool.and_eq_true, Bool.and_eq_true, Bool.and_eq_true, decide_eq_true_eq, List.length_cons] at h
      obtain ⟨⟨⟨f1, f2⟩, f3⟩, f4⟩ := h
      rw [List.all_cons, Bool.and_eq_true] at f3
      obtain ⟨r, e1, e2, e3⟩ := build (B := 400) ws (by omega) f1 f3.2 fun v hv => hwl v (List.mem_cons_of_mem _ hv)
      cases et : termL (signF w).2 with
      | none => rw [et] at f3; cases f3.1
      | some s =>
        obtain ⟨h1, n, h2, h3, h4⟩ := termL_word et
        have hsl2 : (signF w).2.length ≤ 400 := Nat.le_trans (len_sign w) (hwl w List.mem_cons_self)
        have hn : n < 10 ^ 401 := Nat.lt_of_lt_of_le h3 (Nat.pow_le_pow_right (by decide) (by omega))
        rw [List.filterMap_cons, et, e2] at f4
        have bdn : ∀ m : Nat, m < 10 ^ 401 → m < 2 ^ 1900 := fun m hm => Nat.lt_trans hm (by decide +kernel)
        have fin : ∀ i : Int, i.natAbs = n → i ≠ 0 → partR (s, i) = w → ∃ q, Can q ∧ RowB q ∧ textR q = z := by
          intro i hi h0 hp
          refine ⟨(s, i) :: r, ⟨asc_of_ascS f4, ?_⟩, ⟨?_, ?_, ?_⟩, ?_⟩
          · intro p hp
            rcases List.mem_cons.mp hp with rfl | hp
            · exact h0
            · exact (e3 p hp).2.1
          · have hlr : (flatR r).length = 2 * r.length := by
              clear e1 e2 e3 f4 hj
              induction r with
              | nil => rfl
              | cons a r ih => rw [flat_cons, List.length_cons, List.length_cons, ih, List.length_cons]; omega
            rw [← e1] at hlr
            simp only [List.length_cons] at hcnt ⊢
            omega
          · intro p hp
            rcases List.mem_cons.mp hp with rfl | hp
            · exact h1
            · exact (e3 p hp).1
          · intro p hp
            rcases List.mem_cons.mp hp with rfl | hp
            · exact bdn _ (by rw [hi]; exact hn)
            · exact bdn _ (e3 p hp).2.2
          · rw [text_words, hp, ← e1]
            exact hj
        by_cases hc : cutS w none (some 1) = "-"
        · have hw : signF w = (0 - 1, cutS w (some 1) none) := by unfold signF; rw [if_pos hc]
          have hww : w = "-" ++ (signF w).2 := by
            rw [hw]
            refine ext_tl ?_
            rw [tl_append, cutT_tl, ← hc, cut1_tl, List.take_append_drop]
          refine fin (-(n : Int)) (by omega) (by omega) ?_
          unfold partR
          rw [if_pos (by show -(n : Int) < 0; omega), h4 _ (by omega)]
          exact hww.symm
        · have hw : signF w = (1, w) := by unfold signF; rw [if_neg hc]
          refine fin n (by omega) (by omega) ?_
          unfold partR
          rw [if_neg (by show ¬ (n : Int) < 0; omega), h4 _ (by omega), hw]
end G


namespace G
open PySem PySem.Spec PyProof.Rows L2 StX ClX TL
/-! ### longer texts -/
theorem repl_len3 (z : Str) : 3 * (Txt.replace z " - " " + -").length ≤ 4 * z.length := by
  have hm : tl (" - " : Str) ≠ [] := by rw [tl_mi]; simp
  have hk : (" - " : Str).cps.all (· < 256) = true := by decide +kernel
  have h1 := split_len (x := z) hm hk
  have e := replace_join (x := z) (z := " + -") hm hk
  have e2 := congrArg tl e
  rw [join_eq, tl_join] at e2
  have e3 := join_len (tl (" + -" : Str)) ((Txt.split z " - ").map tl) (fun w => split_ne z " - " (List.map_eq_nil_iff.mp w))
  rw [← e2, List.length_map, ← len_tl, ← len_tl] at e3
  have l3 : (" - " : Str).length = 3 := by decide +kernel
  have l4 : (" + -" : Str).length = 4 := by decide +kernel
  rw [l3] at h1
  rw [l4] at e3
  omega
theorem parts_ok4 {z : Str} (h : z.length ≤ 400) : (partsF z).length ≤ 600 ∧ ∀ p ∈ partsF z, p.length ≤ 570 := by
  unfold partsF
  split
  · exact ⟨Nat.zero_le _, fun p hp => (List.not_mem_nil hp).elim⟩
  · have hm : tl (" + " : Str) ≠ [] := by rw [tl_pl]; simp
    have hk : (" + " : Str).cps.all (· < 256) = true := by decide +kernel
    have h1 := split_len (x := Txt.replace z " - " " + -") hm hk
    have h2 := repl_len3 z
    have l3 : (" + " : Str).length = 3 := by decide +kernel
    rw [l3] at h1
    refine ⟨by omega, fun p hp => ?_⟩
    have h3 := mem_sum (List.mem_map.mpr ⟨tl p, List.mem_map.mpr ⟨p, hp, rfl⟩, rfl⟩ : (tl p).length ∈ ((Txt.split (Txt.replace z " - " " + -") " + ").map tl).map List.length)
    have h4 : 0 < (Txt.split (Txt.replace z " - " " + -") " + ").length := List.length_pos_of_mem hp
    rw [len_tl]
    omega
/-! ### readings -/
def rFind : V → List V → Hp → VK → Prop := fun x xs H Q => ∃ a b, x = .str a ∧ xs = [.str b] ∧ Q (.int (Txt.find a b)) H
def rIns : V → List V → Hp → VK → Prop := fun x vs H Q => ∃ (l : Addr) (xs : List V) (i : Int) (y : V), x = .ref l ∧ vs = [.int i, y] ∧ H l = some (.lst xs) ∧ xs.length < sizeLine ∧ 0 ≤ i ∧ i < 2 ^ 63 ∧
    Q .non (upd H l (.lst (xs.take i.toNat ++ [y] ++ xs.drop i.toNat)))
section
variable {X : Cx} {o e : Expr} {to te : TE} {apos pos : Pos}
theorem pe_findN (ho : PE X o to) (he : PE X e te) (hs : starEach [e] X.env = [(false, eval e X.env)] := by rfl) (hbase : attributeBase o "find" X.env (eval o X.env) = eval o X.env := by rfl) (hline : (apos.endLine == pos.line) = true := by rfl) :
    PE X (.Call (.Attribute o "find" apos) [e] [] pos) (tM1 rFind to te) := pe_m1 F.slot_str_find F.type_str_find mt_find ho he hs hbase hline
theorem pe_splitN (ho : PE X o to) (he : PE X e te) (hs : starEach [e] X.env = [(false, eval e X.env)] := by rfl) (hbase : attributeBase o "split" X.env (eval o X.env) = eval o X.env := by rfl) (hline : (apos.endLine == pos.line) = true := by rfl) :
    PE X (.Call (.Attribute o "split" apos) [e] [] pos) (tM1 rSplit to te) := pe_split ho he hs hbase hline
end
theorem s_find {H : Hp} {Q : VK} {a b : Str} (h : Q (.int (Txt.find a b)) H) : rFind (.str a) [.str b] H Q := ⟨a, b, rfl, rfl, h⟩
theorem s_insE {H : Hp} {Q : VK} {l : Addr} {xs : List V} {i : Int} {y : V} (e : H l = some (.lst xs)) (hl : xs.length ≤ 100000) (h0 : 0 ≤ i) (h1 : i ≤ 100000) (h : Q .non (upd H l (.lst (xs.take i.toNat ++ [y] ++ xs.drop i.toNat)))) : rIns (.ref l) [.int i, y] H Q :=
  ⟨l, xs, i, y, rfl, rfl, e, sz2 (by omega), h0, by omega, h⟩
section
variable {X : Cx} (K : PySem.W.Frag) (h : X.K = K := by rfl)
include h
theorem insK {o e : Expr} {es : List Expr} {to : TE} {t : TA} {apos cpos : Pos} (ho : PE X o to) (ha : PA X (e :: es) t)
    (hbase : attributeBase o "insert" X.env (eval o X.env) = eval o X.env := by rfl)
    (hfew : ((backTo cpos (starEach (e :: es) X.env)).all (fun x => !x.1) && (backToKw cpos (keywordEach [] X.env)).all (fun x => x.1.isSome)
      && decide ((e :: es).length + ([] : List Keyword).length + (if ([] : List Keyword).isEmpty then 0 else 1) < 30)) = true := by rfl)
    (hline : (apos.endLine == cpos.line) = true := by rfl) (hs : starEach (e :: es) X.env = (false, eval e X.env) :: starEach es X.env := by rfl)
    (hplain : (backTo cpos (starEach es X.env)).any (·.1) = false := by rfl) :
    PE X (.Call (.Attribute o "insert" apos) (e :: es) [] cpos) (tBM K "list" rIns to t) := by
  subst h
  exact pe_bm PySem.F.plainAttrs_list PySem.F.slot_list_insert PySem.F.type_list_insert mt_insert ho ha hbase hfew hline hs hplain
end
/-- == of data, whatever texts lie within -/
def rEqP (K : PySem.W.Frag) : R2 := fun x y H Q => ∃ d e, Dp K H x d ∧ Dp K H y e ∧ d.plain = true ∧ e.plain = true ∧ d.depth ≤ 60 ∧ Q (.bl (PyData.eqv d e)) H
theorem eqPK {X : Cx} (K : PySem.W.Frag) (h : X.K = K := by rfl) (hu : X.A.units + 64 < cLine) : OpR X (compareOp .Eq) (rEqP K) := by
  subst h
  intro pins s σ H x y v u Q I rx ry h
  obtain ⟨d, e, hd, he, sd, se, dd, q⟩ := h
  obtain ⟨as, r1⟩ := Dp.reads I d x v hd rx
  obtain ⟨bs, r2⟩ := Dp.reads I e y u he ry
  exact PySem.SeqAt.eq_plain r1 r2 sd se (by omega) ⟨.bl _, H, I, rfl, q⟩
/-! ### range of two -/
theorem s_iR2 {tr : TA} {σ : L2.St} {H : Hp} {R : It → Hp → Prop} (h : tr σ H fun vs H1 => ∃ i j : Int, vs = [.int i, .int j] ∧ (-(2 ^ 62) ≤ i ∧ i < 2 ^ 62 ∧ -(2 ^ 62) ≤ j ∧ j < 2 ^ 62) ∧ R (Itr i (j - i).toNat) H1) : iRng2 tr σ H R := h
def rngF (lo : Int) (n : Nat) : List V := (List.range n).map fun i => .int (lo + (i : Nat))
theorem wx_rngF {lo : Int} {n : Nat} : Walk (Itr lo n) (rngF lo n).length (fun _ => True) (YAt (rngF lo n)) := by
  have e : (rngF lo n).length = n := by simp [rngF]
  rw [e]
  refine walk_range.mono (fun _ h => h) ?_
  intro i H x H' _ _ h
  obtain ⟨h1, h2⟩ := h
  have hi : i < n := by assumption
  refine ⟨h1, ?_⟩
  simp [rngF, hi]
  exact h2.symm
end G


namespace G
open PySem PySem.Spec PyProof.Rows L2 StX ClX TL
/-! ### promises of k04 -/
structure Ers4 (K : PySem.W.Frag) (mg : Str → Option Value) (XT XI XN : Addr) : Prop where
  gI : mg "InputError" = some (.ref XI)
  gN : mg "InvalidName" = some (.ref XN)
  kI : PySem.W.kitOne K (.ref XT) (.ref XI) = some true
  kN : PySem.W.kitOne K (.ref XT) (.ref XN) = some false
  kV : PySem.W.kitOne K (.ref XT) (.type "ValueError") = some true
def spFormT (C : Addr) : Sp := fun vs H Q _ => ∃ v : V, vs = [v] ∧
  ((∃ z : Str, v = .str z ∧ z.length ≤ 400 ∧ ((∀ q, Can q → RowB q → textR q ≠ z) → ∀ H', Same H H' → Q .non H') ∧ (∀ v q H', Same H H' → FormAt C H' v q → textR q = z → Q v H')) ∨
   (isS v = false ∧ (∃ A n, Th A H n v) ∧ ∀ H', Same H H' → Q .non H'))
def spReadX (C XT : Addr) : Sp := fun vs H Q E => ∃ v : V, vs = [v] ∧
  ((∃ z : Str, v = .str z ∧ z.length ≤ 400 ∧ (textL z = false → ∀ d H1, Same H H1 → H1 d = none → E (.ref XT) (some d) (upd H1 d (.xd [("value", v)]))) ∧ (textL z = true → ∀ v q H', Same H H' → FormAt C H' v q → textR q = z → Q v H')) ∨
   (isS v = false ∧ (∃ A n, Th A H n v) ∧ ∀ d H1, Same H H1 → H1 d = none → E (.ref XT) (some d) (upd H1 d (.xd [("value", v)]))))
def spNameL : Sp := fun vs H Q _ => ∃ z : Str, vs = [.str z] ∧ z.length ≤ 100000 ∧ ∀ H', Same H H' → Q (.bl (nameS z)) H'
def optS : Option Str → V
  | none => .non
  | some s => .str s
def spTermL : Sp := fun vs H Q _ => ∃ z : Str, vs = [.str z] ∧ z.length ≤ 100000 ∧ ∀ H', Same H H' → Q (optS (termL z)) H'
def spTextIs : Sp := fun vs H Q _ => ∃ z : Str, vs = [.str z] ∧ z.length ≤ 100000 ∧ ∀ H', Same H H' → Q (.bl (textL z)) H'
def spBentL : Sp := fun vs H Q _ => ∃ (p : Addr) (z : Str), vs = [.ref p, .str z] ∧ Dr p H ∧ z.length ≤ 1000 ∧ asc z ∧
  ∀ (z' : Str) H', z'.length ≤ 2 * z.length + 4 → asc z' → Rx [p] H H' → Dr p H' → Q (.str z') H'
/-- what is read: a text, or an odd thing -/
def RdT (K : PySem.W.Frag) (H : Hp) (v : V) : Prop :=
  (∃ z : Str, v = .str z ∧ z.length ≤ 400 ∧ asc z) ∨ (isS v = false ∧ (∃ A n, Th A H n v) ∧ ∃ d, DpT K H v d ∧ d.showable = true ∧ d.depth ≤ 60 ∧ d.shown.length ≤ 100000)
def spReadRight (K : PySem.W.Frag) : Sp := fun vs H Q _ => ∃ v : V, vs = [v] ∧ RdT K H v ∧ ∀ H', Same H H' → Q (.bl true) H'
/-- no form with a text, no text -/
theorem textL_none {z : Str} (hz : z.length ≤ 400) (h : ∀ q, Can q → RowB q → textR q ≠ z) : textL z = false := by
  cases e : textL z with
  | false => rfl
  | true =>
    obtain ⟨q, c, b, t⟩ := textL_form hz e
    exact absurd t (h q c b)
end G


namespace G
open PySem PySem.Spec PyProof.Rows L2 StX ClX TL
theorem split_b {z : Str} : (Txt.split z " ").length ≤ z.length + 1 ∧ (∀ w ∈ Txt.split z " ", w.length ≤ z.length) ∧ ((Txt.split z " ").map (·.length)).sum + (Txt.split z " ").length = z.length + 1 := by
  have hm : tl (" " : Str) ≠ [] := by rw [tl_blank]; simp
  have hk : (" " : Str).cps.all (· < 256) = true := by decide +kernel
  have h := split_len (x := z) hm hk
  have l1 : (" " : Str).length = 1 := by decide +kernel
  rw [l1] at h
  have h4 : 0 < (Txt.split z " ").length := List.length_pos_iff.mpr (split_ne z " ")
  have em : ((Txt.split z " ").map tl).map List.length = (Txt.split z " ").map (·.length) := by
    rw [List.map_map]
    refine List.map_congr_left fun w _ => ?_
    show (tl w).length = w.length
    rw [len_tl]
  refine ⟨by omega, fun w hw => ?_, by rw [← em]; omega⟩
  have h3 := mem_sum (List.mem_map.mpr ⟨tl w, List.mem_map.mpr ⟨w, hw, rfl⟩, rfl⟩ : (tl w).length ∈ ((Txt.split z " ").map tl).map List.length)
  rw [len_tl]
  omega
theorem strip_len {ws : List Str} : (stripF ws).length = ws.length := by cases ws <;> rfl
theorem strip_mem {ws : List Str} {n : Nat} (h : ∀ w ∈ ws, w.length ≤ n) : ∀ w ∈ stripF ws, w.length ≤ n := by
  cases ws with
  | nil => intro w hw; cases hw
  | cons a r =>
    intro w hw
    rcases List.mem_cons.mp (show w ∈ (signF a).2 :: r from hw) with rfl | hw
    · exact Nat.le_trans (len_sign a) (h a List.mem_cons_self)
    · exact h w (List.mem_cons_of_mem _ hw)
abbrev oT (w : Str) : V := optS (termL w)
theorem flat_opt (o : Option Str) : flatV (optS o) = true := by cases o <;> rfl
theorem inV_none (l : List Str) : inV .non (l.map oT) = !(l.all fun w => (termL w).isSome) := by
  unfold inV
  induction l with
  | nil => rfl
  | cons a l ih =>
    rw [List.map_cons, List.any_cons, List.all_cons, ih]
    have : eqV (oT a) .non = !((termL a).isSome) := by
      unfold oT
      cases termL a <;> rfl
    rw [this]
    cases (termL a).isSome <;> rfl
theorem map_oT : ∀ {l : List Str}, (l.all fun w => (termL w).isSome) = true → l.map oT = (l.filterMap termL).map V.str
  | [], _ => rfl
  | a :: l, h => by
    rw [List.all_cons, Bool.and_eq_true] at h
    have ih := map_oT h.2
    cases e : termL a with
    | none => rw [e] at h; cases h.1
    | some s =>
      rw [List.map_cons, List.filterMap_cons, e, ih]
      show optS (termL a) :: _ = _
      rw [e]
      rfl
theorem inV_sg (w : Str) : (!inV (.str w) [V.str (Str.ofString "+"), V.str (Str.ofString "-")]) = !isSg w := by
  unfold inV isSg
  have : ∀ a : Str, eqV (.str a) (.str w) = decide (w = a) := fun a => by
    show (a == w) = decide (w = a)
    by_cases h : w = a
    · rw [h]; simp
    · rw [decide_eq_false h]
      simpa using fun e => h e.symm
  simp only [List.any_cons, List.any_nil, this, Bool.or_false]
theorem take_snoc' {α : Type} {l : List α} {i : Nat} {x : α} (h : l[i]? = some x) : l.take (i + 1) = l.take i ++ [x] := by
  obtain ⟨hi, e⟩ := List.getElem?_eq_some_iff.mp h
  rw [List.take_succ_eq_append_getElem hi, e]
theorem ev_len {α : Type} : ∀ l : List α, (evens l).length ≤ l.length
  | [] => Nat.le_refl _
  | [a] => Nat.le_refl _
  | a :: b :: l => by
    have := ev_len l
    show (a :: evens l).length ≤ _
    simp only [List.length_cons]
    omega
def ltF (ks : List Str) : V → V
  | .int k => .bl (ltS (ks.getD (k - 1).toNat Str.empty) (ks.getD k.toNat Str.empty))
  | _ => .non
theorem ltF_all (ks : List Str) : (rngF 1 (((ks.length : Int) - 1).toNat)).map (ltF ks) = ((List.range (ks.length - 1)).map fun i => ltS (ks.getD i Str.empty) (ks.getD (i + 1) Str.empty)).map V.bl := by
  have e : ((ks.length : Int) - 1).toNat = ks.length - 1 := by omega
  rw [e]
  unfold rngF
  rw [List.map_map, List.map_map]
  refine List.map_congr_left fun i _ => ?_
  show V.bl (ltS (ks.getD ((1 + (i : Int)) - 1).toNat Str.empty) (ks.getD (1 + (i : Int)).toNat Str.empty)) = V.bl _
  rw [show ((1 + (i : Int)) - 1).toNat = i by omega, show (1 + (i : Int)).toNat = i + 1 by omega]
end G
namespace G
open PySem PySem.Spec PyProof.Rows L2 StX ClX TL
theorem odds_mem {α : Type} : ∀ {l : List α} {i : Nat} {v : α}, l[i]? = some v → ¬ i % 2 = 0 → v ∈ odds l
  | [], i, v, h, _ => by simp at h
  | [a], 0, v, h, n => absurd rfl n
  | [a], i + 1, v, h, _ => by simp at h
  | a :: b :: l, 0, v, h, n => absurd rfl n
  | a :: b :: l, 1, v, h, n => by
    have : b = v := by simpa using h
    rw [this]
    exact List.mem_cons_self
  | a :: b :: l, i + 2, v, h, n => List.mem_cons_of_mem _ (odds_mem (l := l) (i := i) (by simpa using h) (by omega))
theorem odds_bad {l : List Str} {i : Nat} {v : Str} (h : l[i]? = some v) (n : ¬ i % 2 = 0) (b : isSg v = false) : (odds l).all isSg = false := by
  cases e : (odds l).all isSg with
  | false => rfl
  | true => rw [List.all_eq_true.mp e v (odds_mem h n)] at b; cases b
end G
namespace G
open PySem PySem.Spec PyProof.Rows L2 StX ClX TL
theorem atI_getD {ks : List Str} {i : Int} (h0 : 0 ≤ i) (h1 : i < ks.length) : atI (ks.map V.str) i = some (.str (ks.getD i.toNat Str.empty)) := by
  obtain ⟨n, rfl⟩ : ∃ n : Nat, i = n := ⟨i.toNat, by omega⟩
  have hn : n < ks.length := by omega
  refine atI_of ?_
  rw [List.getElem?_map, List.getElem?_eq_getElem hn, Int.toNat_natCast, List.getD_eq_getElem?_getD, List.getElem?_eq_getElem hn]
  rfl
end G


namespace G
open PySem PySem.Spec PyProof.Rows L2 StX ClX TL
theorem asc_cutG {z : Str} (h : asc z) (a b : Option Int) : asc (cutS z a b) := by
  intro c hc
  have hc : c ∈ tl (cutS z a b) := hc
  unfold cutS at hc
  rw [tl_mk] at hc
  exact h c (List.mem_of_mem_drop (List.mem_of_mem_take hc))
theorem mem_joinL {S : List Nat} {c : Nat} : ∀ {l : List (List Nat)}, c ∈ joinL S l ↔ (c ∈ S ∧ 2 ≤ l.length) ∨ ∃ w ∈ l, c ∈ w
  | [] => by simp [joinL]
  | [w] => by simp [joinL]
  | w :: v :: l => by
    show c ∈ w ++ (S ++ joinL S (v :: l)) ↔ _
    rw [List.mem_append, List.mem_append, mem_joinL (l := v :: l)]
    constructor
    · rintro (h | h | ⟨h, _⟩ | ⟨x, hx, h⟩)
      · exact .inr ⟨w, List.mem_cons_self, h⟩
      · exact .inl ⟨h, by simp⟩
      · exact .inl ⟨h, by simp⟩
      · exact .inr ⟨x, List.mem_cons_of_mem _ hx, h⟩
    · rintro (⟨h, _⟩ | ⟨x, hx, h⟩)
      · exact .inr (.inl h)
      · rcases List.mem_cons.mp hx with rfl | hx
        · exact .inl h
        · exact .inr (.inr (.inr ⟨x, hx, h⟩))
theorem asc_joinB {ws : List Str} (h : ∀ w ∈ ws, asc w) : asc (Txt.join " " ws) := by
  intro c hc
  have hc : c ∈ tl (Txt.join " " ws) := hc
  rw [join_eq, tl_join, tl_blank] at hc
  rcases mem_joinL.mp hc with ⟨h1, _⟩ | ⟨w, hw, h1⟩
  · have : c = 32 := by simpa using h1
    omega
  · obtain ⟨v, hv, rfl⟩ := List.mem_map.mp hw
    exact h v hv c h1
theorem asc_splitB {z : Str} (h : asc z) : ∀ w ∈ Txt.split z " ", asc w := by
  intro w hw c hc
  refine h c ?_
  have e := congrArg tl (join_split z)
  rw [join_eq, tl_join, tl_blank] at e
  show c ∈ tl z
  rw [← e]
  exact mem_joinL.mpr (.inr ⟨tl w, List.mem_map.mpr ⟨w, hw, rfl⟩, hc⟩)
/-- lengths -/
def lens (ws : List Str) : Nat := (ws.map (·.length)).sum
theorem joinB_len (ws : List Str) : (Txt.join " " ws).length ≤ lens ws + ws.length - 1 := by
  cases ws with
  | nil => decide +kernel
  | cons w ws =>
    have h := join_len [32] ((w :: ws).map tl) (by simp)
    have e : (Txt.join " " (w :: ws)).length = (joinL [32] ((w :: ws).map tl)).length := by rw [len_tl, join_eq, tl_join, tl_blank]
    have em : ((w :: ws).map tl).map List.length = (w :: ws).map (·.length) := by
      rw [List.map_map]
      refine List.map_congr_left fun v _ => ?_
      show (tl v).length = v.length
      rw [len_tl]
    rw [em, List.length_map] at h
    unfold lens
    rw [e]
    simp only [List.length_singleton, Nat.mul_one] at h
    omega
theorem lens_cons (w : Str) (ws : List Str) : lens (w :: ws) = w.length + lens ws := by
  unfold lens
  rw [List.map_cons, List.sum_cons]
theorem lens_app (a b : List Str) : lens (a ++ b) = lens a + lens b := by
  unfold lens
  rw [List.map_append, List.sum_append]
theorem lens_set : ∀ {ws : List Str} {i : Nat} {w x : Str}, ws[i]? = some w → lens (ws.set i x) + w.length = lens ws + x.length
  | [], i, w, x, h => by simp at h
  | a :: ws, 0, w, x, h => by
    have : a = w := by simpa using h
    rw [List.set_cons_zero, lens_cons, lens_cons, this]
    omega
  | a :: ws, i + 1, w, x, h => by
    have := lens_set (ws := ws) (i := i) (x := x) (w := w) (by simpa using h)
    rw [List.set_cons_succ, lens_cons, lens_cons]
    omega
theorem lens_erase : ∀ {ws : List Str} {i : Nat}, lens (ws.eraseIdx i) ≤ lens ws
  | [], i => by simp
  | a :: ws, 0 => by
    rw [List.eraseIdx_cons_zero, lens_cons]
    omega
  | a :: ws, i + 1 => by
    have := lens_erase (ws := ws) (i := i)
    rw [List.eraseIdx_cons_succ, lens_cons, lens_cons]
    omega
theorem lens_ins (ws : List Str) (i : Nat) (x : Str) : lens (ws.take i ++ [x] ++ ws.drop i) = lens ws + x.length := by
  have h := lens_app (ws.take i) (ws.drop i)
  rw [List.take_append_drop] at h
  rw [lens_app, lens_app, lens_cons]
  have : lens [] = 0 := rfl
  omega
theorem len_ins {α : Type} (ws : List α) (i : Nat) (x : α) : (ws.take i ++ [x] ++ ws.drop i).length = ws.length + 1 := by
  have h := congrArg List.length (List.take_append_drop i ws)
  rw [List.length_append] at h
  rw [List.length_append, List.length_append]
  simp only [List.length_singleton]
  omega
theorem mem_ins {α : Type} {ws : List α} {i : Nat} {x y : α} (h : y ∈ ws.take i ++ [x] ++ ws.drop i) : y = x ∨ y ∈ ws := by
  rcases List.mem_append.mp h with h | h
  · rcases List.mem_append.mp h with h | h
    · exact .inr (List.mem_of_mem_take h)
    · exact .inl (by simpa using h)
  · exact .inr (List.mem_of_mem_drop h)
theorem ixN_ofI {n : Nat} {i : Int} (h0 : 0 ≤ i) (h : i < n) : ixN n i = some i.toNat := by
  unfold ixN
  rw [if_pos h0, if_pos h]
/-- what a bent text's words are like -/
theorem bent_fin {z : Str} {ws : List Str} (h : lens ws + ws.length ≤ 2 * z.length + 5) (a : ∀ w ∈ ws, asc w) : (Txt.join " " ws).length ≤ 2 * z.length + 4 ∧ asc (Txt.join " " ws) :=
  ⟨by have := joinB_len ws; omega, asc_joinB a⟩
end G
namespace G
open PySem L2
theorem s_par3 {i j l : Nat} {ta : TA} {D : Ends} {σ : L2.St} {H : Hp} (h : ta σ H fun vs H1 => ∃ u v w, vs = [u, v, w] ∧ D.nx (((σ.set i (some u)).set j (some v)).set l (some w)) H1) : tPar3 i j l ta D σ H := h
end G
namespace G
open PySem L2
theorem map_erase {α β : Type} (f : α → β) : ∀ (l : List α) (i : Nat), (l.map f).eraseIdx i = (l.eraseIdx i).map f
  | [], i => by simp
  | a :: l, 0 => rfl
  | a :: l, i + 1 => by
    rw [List.map_cons, List.eraseIdx_cons_succ, List.eraseIdx_cons_succ, List.map_cons, map_erase f l i]
end G


namespace G
open PySem PySem.Spec PyProof.Rows L2 StX ClX TL
theorem s_smX {C : Addr} {sp : Sp} {W : WX} {ta : TE} {t : TA} {σ : L2.St} {H : Hp} {Q : VK} (h : ta σ H fun x H1 => x = .ref C ∧ t σ H1 fun vs H2 => sp (vs ++ []) H2 Q fun cls d H' => W cls d σ H') : tSMethX C sp W ta t σ H Q := h
theorem s_isXR {K : PySem.W.Frag} {D I dd a : Addr} {fs : List (Str × V)} {H : Hp} {Q : VK} {b : Bool} (hx : H dd = some (.xd fs)) (ek : ExK K D) (kit : PySem.W.kitOne K (.ref D) (.ref I) = some b) (h : Q (.bl b) H) : rIsX K (.ref D) (some dd) a [.ref a, .ref I] H Q :=
  ⟨_, .ref I, b, D, dd, fs, rfl, rfl, rfl, hx, ek, fun u r => r, kit, h⟩
theorem s_isXT {K : PySem.W.Frag} {D dd a : Addr} {T : String} {fs : List (Str × V)} {H : Hp} {Q : VK} {b : Bool} (hx : H dd = some (.xd fs)) (ek : ExK K D) (kit : PySem.W.kitOne K (.ref D) (.type T) = some b) (h : Q (.bl b) H) : rIsX K (.ref D) (some dd) a [.ref a, .ty T] H Q :=
  ⟨_, .type T, b, D, dd, fs, rfl, rfl, rfl, hx, ek, fun u r => r, kit, h⟩
theorem s_xfE {a C dd : Addr} {f : Str} {te : TE} {fs : List (Str × V)} {v : V} {σ : L2.St} {H : Hp} {Q : VK} (h : te σ H fun x H1 => x = .ref a ∧ H1 dd = some (.xd fs) ∧ Q v H1) (hl : fs.lookup f = some v) (m : ∀ (P P' : VK), (∀ x H, P x H → P' x H) → te σ H P → te σ H P') : tXf a (.ref C) (some dd) C f te σ H Q :=
  m _ _ (fun x H1 ⟨h1, h2, h3⟩ => ⟨h1, rfl, dd, fs, v, rfl, h2, hl, h3⟩) h
theorem s_reprT {K : PySem.W.Frag} {v : V} {d : PyData} {H : Hp} {Q : VK} (h : DpT K H v d) (h1 : d.showable = true) (h2 : d.depth ≤ 60) (h3 : d.shown.length ≤ 100000) (q : Q (.str d.shown) H) : rReprT K [v] H Q := ⟨v, d, rfl, h, h1, h2, sz1 (by omega), q⟩
mutual
theorem dp_same {K : PySem.W.Frag} {H H' : Hp} (r : Same H H') : ∀ {d : PyData} {v : V}, Dp K H v d → Dp K H' v d
  | _, _, .non => .non
  | _, _, .bl b => .bl b
  | _, _, .int i => .int i
  | _, _, .str z => .str z
  | _, _, .lst h a => .lst (Same.sqlG r h) (dpAll_same r a)
  | _, _, .tup h a => .tup (Same.sqt r h) (dpAll_same r a)
theorem dpAll_same {K : PySem.W.Frag} {H H' : Hp} (r : Same H H') : ∀ {ds : List PyData} {vs : List V}, DpAll K H vs ds → DpAll K H' vs ds
  | _, _, .nil => .nil
  | _, _, .cons h t => .cons (dp_same r h) (dpAll_same r t)
end
theorem DpT.same {K : PySem.W.Frag} {H H' : Hp} {v : V} {d : PyData} (r : Same H H') (h : DpT K H v d) : DpT K H' v d := by
  cases h with
  | of h n => exact .of (dp_same r h) n
  | dct h => exact .dct (r _ _ h)
theorem th_same {A : Addr → Prop} {n : Nat} {H H' : Hp} {v : V} (r : Same H H') (h : Th A H n v) : Th A H' n v := h.stab (Same.ag r)
/-- what is told of a thing that is refused -/
def badD (z : Str) : PyData := .list [.str z, .list [.bool true, .bool true, .bool false]]
def badT (z : Str) : PyData := .list [badD z, badD z]
theorem bad_plain (z : Str) : (badT z).plain = true := rfl
theorem bad_depth (z : Str) : (badT z).depth ≤ 60 := by
  show PyData.depth (badT z) ≤ 60
  unfold badT badD
  simp only [PyData.depth, PyData.depthAll]
  decide
theorem bad_eqv (z : Str) : PyData.eqv (badT z) (badT z) = true := PySem.SeqAt.eqv_refl_plain _ (bad_plain z)
def BadAt (K : PySem.W.Frag) (H : Hp) (v : V) (z : Str) : Prop := Dp K H v (badD z)
theorem bad_mk {K : PySem.W.Frag} {H : Hp} {a k : Addr} {z : Str} (h1 : H a = some (.lst [.str z, .ref k])) (h2 : H k = some (.lst [.bl true, .bl true, .bl false])) : BadAt K H (.ref a) z :=
  .lst (SqL.of h1) (.cons (.str z) (.cons (.lst (SqL.of h2) (.cons (.bl _) (.cons (.bl _) (.cons (.bl _) .nil)))) .nil))
/-- shown, a text is not long -/
theorem str_shown {z : Str} (hz : z.length ≤ 400) (a : asc z) : (PyData.str z).showable = true ∧ (PyData.str z).depth ≤ 60 ∧ (PyData.str z).shown.length ≤ 100000 := by
  refine ⟨rfl, by simp [PyData.depth], ?_⟩
  have hs : (PyData.str z).leavesShort 43 = true := by
    simp only [PyData.leavesShort]
    rw [List.all_eq_true]
    intro c hc
    have := a c hc
    exact decide_eq_true (by omega)
  have h1 := PyData.shown_le 43 (by decide) _ hs
  have hw : (PyData.str z).weight ≤ 2000 := by
    have h3 : z.cps.size = z.length := rfl
    simp only [PyData.weight]
    omega
  omega
end G


namespace G
open PySem PySem.Spec PyProof.Rows L2 StX ClX TL
theorem Rw.text84 {zs : List Str} {row : Row} (h : Rw zs row) (hs : ∀ z ∈ zs, symS z = true) (h5 : row.length ≤ 6) : (textR row).length ≤ 84 := by
  have part : ∀ p ∈ row, (partR p).length ≤ 14 ∧ (tailR p).length ≤ 14 := by
    intro p hp
    have s := hs _ (h.sub _ (mem_keys hp))
    have l1 := (sym_len s).2
    have l2 : (numL p.2.natAbs).length ≤ 2 := numL_len (by decide) (Nat.lt_of_le_of_lt (h.sm p hp) (by decide))
    have lw : (wordR p).length ≤ 11 := by
      rw [len_tl, tl_word]
      rw [len_tl] at l1
      split
      · omega
      · rw [List.length_append, List.length_cons]
        omega
    have h1 : ("-" : Str).length = 1 := by decide +kernel
    have h2 : (" - " : Str).length = 3 := by decide +kernel
    have h3 : (" + " : Str).length = 3 := by decide +kernel
    unfold partR tailR
    constructor <;> split <;> first | (simp only [len_lit]; omega) | omega
  rw [text_line]
  split
  · decide +kernel
  · unfold lineR
    rw [len_join]
    have ht : ∀ l : Row, (∀ p ∈ l, (tailR p).length ≤ 14) → ((l.map tailR).map (·.length)).sum ≤ 14 * l.length := by
      intro l
      induction l with
      | nil => intro _; simp
      | cons a l ih =>
        intro hl
        have := ih fun p hp => hl p (List.mem_cons_of_mem _ hp)
        have := hl a List.mem_cons_self
        simp only [List.map_cons, List.sum_cons, List.length_cons]
        omega
    cases row with
    | nil => simp [wordsR]
    | cons a r =>
      have h1 := (part a List.mem_cons_self).1
      have h2 := ht r fun p hp => (part p (List.mem_cons_of_mem _ hp)).2
      simp only [wordsR, List.map_cons, List.sum_cons, List.length_cons] at *
      omega
theorem s_disp1V {σ : L2.St} {H : Hp} {Q : VK} {i j : Nat} {z : Str} {v : V} (e : σ[i]? = some (some (.str z))) (e' : σ[j]? = some (some v)) (h : ∀ p H', H p = none → Same H H' → H' p = some (.dK [(Sum.inr z, v)]) → Q (.ref p) H') : tDisp [(tVar i, tVar j)] σ H Q := by
  intro p hp
  refine ⟨_, e, _, e', upd_same, [(Sum.inr z, v)], rfl, by simp, ?_⟩
  have e2 : mergeK [] [((Sum.inr z : Key), v)] = [(Sum.inr z, v)] := rfl
  rw [e2]
  refine h p _ hp ?_ upd_same
  intro a o ea
  rw [upd_ne (ne_of_none ea hp), upd_ne (ne_of_none ea hp)]
  exact ea
theorem leaf_str {z : Str} (a : asc z) : (PyData.str z).leavesShort 43 = true := by
  simp only [PyData.leavesShort]
  rw [List.all_eq_true]
  intro c hc
  have := a c hc
  exact decide_eq_true (by omega)
section
variable {K : PySem.W.Frag} {H : Hp}
theorem rd_str {z : Str} (hz : z.length ≤ 400) (a : asc z) : RdT K H (.str z) := .inl ⟨z, rfl, hz, a⟩
theorem rd_none : RdT K H .non := .inr ⟨rfl, ⟨fun _ => False, 0, trivial⟩, .none, .of .non rfl, rfl, by decide, by decide +kernel⟩
theorem rd_true : RdT K H (.bl true) := .inr ⟨rfl, ⟨fun _ => False, 0, trivial⟩, .bool true, .of (.bl true) rfl, rfl, by decide, by decide +kernel⟩
theorem rd_zero : RdT K H (.int 0) := .inr ⟨rfl, ⟨fun _ => False, 0, trivial⟩, .int 0, .of (.int 0) rfl, by decide +kernel, by decide, by decide +kernel⟩
theorem rd_lst {z : Str} {a : Addr} (hz : z.length ≤ 400) (s : asc z) (e : H a = some (.lst [.str z])) : RdT K H (.ref a) := by
  refine .inr ⟨rfl, ⟨fun _ => False, 0, fun h => h, .inl ⟨_, e⟩⟩, .list [.str z], .of (.lst (SqL.of e) (.cons (.str z) .nil)) rfl, rfl, ?_, ?_⟩
  · simp [PyData.depth, PyData.depthAll]
  · have hs : (PyData.list [.str z]).leavesShort 43 = true := by
      simp only [PyData.leavesShort, PyData.leavesShortAll] at *
      have := leaf_str s
      simp only [PyData.leavesShort] at this
      simp [this]
    have h1 := PyData.shown_le 43 (by decide) _ hs
    have hw : (PyData.list [.str z]).weight ≤ 2000 := by
      have h3 : z.cps.size = z.length := rfl
      simp only [PyData.weight, PyData.weightAll]
      omega
    omega
theorem rd_tup {z : Str} {a : Addr} (hz : z.length ≤ 400) (s : asc z) (e : H a = some (.tup [.str z])) : RdT K H (.ref a) := by
  refine .inr ⟨rfl, ⟨fun _ => False, 0, fun h => h, .inr (.inr ⟨_, e⟩)⟩, .tuple [.str z], .of (.tup (SqT.of e) (.cons (.str z) .nil)) rfl, rfl, ?_, ?_⟩
  · simp [PyData.depth, PyData.depthAll]
  · have hs : (PyData.tuple [.str z]).leavesShort 43 = true := by
      simp only [PyData.leavesShort, PyData.leavesShortAll] at *
      have := leaf_str s
      simp only [PyData.leavesShort] at this
      simp [this]
    have h1 := PyData.shown_le 43 (by decide) _ hs
    have hw : (PyData.tuple [.str z]).weight ≤ 2000 := by
      have h3 : z.cps.size = z.length := rfl
      simp only [PyData.weight, PyData.weightAll]
      omega
    omega
theorem rd_dct {z : Str} {a : Addr} (hz : z.length ≤ 400) (s : asc z) (e : H a = some (.dK [(Sum.inr z, .str z)])) : RdT K H (.ref a) := by
  refine .inr ⟨rfl, ⟨fun _ => False, 0, fun h => h, .inr (.inl ⟨_, e⟩)⟩, .dict [(.str z, .str z)], DpT.dct (kvs := [(z, z)]) e, rfl, ?_, ?_⟩
  · simp [PyData.depth, PyData.depthAll, PyData.depthKv]
  · have hs : (PyData.dict [(.str z, .str z)]).leavesShort 43 = true := by
      have := leaf_str s
      simp only [PyData.leavesShort] at this
      simp [PyData.leavesShort, PyData.leavesShortKv, this]
    have h1 := PyData.shown_le 43 (by decide) _ hs
    have hw : (PyData.dict [(.str z, .str z)]).weight ≤ 2000 := by
      have h3 : z.cps.size = z.length := rfl
      simp only [PyData.weight, PyData.weightKv]
      omega
    omega
end
theorem good_all : ∀ z ∈ (["0", "-a", "a - b", "-2*a + 3*b", "@ - a", "-@ + a1", "10*all - not"] : List Str), textL z = true ∧ z.length ≤ 400 ∧ asc z := by decide +kernel
end G


namespace G
open PySem PySem.Spec PyProof.Rows L2 StX ClX TL
def goodS : List Str := ["0", "-a", "a - b", "-2*a + 3*b", "@ - a", "-@ + a1", "10*all - not"]
def badS : List Str := (["", "-", "+a", "-0", "0*a", "1*a", "a + a", "b + a", "a  + b", "a+b", "a -b", "- a", "2a", "a*2", "2*", "*a"] : List Str) ++ (["a\n", " a", "a ", "0 + a", "a + 0", "a + -b", "a - -b", "view", "2*view", "@@", "02*a", "a,b", "A"] : List Str)
theorem goodS_ok : ∀ z ∈ goodS, textL z = true ∧ z.length ≤ 400 ∧ asc z := by decide +kernel
theorem bothS_ok : ∀ z ∈ goodS ++ badS, z.length ≤ 400 ∧ asc z := by decide +kernel
theorem good_shape : SeqAt.shaped (.list (goodS.map PyData.str)) = true := shaped_strs fun z hz => (goodS_ok z hz).2.2
theorem good_eqv : (!PyData.eqv (.list (goodS.map PyData.str)) (.list (goodS.map PyData.str))) = false := by
  rw [PySem.SeqAt.eqv_refl_plain _ (by decide +kernel)]
  rfl
end G


namespace G
open PySem PySem.Spec PySem.Calls PyProof.Rows L2 StX ClX TL
open Builtin Builtin.ObjectAttr
/-! ### own errors over any of the four built-in ones, held as values -/
/-- what is known of an own error's class -/
structure EcC (K : PySem.W.Frag) (C : Addr) : Prop where
  bx : ∃ (B nw ini : String) (tl : List Value), ExcBaseFacts B nw ini tl ∧ StoreFacts B tl "object.__setattr__" "object" ∧ PySem.W.excInitIn K C tl nw = true ∧ PySem.W.excOver K C tl = true
  hd : PySem.W.hasDictIn K C = true
  sa : PySem.W.findIn K (.ref C) "__setattr__" = some (some (.builtin "object.__setattr__"))
  kC : PySem.W.keepIn K (.ref C) = true
  ek : ExK K C
section
variable {prog : Program} {w : World} {A : Around} {R : Result → Shared → Prop} {s : Shared} {K : PySem.W.Frag} {C x : Addr} {nm : Str} {tk : Tok} {v : Value} {fv : Array Value}
theorem tk_none (h : PySem.W.findIn K (.ref C) nm = some none) : PySem.W.takerIn K C nm = some none := by
  unfold PySem.W.takerIn
  rw [h]
  rfl
/-- the first field of an error laid: its dict is laid too -/
theorem erf_new (c : EcC K C) (X : K.In s.heap) (hx : s.heap.get? x = some { cls := .ref C, data := .fields fv }) (hn : PySem.W.findIn K (.ref C) nm = some none)
    (go : ∀ (h' : Heap) (n dx : Nat), (∀ b o, b ≠ x → s.heap.get? b = some o → h'.get? b = some o) → s.heap.objs.size ≤ dx → dx ≠ x → h'.get? x = some { cls := .ref C, dict := some dx, data := .fields fv } →
      h'.Ns1 dx (fun y => if y = nm then some v else none) → R (.ok (.ret .none)) { s with heap := h', toks := n }) :
    codeAny (model prog w) A (.call (.builtin "object.__setattr__") ⟨[.ref x, .str nm tk, v], []⟩) R s := by
  obtain ⟨B, nw, ini, tl, FB, SF, xi, xo⟩ := c.bx
  obtain ⟨cd, hcd, hh⟩ := PySem.W.any_some c.hd
  have lc : PySem.W.Looks (model prog w) s.heap (classData C) cd := PySem.W.looks_clsIn X hcd
  have lx : s.heap.objs.size ≠ x := Nat.ne_of_gt (Heap.lt_size hx)
  refine PySem.W.osa_openX SF X (ox := { cls := .ref C, data := .fields fv }) (od := none) ⟨hx, rfl, rfl, trivial⟩ xo (tk_none hn) fun b => ?_
  obtain ⟨hp, g, d, t, os⟩ := s
  obtain ⟨c1, c2, c3, c4, c5, c6, c7, c8, c9, c10, c11⟩ := cd
  obtain rfl : c6 = true := hh
  show wpAny _ _ (storeInOwnDict (.ref x) (.ref C) (.str nm tk) nm v b) _ _ _
  unfold storeInOwnDict ownDictForStores
  repeat' (first | with_reducible refine wpAny_loadPart_at hx ?_ | with_reducible refine lc.at ?_ | with_reducible refine PySem.PX.store_in_new ?gnew ?gput | wp_step)
  case gnew => exact ⟨_, #[], _, (Heap.get?_update_ne _ _ _ _ lx).trans (Heap.get?_push_at rfl rfl), rfl, fun e he => absurd he (by simp), fun _ => rfl⟩
  case gput =>
    intro h' n hN hS
    refine go h' n hp.objs.size (fun b o nb ob => ?_) (Nat.le_refl _) lx ?_ hN
    · rw [hS.2 b (Nat.ne_of_lt (Heap.lt_size ob)), Heap.get?_update_ne _ _ _ _ nb]
      exact Heap.get?_push_of_some _ ob
    · rw [hS.2 x lx.symm]
      exact Heap.get?_update_self _ (Heap.get?_push_of_some _ hx) rfl
/-- a further field -/
theorem erf_old {dx : Addr} {mA : Str → Option Value} {nl : List Str} (c : EcC K C) (X : K.In s.heap) (hx : s.heap.get? x = some { cls := .ref C, dict := some dx, data := .fields fv }) (hN : s.heap.Ns1 dx mA) (hw : Within mA nl) (hz : nl.length ≤ 1000) (hn : PySem.W.findIn K (.ref C) nm = some none)
    (go : ∀ (h' : Heap) (n : Nat), (∀ b o, b ≠ dx → s.heap.get? b = some o → h'.get? b = some o) → h'.Ns1 dx (fun y => if y = nm then some v else mA y) → R (.ok (.ret .none)) { s with heap := h', toks := n }) :
    codeAny (model prog w) A (.call (.builtin "object.__setattr__") ⟨[.ref x, .str nm tk, v], []⟩) R s := by
  obtain ⟨B, nw, ini, tl, FB, SF, xi, xo⟩ := c.bx
  obtain ⟨cd, hcd, hh⟩ := PySem.W.any_some c.hd
  have lc : PySem.W.Looks (model prog w) s.heap (classData C) cd := PySem.W.looks_clsIn X hcd
  obtain ⟨oD, _, _, hoD, _, _⟩ := hN.count hw
  refine PySem.W.osa_openX SF X (ox := { cls := .ref C, dict := some dx, data := .fields fv }) (od := some oD) ⟨hx, rfl, rfl, hoD⟩ xo (tk_none hn) fun b => ?_
  obtain ⟨hp, g, d, t, os⟩ := s
  obtain ⟨c1, c2, c3, c4, c5, c6, c7, c8, c9, c10, c11⟩ := cd
  obtain rfl : c6 = true := hh
  show wpAny _ _ (storeInOwnDict (.ref x) (.ref C) (.str nm tk) nm v b) _ _ _
  unfold storeInOwnDict ownDictForStores
  repeat' (first | with_reducible refine wpAny_loadPart_at hx ?_ | with_reducible refine lc.at ?_ | with_reducible refine PySem.OEX.store_in_old hN hw hz ?gput | wp_step)
  intro h' n h1 h2
  refine go h' n (fun b o nb ob => ?_) h1
  rw [h2.2 b nb]
  exact ob
end
/-! ### an error of the class C with these fields (the last one first) stands at a -/
def Erv (H : Hp) (a C : Addr) (fs : List (Str × V)) : Prop := ∃ d, H a = some (exo a C (some d)) ∧ H d = some (exd d fs)
section
variable {X : Cx} {pins : List (Addr × Obj)} {σ : L2.St} {H : Hp} {s : Shared} {a C dx : Addr} {f : Str} {y : V} {u : Value} {fs : List (Str × V)} {A : Around} {E : Value → Shared → Prop} {Q : Unit → Shared → Prop}
theorem set_new (c : EcC X.K C) (I : Inv X pins σ H s) (e : H a = some (exo a C none)) (hn : PySem.W.findIn X.K (.ref C) f = some none) (ry : RelV y u)
    (go : ∀ dx s', H dx = none → dx ≠ a → Inv X pins σ (upd (upd H dx (exd dx [(f, y)])) a (exo a C (some dx))) s' → Q () s') : wpAny (model X.prog X.w) A (setAttr (.ref a) f u) Q E s := by
  obtain ⟨t1, ho⟩ := exo_at I.hok e
  refine PySem.W.set_plain I.kIn (ox := { cls := .ref C, dict := none, data := .fields #[.ref t1, .none, .none, .none, .bool false, .none] }) (od := none) ⟨ho, rfl, rfl, trivial⟩ c.sa ?_
  refine erf_new (s := { s with toks := s.toks + 1 }) c I.kIn ho hn fun h' n dx k dn ne hx hN => ?_
  have hd : H dx = none := I.hok.fresh dn
  obtain ⟨oD, es, ep, hoD, rest⟩ := hN
  -- the heap in which the dict is laid and the error is as it was
  have g0 : (h'.update a fun _ => { cls := .ref C, dict := none, data := .fields #[.ref t1, .none, .none, .none, .bool false, .none] }).get? a = some { cls := .ref C, dict := none, data := .fields #[.ref t1, .none, .none, .none, .bool false, .none] } := Heap.get?_update_self _ hx rfl
  have g1 : ∀ b, b ≠ a → (h'.update a fun _ => { cls := .ref C, dict := none, data := .fields #[.ref t1, .none, .none, .none, .bool false, .none] }).get? b = h'.get? b := fun b nb => Heap.get?_update_ne _ _ _ _ nb
  have I1 := I.laid (t' := n) (a := dx) (o := exd dx [(f, y)]) (h' := h'.update a fun _ => { cls := .ref C, dict := none, data := .fields #[.ref t1, .none, .none, .none, .bool false, .none] })
    (fun b o ob => by
      by_cases nb : b = a
      · subst nb
        rw [g0, ← ob, ho]
      · rw [g1 b nb]
        exact k b o nb ob) dn (exd_ok (mA := fun z => if z = f then some u else none) ⟨oD, es, ep, by rw [g1 dx ne]; exact hoD, rest⟩ (relO_put (fs := []) ry fun _ => True.intro))
  have ea : upd H dx (exd dx [(f, y)]) a = some (exo a C none) := by rw [upd_ne (Ne.symm ne)]; exact e
  have I2 := I1.write (t' := n) (x := a) (e := a) (o := exo a C (some dx)) (h' := h') (by rw [ea]; exact True.intro) (.inl rfl) (fun b o nb ob => by rw [← g1 b nb]; exact ob) ⟨_, hx⟩ (exo_ok hx)
  exact go dx _ hd ne I2
theorem set_old (c : EcC X.K C) (I : Inv X pins σ H s) (e : H a = some (exo a C (some dx))) (ed : H dx = some (exd dx fs)) (hl : fs.length ≤ 900) (hn : PySem.W.findIn X.K (.ref C) f = some none) (ry : RelV y u)
    (go : ∀ s', Inv X pins σ (upd H dx (exd dx ((f, y) :: fs))) s' → Q () s') : wpAny (model X.prog X.w) A (setAttr (.ref a) f u) Q E s := by
  obtain ⟨t1, ho⟩ := exo_at I.hok e
  obtain ⟨mA, hN, rel⟩ := exd_at I.hok ed
  have hw := within_of rel
  obtain ⟨oD, _, _, hoD, _, _⟩ := hN.count hw
  refine PySem.W.set_plain I.kIn (ox := { cls := .ref C, dict := some dx, data := .fields #[.ref t1, .none, .none, .none, .bool false, .none] }) (od := some oD) ⟨ho, rfl, rfl, hoD⟩ c.sa ?_
  refine erf_old (s := { s with toks := s.toks + 1 }) c I.kIn ho hN hw (by rw [List.length_map]; omega) hn fun h' n k hN' => ?_
  refine go _ (I.write (t' := n) (x := dx) (e := dx) (o := exd dx ((f, y) :: fs)) (h' := h') (by rw [ed]; exact True.intro) (.inl rfl) k ?_ (exd_ok hN' (relO_put ry rel)))
  obtain ⟨o, _, _, eo, _⟩ := hN'
  exact ⟨o, eo⟩
end
/-- self.f = e, in an error's __init__ -/
def tErF (K : PySem.W.Frag) (f : Str) (to te : TE) : TS := fun D σ H => te σ H fun y H1 => to σ H1 fun x H2 => ∃ a C : Addr, x = .ref a ∧ EcC K C ∧ PySem.W.findIn K (.ref C) f = some none ∧
  ((H2 a = some (exo a C none) ∧ ∀ d, H2 d = none → d ≠ a → D.nx σ (upd (upd H2 d (exd d [(f, y)])) a (exo a C (some d)))) ∨
    ∃ d fs, H2 a = some (exo a C (some d)) ∧ H2 d = some (exd d fs) ∧ fs.length ≤ 900 ∧ D.nx σ (upd H2 d (exd d ((f, y) :: fs))))
section
variable {X : Cx} {o e : Expr} {to te : TE} {f : Str} {p' pos : Pos}
theorem ps_erf (K : PySem.W.Frag) (ho : PE X o to) (he : PE X e te) (hk : X.K = K := by rfl) (hs : swapsWith e (some (.Attribute o f p')) pos.line X.env = pure false := by rfl) : PS X (.Assign [.Attribute o f p'] e pos) (tErF K f to te) := by
  subst hk
  constructor
  intro pins s σ H D I h
  refine plainObj_wpAny_Assign_Attribute (thn (he.run pins s σ H _ I h) ?_) hs
  rintro v s1 ⟨y, H1, I1, r1, q1⟩
  refine thn (ho.run pins s1 σ H1 _ I1 q1) ?_
  rintro u s2 ⟨x, H2, I2, r2, a, C, rfl, c, hn, q⟩
  obtain rfl : u = Value.ref a := r2
  rcases q with ⟨ea, q⟩ | ⟨d, fs, ea, ed, hl, q⟩
  · exact set_new c I2 ea hn r1 fun dx s' n ne J => ⟨σ, _, J, q dx n ne⟩
  · exact set_old c I2 ea ed hl hn r1 fun s' J => ⟨σ, _, J, q⟩
end
/-! ### C(..) as a value -/
section
variable {prog : Program} {w : World} {A : Around} {R : Result → Shared → Prop} {hp : Heap} {g : Array GenState} {dr : Drawn} {t : Nat} {os : OsState} {K : PySem.W.Frag} {C fI : Addr} {us : List Value} {kw : List (Str × Value)}
/-- the class is called: the object, then its own __init__ (by values, by keywords) -/
theorem make_err (c : EcC K C) (X : K.In hp) (hi : PySem.W.findIn K (.ref C) "__init__" = some (some (.ref fI))) (ti : PySem.W.typeIn K (.ref fI) = some (.type "function")) (hz : us.length ≤ sizeLine)
    (go : codeAny (model prog w) (A.under (.builtin "type.__call__" ⟨.ref C :: us, kw⟩)) (.call (.ref fI) ⟨.ref (hp.objs.size + 1) :: us, kw⟩) (PySem.W.InitBack (hp.objs.size + 1) R)
      ⟨(hp.push (PySem.W.kdv_tup us)).push (PySem.PX.excO C hp.objs.size), g, dr, t, os⟩) :
    codeAny (model prog w) A (.call (.ref C) ⟨us, kw⟩) R ⟨hp, g, dr, t, os⟩ := by
  obtain ⟨B, nw, ini, tl, FB, _, xi, _⟩ := c.bx
  obtain ⟨nm, N, qn, bs, bm, hdct, sn, sub, ab, col, dd, k0, k1, k2, k3, k5, hC, hT⟩ := PySem.W.excInit_of X xi
  -- what stands among the class's bases
  have has : ∀ {Y : String} {b : Bool}, tl.contains (.type Y) = b → (Value.ref C :: bm).contains (.type Y) = b := fun {Y b} e => by
    rw [List.contains_cons, hT, e]
    cases b <;> rfl
  have cB := has FB.hasB
  have cA := has FB.noAttr
  have cN := has FB.noName
  have cC : (Value.ref C :: bm).contains (.ref C) = true := by simp
  have keep : ∀ b o, hp.get? b = some o → ((hp.push (PySem.W.kdv_tup us)).push (PySem.PX.excO C hp.objs.size)).get? b = some o := fun b o e => Heap.get?_push_of_some _ (Heap.get?_push_of_some _ e)
  have hC1 := keep _ _ hC
  have hE : ((hp.push (PySem.W.kdv_tup us)).push (PySem.PX.excO C hp.objs.size)).get? (hp.objs.size + 1) = some (PySem.PX.excO C hp.objs.size) := by heap_get
  have l1 := (PySem.W.looks_findIn (M := model prog w) X hi).keeps keep
  have l2 := (PySem.W.bind_fn (M := model prog w) X (.ref (hp.objs.size + 1)) ti).keeps keep
  have st := FB.noStar
  have en := FB.ends
  -- __new__
  have check : ∀ {A' : Around} {Q : Unit → Shared → Prop} {E' : Value → Shared → Prop}, Q () ⟨hp, g, dr, t, os⟩ → wpAny (model prog w) A' (checkBuiltinCall nw ⟨.ref C :: us, kw⟩) Q E' ⟨hp, g, dr, t, os⟩ := fun {A' Q E'} q => by
    simp only [checkBuiltinCall, FB.newKind, FB.newSplit, FB.newRow]
    repeat (first | (refine wpAny_isSubtype_exc hC ?_; rw [cB]) | refine wpAny_madeBy_exc hC ?_ | refine wpAny_staticBase_exc hC ?_ | refine wpAny_loadPart_at hC ?_ | simp only [bne_self_eq_false, Bool.false_eq_true, if_false] | wp_step)
    exact q
  have laid : ∀ {A' : Around} {R' : Result → Shared → Prop}, R' (.ok (.ret (.ref (hp.objs.size + 1)))) ⟨(hp.push (PySem.W.kdv_tup us)).push (PySem.PX.excO C hp.objs.size), g, dr, t, os⟩ → codeAny (model prog w) A' (.builtin nw ⟨.ref C :: us, kw⟩) R' ⟨hp, g, dr, t, os⟩ := fun {A' R'} q => by
    refine codeAny_builtinAt FB.entry ?_
    unfold Builtin.«BaseException.__new__»
    refine PySem.wpAt_bind ?_
    change PySem.wpAt _ _ _ (stack >>= _) _ _ _
    refine PySem.wpAt_bind (PySem.wpAt_stack fun p below => PySem.wpAt_of_wpAny ?_)
    wp_walk
    refine PySem.wpAt_of_wpAny ?_
    rw [FB.owner]
    repeat (first | (with_reducible refine wpAny_isSubtype_exc hC ?_; first | rw [cN] | rw [cA] | rw [cB]) | with_reducible refine wpAny_madeHere_exc FB.canon hC ?_ | with_reducible refine wpAny_loadPart_at hC ?_ | wp_step)
    rw [show (hp.push { cls := .type "tuple", data := .seq us.toArray }).objs.size = hp.objs.size + 1 from Heap.size_push _ _]
    exact q
  -- the class's own call
  have e1 := tc_lookup
  have e2 := tc_bind (.ref C)
  have ty : (⟨hp, g, dr, t, os⟩ : Shared).TypeIs (.ref C) "type" := ⟨_, hC, rfl⟩
  refine codeAny_of_tree ?_
  change wpAny _ _ (callAny (.ref C) _) _ _ _
  repeat (any_goals (first | assumption | with_reducible refine wpAny_loadPart_at hC ?_ | wp_step))
  refine ⟨rfl, codeAny_call_builtin_at (Code.quiet_builtin _ (by decide +kernel)) entry_typeCall (wpAny_check_type_call_sub hC ?_)⟩
  repeat (first | with_reducible refine wpAny_madeBy_exc hC ?_ | with_reducible refine wpAny_loadPart_at hC ?_ | wp_step)
  refine codeAny_call_builtin_code (Code.quiet_builtin _ FB.quiet) (check (laid ?_))
  change wpAny _ _ _ _ _ _
  unfold isInstance
  repeat (first | (with_reducible refine wpAny_isSubtype_exc hC1 ?_; rw [cC]) | with_reducible refine wpAny_loadPart_at hE ?_ | wp_step)
  change wpAny _ _ (typeLookup (.ref C) _) _ _ _
  refine l1.at (wpAny_holding (wpAny_bind (l2.at (wpAny_bind (wpAny_call (codeAny_mono go fun r s' z => ?_))))))
  rcases r with x | x
  · exact z
  · cases x with
    | ret v =>
      obtain ⟨rfl, z⟩ := z
      first | exact wpAny_pure (wpAny_pure z) | (wp_walk; exact z)
    | _ => exact z.elim
end
end G


namespace G
open PySem PySem.Spec PySem.Calls PyProof.Rows L2 StX ClX TL
/-! ### promises of errors' __init__ -/
def spErI (C : Addr) (fsn : List Str) : Sp := fun vs H Q _ => ∃ (a : Addr) (ys : List V), vs = .ref a :: ys ∧ ys.length = fsn.length ∧ H a = some (exo a C none) ∧
  ∀ H', Rx [a] H H' → Erv H' a C (fsn.zip ys).reverse → Q .non H'
/-- a class of errors stands under its name: its __init__ by its row -/
structure AtEI (K : PySem.W.Frag) (mg : Str → Option Value) (nm : Str) (C : Addr) (fsn : List Str) (q : Str) (st : Stmt) : Prop where
  gl : mg nm = some (.ref C)
  ec : EcC K C
  no : ∀ f ∈ fsn, PySem.W.findIn K (.ref C) f = some none
  fn : ∃ (fI : Addr) (fd : FuncData), Fun K "__init__" q st fI fd ∧ PySem.W.findIn K (.ref C) "__init__" = some (some (.ref fI)) ∧ PySem.W.typeIn K (.ref fI) = some (.type "function")
structure HasEI (P : Program) (w : World) (K : PySem.W.Frag) (mg : Str → Option Value) (base : Heap) (nm : Str) (C : Addr) (fsn : List Str) (st : Stmt) : Prop where
  gl : mg nm = some (.ref C)
  ec : EcC K C
  no : ∀ f ∈ fsn, PySem.W.findIn K (.ref C) f = some none
  ok : ∃ (fI : Addr) (fd : FuncData) (q : Str), Fun K "__init__" q st fI fd ∧ PySem.W.findIn K (.ref C) "__init__" = some (some (.ref fI)) ∧ PySem.W.typeIn K (.ref fI) = some (.type "function") ∧
    Binds K fd ("self" :: fsn) [] ∧ Fg P w K mg base CX0 1 fI fd ("self" :: fsn) (spErI C fsn)
theorem vis_par {N ps : List Str} {sc : Scope} (S : FnScope N ps sc) {x : Str} (h : x ∈ ps) : Vis sc x := by
  rcases S.par x h with q | q
  · exact .inl q
  · exact .inr (.inl q)
section
variable {P : Program} {w : World} {K : PySem.W.Frag} {mg : Str → Option Value} {base : Heap} {nm : Str} {C : Addr} {q : Str} {st : Stmt} {f f2 : Str} {p1 p2 p3 p4 p5 p6 p7 p8 : Pos}
/-- def __init__(self, f): self.f = f -/
theorem hasEI_1 (D : AtEI K mg nm C [f] q st) (hbody : defBody st = [.Assign [.Attribute (.Name "self" p1) f p2] (.Name f p3) p4]) (S : FnScope ["self", f] ["self", f] (defScope st))
    (hbi : ∀ (kV doc pm : Value) (an : Option Addr) (cdv ct : Value) (us : List Value), us.length = 2 → bindArgs (PySem.W.fnOf "__init__" q (defArgs st) (defBody st) (defScope st) .none kV doc pm an cdv ct) ⟨us, []⟩ = pure ((["self", f] : List Str).zip us)) (f1 : (f == ("__debug__" : Str)) = false := by decide) (f3 : (f == ("__classdict__" : Str)) = false := by decide) :
    HasEI P w K mg base nm C [f] st := by
  obtain ⟨gl, ec, no, fI, fd, F, iC, tI⟩ := D
  refine ⟨gl, ec, no, fI, fd, q, F, iC, tI, F.binds (ps := ["self", f]) hbi, ok0 F S (fun vs H Q E h => ?_) fun cdv A outer s H vs Q E hr hg h => ?_⟩
  · obtain ⟨a, ys, rfl, hl, _⟩ := h
    simp only [List.length_cons, hl, List.length_nil]
  · rw [hbody]
    obtain ⟨a, ys, rfl, hl, ha, go⟩ := h
    obtain ⟨y, rfl⟩ : ∃ y, ys = [y] := by
      match ys, hl with
      | [y], _ => exact ⟨y, rfl⟩
    refine ⟨_, pss_one (ps_erf K (pv 0 rfl (vis_par S (by simp))) (pv 1 rfl (vis_par S (by simp)) f1 f3)), ?_⟩
    refine ⟨y, rfl, V.ref a, rfl, a, C, rfl, ec, no f List.mem_cons_self, .inl ⟨ha, fun d hd ne => go _ (fun b o nb ob => ?_) ⟨d, upd_same, by rw [upd_ne ne, upd_same]; rfl⟩⟩⟩
    have nb' : b ≠ a := fun z => nb (by rw [z]; exact List.mem_cons_self)
    rw [upd_ne nb', upd_ne (ne_of_none ob hd)]
    exact ob
/-- .. of two fields -/
theorem hasEI_2 (D : AtEI K mg nm C [f, f2] q st) (hbody : defBody st = [.Assign [.Attribute (.Name "self" p1) f p2] (.Name f p3) p4, .Assign [.Attribute (.Name "self" p5) f2 p6] (.Name f2 p7) p8]) (S : FnScope ["self", f, f2] ["self", f, f2] (defScope st))
    (hbi : ∀ (kV doc pm : Value) (an : Option Addr) (cdv ct : Value) (us : List Value), us.length = 3 → bindArgs (PySem.W.fnOf "__init__" q (defArgs st) (defBody st) (defScope st) .none kV doc pm an cdv ct) ⟨us, []⟩ = pure ((["self", f, f2] : List Str).zip us)) (f1 : (f == ("__debug__" : Str)) = false := by decide) (f3 : (f == ("__classdict__" : Str)) = false := by decide) (g1 : (f2 == ("__debug__" : Str)) = false := by decide) (g3 : (f2 == ("__classdict__" : Str)) = false := by decide) :
    HasEI P w K mg base nm C [f, f2] st := by
  obtain ⟨gl, ec, no, fI, fd, F, iC, tI⟩ := D
  refine ⟨gl, ec, no, fI, fd, q, F, iC, tI, F.binds (ps := ["self", f, f2]) hbi, ok0 F S (fun vs H Q E h => ?_) fun cdv A outer s H vs Q E hr hg h => ?_⟩
  · obtain ⟨a, ys, rfl, hl, _⟩ := h
    simp only [List.length_cons, hl, List.length_nil]
  · rw [hbody]
    obtain ⟨a, ys, rfl, hl, ha, go⟩ := h
    obtain ⟨y, z, rfl⟩ : ∃ y z, ys = [y, z] := by
      match ys, hl with
      | [y, z], _ => exact ⟨y, z, rfl⟩
    refine ⟨_, pss_cons (ps_erf K (pv 0 rfl (vis_par S (by simp))) (pv 1 rfl (vis_par S (by simp)) f1 f3)) (pss_one (ps_erf K (pv 0 rfl (vis_par S (by simp))) (pv 2 rfl (vis_par S (by simp)) g1 g3))), ?_⟩
    refine ⟨y, rfl, V.ref a, rfl, a, C, rfl, ec, no f List.mem_cons_self, .inl ⟨ha, fun d hd ne => ?_⟩⟩
    refine ⟨z, rfl, V.ref a, rfl, a, C, rfl, ec, no f2 (List.mem_cons_of_mem _ List.mem_cons_self), .inr ⟨d, [(f, y)], upd_same, by rw [upd_ne ne, upd_same], by simp, go _ (fun b o nb ob => ?_) ⟨d, ?_, by rw [upd_same]; rfl⟩⟩⟩
    · have nb' : b ≠ a := fun z => nb (by rw [z]; exact List.mem_cons_self)
      rw [upd_ne (ne_of_none ob hd), upd_ne nb', upd_ne (ne_of_none ob hd)]
      exact ob
    · rw [upd_ne (Ne.symm ne), upd_same]
end
/-! ### C(..) -/
def tErr (C : Addr) (fsn : List Str) (gV : List V → List V) (ta : TA) : TE := fun σ H Q => ta σ H fun vs H1 => vs.length = fsn.length ∧ (gV vs).length = fsn.length ∧ ∀ a H2, Same H1 H2 → Erv H2 a C (fsn.zip (gV vs)).reverse → Q (.ref a) H2
section
variable {X : Cx} {nm : Str} {C : Addr} {fsn ks : List Str} {st : Stmt} {p pos : Pos} {e : Expr} {es : List Expr} {kws : List Keyword} {ta tk : TA} {pins : List (Addr × Obj)} {σ : L2.St} {H : Hp} {s : Shared} {Q : VK}
theorem run_err {us : List Value} {kw : List (Str × Value)} {zs : List V} {ws : List Value} (h : HasEI X.prog X.w X.K X.mg X.base nm C fsn st) (hr : Room 2 X.A) (hgd : Gd X.A) (I : Inv X pins σ H s) (hz : us.length ≤ sizeLine)
    (hb : ∀ (s' : Shared) (x : Value) (fd : FuncData) (q : Str) (fI : Addr), X.K.In s'.heap → Fun X.K "__init__" q st fI fd → Binds X.K fd ("self" :: fsn) [] → BindsTo s' fd ⟨x :: us, kw⟩ ((("self" : Str) :: fsn).zip (x :: ws))) (r : Vals zs ws) (hl : zs.length = fsn.length)
    (go : ∀ a H2, Same H H2 → Erv H2 a C (fsn.zip zs).reverse → Q (.ref a) H2) : wpAny (model X.prog X.w) X.A (call (.ref C) us kw) (EP X pins σ Q) X.xe s := by
  obtain ⟨gl, ec, no, fI, fd, q, F, iC, tI, bi, ok⟩ := h
  obtain ⟨hp, g, dr, t, os⟩ := s
  have hn : H (hp.objs.size + 1) = none := I.hok.fresh (Nat.le_succ _)
  have I2 : Inv X pins σ (upd H (hp.objs.size + 1) (exo (hp.objs.size + 1) C none)) ⟨(hp.push (PySem.W.kdv_tup us)).push (PySem.PX.excO C hp.objs.size), g, dr, t, os⟩ :=
    I.laid (t' := t) (fun b o e => Heap.get?_push_of_some _ (Heap.get?_push_of_some _ e)) (Nat.le_succ _) (exo_ok (t1 := hp.objs.size) (by heap_get))
  have gd2 : Gd (X.A.under (.builtin "type.__call__" ⟨.ref C :: us, kw⟩)) := by
    unfold Gd at hgd ⊢
    first | exact hgd | simpa [Around.under, Code.guards, Code.isGuard, pushGuards, guardIds] using hgd
  refine wpAny_call (make_err ec I.kIn iC tI hz (codeAny_mono (ok.go _ X.stack _ _ ⟨.ref (hp.objs.size + 1) :: us, kw⟩ (.ref (hp.objs.size + 1) :: ws) (.ref (hp.objs.size + 1) :: zs) (fun v H2 => v = .non ∧ Q (.ref (hp.objs.size + 1)) H2) E0 (hr.make C us kw) gd2 (I2.env0.make C us kw) (hb _ _ fd q fI I2.kIn F bi) (.cons rfl r) ?sp) fun rr s' z => ?_))
  case sp =>
    refine ⟨_, zs, rfl, hl, upd_same, fun H' rx ev => ⟨rfl, go _ H' (fun b o ob => ?_) ev⟩⟩
    have nb : b ≠ hp.objs.size + 1 := ne_of_none ob hn
    exact rx b o (by simpa using nb) (by rw [upd_ne nb]; exact ob)
  cases rr with
  | error e => exact z.elim
  | ok fl =>
    cases fl with
    | ret u =>
      obtain ⟨v, H', I3, rv, ev, q3⟩ := I2.after z
      subst ev
      exact ⟨rv, ⟨V.ref (hp.objs.size + 1), H', I3, rfl, q3⟩⟩
    | _ => exact z.elim
theorem pe_err (h : HasEI X.prog X.w X.K X.mg X.base nm C fsn st) (hr : Room 2 X.A) (hgd : Gd X.A) (hg : Gl X nm) (ha : PA X (e :: es) ta) (hfs : fsn.length ≤ 1000 := by decide)
    (hdb : (nm == ("__debug__" : Str)) = false := by decide) (hst : starEach (e :: es) X.env = (false, eval e X.env) :: starEach es X.env := by rfl) (hpl : (backTo pos (starEach es X.env)).any (·.1) = false := by rfl) :
    PE X (.Call (.Name nm p) (e :: es) [] pos) (tErr C fsn (fun vs => vs) ta) := by
  constructor
  intro pins s σ H Q I hh
  refine wpAny_Call_Name_kw (ld_glob I hg h.gl ?_ hdb)
  refine PySem.W.callWith_K (h₀ := X.base) I.ok.mod.kin h.ec.kC (thn (ha.run pos pins s σ H _ I hh) ?_) hst hpl
  rintro us s1 ⟨vs, H1, I1, r, hl, _, q⟩
  have hlu : us.length = fsn.length := r.length.symm.trans hl
  refine ⟨I1.kIn, ?_⟩
  show wpAny _ _ (call (.ref C) us) _ _ _
  refine run_err (zs := vs) (ws := us) h hr hgd I1 (by rw [hlu, sizeLine_eq]; omega) (fun s' x fd q fI K' F bi => ?_) r hl q
  have b := bi s' (x :: us) K' (by simp [hlu])
  rw [List.append_nil] at b
  exact b
/-- by keywords: g puts what is given into the parameters' order -/
theorem pe_errZ {g : {α : Type} → List α → List α} (h : HasEI X.prog X.w X.K X.mg X.base nm C fsn st) (hr : Room 2 X.A) (hgd : Gd X.A) (hg : Gl X nm) (hkw : PK X kws tk)
    (hgl : ∀ {α : Type} (l : List α), l.length = fsn.length → (g l).length = fsn.length) (hgv : ∀ {zs : List V} {ws : List Value}, Vals zs ws → Vals (g zs) (g ws))
    (hb : ∀ (q : Str) (kV doc pm : Value) (an : Option Addr) (cdv ct x : Value) (ws : List Value), ws.length = fsn.length →
      bindArgs (PySem.W.fnOf "__init__" q (defArgs st) (defBody st) (defScope st) .none kV doc pm an cdv ct) ⟨[x], ks.zip ws⟩ = pure ((("self" : Str) :: fsn).zip (x :: g ws)))
    (hall : (backToKw pos (keywordEach kws X.env)).all (·.1.isSome) = true := by rfl)
    (hks : (backToKw pos (keywordEach kws X.env)).filterMap (·.1) = ks := by rfl)
    (hdb : (nm == ("__debug__" : Str)) = false := by decide)
    (hpl : ((backTo pos (starEach [] X.env)).any (·.1) || (backToKw pos (keywordEach kws X.env)).any (·.1.isNone)) = false := by rfl) :
    PE X (.Call (.Name nm p) [] kws pos) (tErr C fsn g tk) := by
  constructor
  intro pins s σ H Q I hh
  refine wpAny_Call_Name_kw (ld_glob I hg h.gl ?_ hdb)
  refine PySem.W.callWith_KW0 (h₀ := X.base) I.ok.mod.kin h.ec.kC hall ?_ hpl
  refine thn (hkw.run pos pins s σ H _ I hh) ?_
  rintro ws s2 ⟨zs, H2, I2, rz, hl, hl2, q2⟩
  refine ⟨I2.kIn, ?_⟩
  rw [hks]
  refine run_err (us := []) (zs := g zs) (ws := g ws) h hr hgd I2 (Nat.zero_le _) (fun s' x fd q fI K' F bi => ?_) (hgv rz) hl2 q2
  obtain ⟨oc, od, kV, doc, pm, an, cdv, ct, osl, rfl, lk, hcd⟩ := F.ex
  exact BindsTo.of_eq (hb q kV doc pm an cdv ct x ws (rz.length.symm.trans hl))
end
end G


namespace G
open PySem PySem.Spec PySem.Calls PyProof.Rows L2 StX ClX TL
/-! ### an error without own __init__ -/
def tErr0 (C : Addr) : TE := fun _ H Q => ∀ a, H a = none → Q (.ref a) (upd H a (exo a C none))
section
variable {X : Cx} {nm : Str} {C : Addr} {p pos : Pos}
theorem pe_err0 {nw ini B : String} {tl : List Value} (gl : X.mg nm = some (.ref C)) (ec : EcC X.K C) (FB : ExcBaseFacts B nw ini tl) (xi : PySem.W.excInitIn X.K C tl nw = true) (hi : PySem.W.findIn X.K (.ref C) "__init__" = some (some (.builtin ini))) (hg : Gl X nm)
    (hdb : (nm == ("__debug__" : Str)) = false := by decide) : PE X (.Call (.Name nm p) [] [] pos) (tErr0 C) := by
  constructor
  intro pins s σ H Q I hh
  refine wpAny_Call_Name_kw (ld_glob I hg gl ?_ hdb)
  refine PySem.W.callWith_K0 I.kIn ec.kC ?_
  obtain ⟨nm, N, qn, bs, bm, hdct, sn, sub, ab, col, dd, k0, k1, k2, k3, k5, hC, hT⟩ := PySem.W.excInit_of I.kIn xi
  have l1 := PySem.W.looks_findIn (M := model X.prog X.w) I.kIn hi
  obtain ⟨hp, g, dr, t, os⟩ := s
  refine PySem.W.call_B FB hT hC l1 (Nat.zero_le _) fun h' k he ht => ?_
  have hn : H (hp.objs.size + 1) = none := I.hok.fresh (Nat.le_succ _)
  exact ⟨V.ref (hp.objs.size + 1), _, I.laid (t' := t) k (Nat.le_succ _) (exo_ok he), rfl, hh _ hn⟩
/-! ### e.f of an error held -/
def tXv (K : PySem.W.Frag) (f : Str) (te : TE) : TE := fun σ H Q => te σ H fun x H1 => ∃ (a C : Addr) (fs : List (Str × V)) (v : V), x = .ref a ∧ EcC K C ∧ PySem.W.findIn K (.ref C) f = some none ∧ Erv H1 a C fs ∧ fs.lookup f = some v ∧ Q v H1
theorem pe_xv {e : Expr} {te : TE} {f : Str} (K : PySem.W.Frag) (he : PE X e te) (hk : X.K = K := by rfl) (hb : attributeBase e f X.env (eval e X.env) = eval e X.env := by rfl) : PE X (.Attribute e f pos) (tXv K f te) := by
  subst hk
  constructor
  intro pins s σ H Q I hh
  refine attr_of hb (thn (he.run pins s σ H _ I hh) ?_)
  rintro u s1 ⟨x, H1, I1, rx, a, C, fs, v, rfl, ec, hn, ⟨d, ea, ed⟩, hl, q⟩
  obtain rfl : u = Value.ref a := rx
  obtain ⟨t1, ho⟩ := exo_at I1.hok ea
  obtain ⟨mA, hN, rel⟩ := exd_at I1.hok ed
  obtain ⟨od, hod, hlk⟩ := lookIn_ns hN
  obtain ⟨u, hu, ru⟩ := RelO.some_of (v := v) (o := mA f) (by rw [← hl]; exact rel f)
  refine PySem.HandSPX.exc_get I1.kIn (ox := { cls := .ref C, dict := some d, data := .fields #[.ref t1, .none, .none, .none, .bool false, .none] }) (od := some od) ⟨ho, rfl, rfl, hod⟩ ec.ek.ga ec.ek.gg ec.ek.hs (PySem.W.findObj_own ec.hd hn rfl (by rw [hlk, hu])) (handed_of ru) ?_
  exact ⟨v, H1, I1.tok _, ru, q⟩
/-! ### isinstance(e, c) of an error held -/
def rIsV (K : PySem.W.Frag) : RC := fun xs H Q => ∃ (a C : Addr) (c : V) (cv : Value) (b : Bool), xs = [.ref a, c] ∧ EcC K C ∧ (H a = some (exo a C none) ∨ ∃ fs, Erv H a C fs) ∧ (∀ u, RelV c u → u = cv) ∧ PySem.W.kitOne K (.ref C) cv = some b ∧ Q (.bl b) H
theorem call_isV (K : PySem.W.Frag) (hk : X.K = K := by rfl) : CallR X (.builtin "isinstance") (rIsV K) := by
  subst hk
  intro pins s σ H xs us Q I r hh
  obtain ⟨a, C, c, cv, b, rfl, ec, st, hcv, e, q⟩ := hh
  cases r with
  | cons r0 r1 =>
    cases r1 with
    | cons r1 r2 =>
      cases r2
      obtain rfl : _ = Value.ref a := r0
      obtain rfl := hcv _ r1
      have inst : ∃ ox od, PySem.W.InstAt s.heap a ox C od := by
        rcases st with ea | ⟨fs, d, ea, ed⟩
        · obtain ⟨t1, ho⟩ := exo_at I.hok ea
          exact ⟨_, none, ho, rfl, rfl, trivial⟩
        · obtain ⟨t1, ho⟩ := exo_at I.hok ea
          obtain ⟨mA, hN, _⟩ := exd_at I.hok ed
          obtain ⟨od, hod, _⟩ := lookIn_ns hN
          exact ⟨_, some od, ho, rfl, rfl, hod⟩
      obtain ⟨ox, od, J⟩ := inst
      refine PySem.W.kia_one (PySem.W.kitx_exc (show (PySem.W.clsIn X.K C).isSome = true from ec.ek.ic) ec.ek.ga ec.ek.gg ec.ek.hs ec.ek.ha ec.ek.hn ec.ek.ht ec.ek.hm) I.kIn J e (fun z => nomatch z) fun tk => ?_
      exact ⟨.bl b, H, I.kept (t' := tk) fun _ _ z => z, rfl, q⟩
end
/-! ### the drawn things -/
inductive Tg (H : Hp) : V → Prop where
  | non : Tg H .non
  | bl (b : Bool) : Tg H (.bl b)
  | int (i : Int) : Tg H (.int i)
  | str (x : Str) (h : x.length ≤ 60) : Tg H (.str x)
  | tup {a : Addr} {i j : Int} (h : H a = some (.tup [.int i, .int j])) : Tg H (.ref a)
  | lst {a : Addr} {i : Int} (h : H a = some (.lst [.int i])) : Tg H (.ref a)
  | dct {a : Addr} (h : H a = some (.dK [])) : Tg H (.ref a)
theorem Tg.same {H H' : Hp} {v : V} (r : Same H H') (h : Tg H v) : Tg H' v := by
  cases h with
  | non => exact .non
  | bl b => exact .bl b
  | int i => exact .int i
  | str x h => exact .str x h
  | tup h => exact .tup (r _ _ h)
  | lst h => exact .lst (r _ _ h)
  | dct h => exact .dct (r _ _ h)
theorem Tg.th {H : Hp} {v : V} (h : Tg H v) : Th (fun _ => False) H 1 v := by
  cases h with
  | tup h => exact ⟨fun z => z, .inr (.inr ⟨_, h, by simp, fun x hx => by
      simp only [List.mem_cons, List.not_mem_nil, or_false] at hx
      rcases hx with rfl | rfl <;> trivial⟩)⟩
  | lst h => exact ⟨fun z => z, .inl ⟨_, h⟩⟩
  | dct h => exact ⟨fun z => z, .inr (.inl ⟨_, h⟩)⟩
  | str x h => exact (show x.length ≤ 100000 from by omega)
  | _ => trivial
/-- == of a thing and itself -/
def rEqG : R2 := fun x y H Q => x = y ∧ Tg H x ∧ Q (.bl true) H
theorem eqGK {X : Cx} (hu : X.A.units + 64 < cLine) : OpR X (compareOp .Eq) rEqG := by
  intro pins s σ H x y v u Q I rx ry hh
  obtain ⟨rfl, t, q⟩ := hh
  have pl : ∀ d : PyData, Dp X.K H x d → d.plain = true → d.depth ≤ 60 → PyData.eqv d d = true → wpAny (model X.prog X.w) X.A (compareOp .Eq v u) (EP X pins σ Q) X.xe s := fun d hd h1 h2 h3 => by
    refine (eqPK (X := X) X.K rfl hu) pins s σ H x x v u Q I rx ry ⟨d, d, hd, hd, h1, h1, h2, ?_⟩
    rw [h3]
    exact q
  cases t with
  | non => exact pl _ .non rfl (by decide) (by decide)
  | bl b => exact pl _ (.bl b) rfl (by simp [PyData.depth]) (by simp [PyData.eqv])
  | int i => exact pl _ (.int i) rfl (by simp [PyData.depth]) (by simp [PyData.eqv])
  | str z _ => exact pl _ (.str z) rfl (by simp [PyData.depth]) (by simp [PyData.eqv])
  | tup h => exact pl _ (.tup (SqT.of h) (.cons (.int _) (.cons (.int _) .nil))) rfl (by simp [PyData.depth, PyData.depthAll]) (by simp [PyData.eqv, PyData.eqvAll])
  | lst h => exact pl _ (.lst (SqL.of h) (.cons (.int _) .nil)) rfl (by simp [PyData.depth, PyData.depthAll]) (by simp [PyData.eqv, PyData.eqvAll])
  | @dct a h =>
    obtain rfl : v = Value.ref a := rx
    obtain rfl : u = Value.ref a := ry
    obtain ⟨_, hs, vs, kv, dd⟩ := dk_of I.hok h
    cases kv
    refine PySem.W.rcP_dicts (r := true) hs hs dd dd (by omega) (fun _ => .nil) _ _ ⟨.bl true, H, I, rfl, q⟩
end G


namespace G
open PySem PySem.Spec PySem.Calls PyProof.Rows L2 StX ClX TL
/-! ### k15: families of errors, promises -/
structure Fam (K : PySem.W.Frag) (C : Addr) (i : Nat) : Prop where
  o0 : PySem.W.kitOne K (.ref C) (.ref (He.ga K "InputError")) = some (i == 0)
  o1 : PySem.W.kitOne K (.ref C) (.ref (He.ga K "StateError")) = some (i == 1)
  o2 : PySem.W.kitOne K (.ref C) (.ref (He.ga K "RunError")) = some (i == 2)
  o3 : PySem.W.kitOne K (.ref C) (.ref (He.ga K "LimitError")) = some (i == 3)
  b0 : PySem.W.kitOne K (.ref C) (.type "ValueError") = some (i == 0)
  b1 : PySem.W.kitOne K (.ref C) (.type "LookupError") = some (i == 1)
  b2 : PySem.W.kitOne K (.ref C) (.type "RuntimeError") = some (i == 2)
  b3 : PySem.W.kitOne K (.ref C) (.type "ArithmeticError") = some (i == 3)
/-- an error of the family i -/
def ErK (K : PySem.W.Frag) (H : Hp) (i : Nat) (v : V) : Prop := ∃ a C, v = .ref a ∧ EcC K C ∧ Fam K C i ∧ (H a = some (exo a C none) ∨ ∃ fs, Erv H a C fs)
/-- .. that holds y in its field f -/
def ErG (K : PySem.W.Frag) (H : Hp) (i : Nat) (f : Str) (y v : V) : Prop := ∃ a C fs, v = .ref a ∧ EcC K C ∧ Fam K C i ∧ PySem.W.findIn K (.ref C) f = some none ∧ Erv H a C fs ∧ fs.lookup f = some y
theorem Erv.same {H H' : Hp} {a C : Addr} {fs : List (Str × V)} (r : Same H H') (h : Erv H a C fs) : Erv H' a C fs := by
  obtain ⟨d, h1, h2⟩ := h
  exact ⟨d, r _ _ h1, r _ _ h2⟩
theorem ErG.same {K : PySem.W.Frag} {H H' : Hp} {i : Nat} {f : Str} {y v : V} (r : Same H H') (h : ErG K H i f y v) : ErG K H' i f y v := by
  obtain ⟨a, C, fs, e, c, m, n, h1, h2⟩ := h
  exact ⟨a, C, fs, e, c, m, n, h1.same r, h2⟩
theorem ErK.same {K : PySem.W.Frag} {H H' : Hp} {i : Nat} {v : V} (r : Same H H') (h : ErK K H i v) : ErK K H' i v := by
  obtain ⟨a, C, e, c, m, h1⟩ := h
  refine ⟨a, C, e, c, m, ?_⟩
  rcases h1 with h1 | ⟨fs, h1⟩
  · exact .inl (r _ _ h1)
  · exact .inr ⟨fs, h1.same r⟩
theorem ErG.k {K : PySem.W.Frag} {H : Hp} {i : Nat} {f : Str} {y v : V} (h : ErG K H i f y v) : ErK K H i v := by
  obtain ⟨a, C, fs, e, c, m, n, h1, h2⟩ := h
  exact ⟨a, C, e, c, m, .inr ⟨fs, h1⟩⟩
def rowB (i : Nat) : List Bool := [i == 0, i == 1, i == 2, i == 3, i == 0, i == 1, i == 2, i == 3]
def rowV (i : Nat) : List V := (rowB i).map V.bl
def spErs (K : PySem.W.Frag) (i : Nat) (f : Str) : Sp := fun vs H Q _ => ∃ y, vs = [y] ∧ ∀ q (as : List V) H', H q = none → Same H H' → H' q = some (.lst as) → as.length ≤ 50 → (∀ v ∈ as, ErG K H' i f y v) → Q (.ref q) H'
def spRows (K : PySem.W.Frag) : Sp := fun vs H Q _ => ∃ v i, vs = [v] ∧ ErK K H i v ∧ ∀ q H', H q = none → Same H H' → H' q = some (.lst (rowV i)) → Q (.ref q) H'
def spOf : Sp := fun vs H Q _ => ∃ i : Nat, vs = [.int i] ∧ i < 4 ∧ ∀ q H', H q = none → Same H H' → H' q = some (.lst (rowV i)) → Q (.ref q) H'
def spSame : Sp := fun vs H Q _ => ∃ y, vs = [y, y] ∧ Tg H y ∧ ∀ H', Same H H' → Q (.bl true) H'
def spIn1 : Sp := fun vs H Q _ => ∃ y, vs = [y] ∧ Tg H y ∧ ∀ H', Same H H' → Q (.bl true) H'
def spIn2 : Sp := fun vs H Q _ => ∃ y z, vs = [y, z] ∧ Tg H y ∧ Tg H z ∧ ∀ H', Same H H' → Q (.bl true) H'
/-- a roll below any number from 1 on -/
def spRollW : Sp := fun vs H Q _ => ∃ (p : Addr) (n : Int), vs = [.ref p, .int n] ∧ Dr p H ∧ 0 < n ∧ n ≤ 10 ^ 40 ∧
  ∀ (i : Int) (H' : Hp), 0 ≤ i → i < n → Rx [p] H H' → Dr p H' → Q (.int i) H'
/-! ### steps -/
/-- a class without own __init__ -/
structure HasE0 (K : PySem.W.Frag) (mg : Str → Option Value) (nm : Str) (C : Addr) : Prop where
  gl : mg nm = some (.ref C)
  ec : EcC K C
  fb : ∃ (nw ini B : String) (tl : List Value), ExcBaseFacts B nw ini tl ∧ PySem.W.excInitIn K C tl nw = true ∧ PySem.W.findIn K (.ref C) "__init__" = some (some (.builtin ini))
theorem pe_er0 {X : Cx} {nm : Str} {C : Addr} {p pos : Pos} (h : HasE0 X.K X.mg nm C) (hg : Gl X nm) (hdb : (nm == ("__debug__" : Str)) = false := by decide) : PE X (.Call (.Name nm p) [] [] pos) (tErr0 C) := by
  obtain ⟨gl, ec, nw, ini, B, tl, FB, xi, hi⟩ := h
  exact pe_err0 gl ec FB xi hi hg hdb
def sw2 {α : Type} : List α → List α
  | [a, b] => [b, a]
  | l => l
theorem sw2_len {α : Type} (l : List α) (h : l.length = 2) : (sw2 l).length = 2 := by
  match l, h with
  | [a, b], _ => rfl
theorem sw2_vals {zs : List V} {ws : List Value} (r : Vals zs ws) : Vals (sw2 zs) (sw2 ws) := by
  cases r with
  | nil => exact .nil
  | cons r0 r1 =>
    cases r1 with
    | nil => exact .cons r0 .nil
    | cons r1 r2 =>
      cases r2 with
      | nil => exact .cons r1 (.cons r0 .nil)
      | cons r2 r3 => exact .cons r0 (.cons r1 (.cons r2 r3))
section
variable {K : PySem.W.Frag} {C : Addr} {fsn : List Str} {gV : List V → List V} {ta : TA} {σ : L2.St} {H : Hp} {Q : VK} {f : Str} {te : TE}
theorem s_err (h : ta σ H fun vs H1 => vs.length = fsn.length ∧ (gV vs).length = fsn.length ∧ ∀ a H2, Same H1 H2 → Erv H2 a C (fsn.zip (gV vs)).reverse → Q (.ref a) H2) : tErr C fsn gV ta σ H Q := h
theorem s_err0 (h : ∀ a H2, Same H H2 → H2 a = some (exo a C none) → Q (.ref a) H2) : tErr0 C σ H Q := fun a ha => h a _ (fun b o e => by rw [upd_ne (ne_of_none e ha)]; exact e) upd_same
def rXv (K : PySem.W.Frag) (f : Str) (x : V) (H : Hp) (Q : VK) : Prop := ∃ (a C : Addr) (fs : List (Str × V)) (v : V), x = .ref a ∧ EcC K C ∧ PySem.W.findIn K (.ref C) f = some none ∧ Erv H a C fs ∧ fs.lookup f = some v ∧ Q v H
theorem s_xv (h : te σ H fun x H1 => rXv K f x H1 Q) : tXv K f te σ H Q := h
theorem s_xvG {i : Nat} {y v : V} (g : ErG K H i f y v) (h : Q y H) : rXv K f v H Q := by
  obtain ⟨a, C, fs, e, c, m, n, h1, h2⟩ := g
  exact ⟨a, C, fs, y, e, c, n, h1, h2, h⟩
theorem s_isV {v c : V} {cv : Value} {i : Nat} {b : Bool} (g : ErK K H i v) (hc : ∀ u, RelV c u → u = cv) (hk : ∀ C, Fam K C i → PySem.W.kitOne K (.ref C) cv = some b) (h : Q (.bl b) H) : rIsV K [v, c] H Q := by
  obtain ⟨a, C, e, ec, m, st⟩ := g
  exact ⟨a, C, c, cv, b, by rw [e], ec, st, hc, hk C m, h⟩
theorem s_eqG {x : V} (t : Tg H x) (h : Q (.bl true) H) : rEqG x x H Q := ⟨rfl, t, h⟩
end
end G


namespace G
open PySem PySem.Spec PySem.Calls PyProof.Rows L2 He
/-! ### the head's looks at classes of errors -/
section
variable {K : PySem.W.Frag} {c f : Str} {i : Nat} {B nw ini : String} {tl : List Value}
theorem clsB_ok (FB : ExcBaseFacts B nw ini tl) (SF : StoreFacts B tl "object.__setattr__" "object") (ho : objB K = true) (h : clsB c tl nw K = true) :
    PySem.W.nsIn K mainGlobals c = some (some (.ref (ga K c))) ∧ EcC K (ga K c) ∧ PySem.W.excInitIn K (ga K c) tl nw = true := by
  obtain ⟨o1, o2⟩ := ba ho
  obtain ⟨h1, h⟩ := ba h
  obtain ⟨h2, h3⟩ := ba h
  obtain ⟨a1, h1⟩ := ba h1
  obtain ⟨a2, h1⟩ := ba h1
  obtain ⟨a3, a4⟩ := ba h1
  obtain ⟨b1, h2⟩ := ba h2
  obtain ⟨b2, h2⟩ := ba h2
  obtain ⟨b3, b4⟩ := ba h2
  obtain ⟨c1, h3⟩ := ba h3
  obtain ⟨c2, h3⟩ := ba h3
  obtain ⟨c3, c4⟩ := ba h3
  exact ⟨eqO_ok a1, ⟨⟨B, nw, ini, tl, FB, SF, a2, a3⟩, a4, eqO_ok b1, b2, ⟨b3, eqO_ok b4, eqO_ok c1, of_decide_eq_true c2, eqO_ok c3, eqO_ok o1, of_decide_eq_true o2, of_decide_eq_true c4⟩⟩, a2⟩
theorem famB_ok (h : famB c i K = true) : Fam K (ga K c) i := by
  obtain ⟨h, g⟩ := ba h
  obtain ⟨h1, h⟩ := ba h
  obtain ⟨h2, h⟩ := ba h
  obtain ⟨h3, h4⟩ := ba h
  obtain ⟨g1, g⟩ := ba g
  obtain ⟨g2, g⟩ := ba g
  obtain ⟨g3, g4⟩ := ba g
  exact ⟨of_decide_eq_true h1, of_decide_eq_true h2, of_decide_eq_true h3, of_decide_eq_true h4, of_decide_eq_true g1, of_decide_eq_true g2, of_decide_eq_true g3, of_decide_eq_true g4⟩
theorem noB_ok (h : noB c f K = true) : PySem.W.findIn K (.ref (ga K c)) f = some none := eqO_ok h
theorem iniB_ok (h : iniB c K = true) : PySem.W.findIn K (.ref (ga K c)) "__init__" = some (some (.ref (ma K (ga K c) "__init__"))) ∧ PySem.W.typeIn K (.ref (ma K (ga K c) "__init__")) = some (.type "function") := by
  obtain ⟨h1, h2⟩ := ba h
  exact ⟨eqO_ok h1, of_decide_eq_true h2⟩
theorem ini0B_ok (h : ini0B c ini K = true) : PySem.W.findIn K (.ref (ga K c)) "__init__" = some (some (.builtin ini)) := eqO_ok h
end
theorem fact_at {l : List (PySem.W.Frag → Bool)} {K : PySem.W.Frag} (h : (l.all fun b => b K) = true) (i : Nat) {b : PySem.W.Frag → Bool} (e : l[i]? = some b := by rfl) : b K = true := List.all_eq_true.mp h b (List.mem_of_getElem? e)
/-- what the law's own end asks, over a head by facts -/
theorem walkQ {l : PySem.W.OpenLaw} {n k : Nat} {q : Program} {loose : List Str} {XP : (Str → Option Value) → Heap → Prop} {YP : World → Heap → Prop} {d : DefRec} {x : Str} {CX : CXT}
    (hn : l.most = some n) (hn2 : n ≤ sizeLine) (hdf : d.params.defaults = []) (hr : Room k callerA)
    (F : ∀ (w : World) (mg : Str → Option Value) (fa : Addr) (h : Heap), YP w h → h.Ns mainGlobals mg → mg d.name = some (.ref fa) →
      ∃ (K : PySem.W.Frag) (fd : FuncData) (sp : Sp), K.In h ∧ (∀ (s : Shared) (u : Value), BindsTo s fd ⟨[u], []⟩ [(x, u)]) ∧
        (∀ (H : Hp) (a : Addr) (ns : List Int), ns.length ≤ n → Only H → SqL K H a (ns.map V.int) → sp [.ref a] H (fun v _ => v = .bl true) fun _ _ _ => False) ∧
        ∀ base : Heap, K.In base → base.Ns mainGlobals mg → Fg l.prog w K mg base CX k fa fd [x] sp)
    (hCX : ∀ (H : Hp) (s : Shared) (e : Value) (s' : Shared), CX [] H s (fun _ _ _ => False) e s' → False) :
    PySem.W.WalkO q loose XP YP l.row.toRowW d [] (fun f vs => PySem.call f vs) := by
  refine Att.attach_call hn hdf ?_
  intro w s₀ s₁ mg mb fa o pm cd doc a vs ns GG Y ho hd hcd hmg hobj hints hlen hg
  obtain ⟨K, fd, sp, KX, hb, hsp, hF⟩ := F w mg fa _ Y GG.T.g hmg
  exact law_end KX GG.T.g GG.T.b GG.T.builtins GG.T.nolimit hg hobj hints (Nat.le_trans hlen hn2) hr hF hb (fun H hO hS => hsp H a ns hlen hO hS) (fun H e s' => hCX H s₁ e s')
end G


namespace G
open PySem PySem.Spec PySem.Calls PyProof.Rows L2 StX ClX TL
/-! ### lists of errors -/
def AllG (K : PySem.W.Frag) (H : Hp) (i : Nat) (f : Str) (y : V) (vs : List V) : Prop := ∀ v ∈ vs, ErG K H i f y v
section
variable {K : PySem.W.Frag} {H H' : Hp} {i : Nat} {f : Str} {y v : V} {vs ws : List V} {C a : Addr} {fs : List (Str × V)}
theorem AllG.nil : AllG K H i f y [] := fun _ h => (List.not_mem_nil h).elim
theorem AllG.same (r : Same H H') (h : AllG K H i f y vs) : AllG K H' i f y vs := fun v hv => (h v hv).same r
theorem AllG.app (h : AllG K H i f y vs) (g : AllG K H i f y ws) : AllG K H i f y (vs ++ ws) := fun v hv => (List.mem_append.mp hv).elim (h v) (g v)
theorem AllG.snoc (h : AllG K H i f y vs) (g : ErG K H i f y v) : AllG K H i f y (vs ++ [v]) := h.app fun u hu => by
  rw [List.mem_singleton.mp hu]
  exact g
theorem erg_mk (ec : EcC K C) (m : Fam K C i) (no : PySem.W.findIn K (.ref C) f = some none) (e : Erv H a C fs) (l : fs.lookup f = some y) : ErG K H i f y (.ref a) := ⟨a, C, fs, rfl, ec, m, no, e, l⟩
end
/-! ### rows of truths compared -/
def bsP (bs : List Bool) : PyData := .list (bs.map PyData.bool)
theorem dp_bs {K : PySem.W.Frag} {H : Hp} : ∀ bs : List Bool, DpAll K H (bs.map V.bl) (bs.map PyData.bool)
  | [] => .nil
  | b :: r => .cons (.bl b) (dp_bs r)
theorem eqv_bs : ∀ bs : List Bool, PyData.eqvAll (bs.map PyData.bool) (bs.map PyData.bool) = true
  | [] => by simp [PyData.eqvAll]
  | b :: r => by simp [PyData.eqvAll, PyData.eqv, eqv_bs r]
theorem lay_bs : ∀ bs : List Bool, PyData.canLayAll0 (bs.map PyData.bool) = true
  | [] => by simp [PyData.canLayAll0]
  | b :: r => by simp [PyData.canLayAll0, PyData.canLay0, lay_bs r]
theorem dep_bs : ∀ bs : List Bool, PyData.depthAll (bs.map PyData.bool) = 0
  | [] => by simp [PyData.depthAll]
  | b :: r => by simp [PyData.depthAll, PyData.depth, dep_bs r]
theorem shaped_bs (bs : List Bool) : SeqAt.shaped (bsP bs) = true := by
  unfold SeqAt.shaped bsP
  simp [PyData.canLay0, lay_bs, PyData.depth, dep_bs]
theorem self_bs (bs : List Bool) : PyData.eqv (bsP bs) (bsP bs) = true := by
  unfold bsP
  simp [PyData.eqv, eqv_bs]
/-- n rows alike -/
theorem rep_bs (bs : List Bool) : ∀ n : Nat, PyData.canLayAll0 (List.replicate n (bsP bs)) = true ∧ PyData.depthAll (List.replicate n (bsP bs)) ≤ 1 ∧ PyData.eqvAll (List.replicate n (bsP bs)) (List.replicate n (bsP bs)) = true
  | 0 => by simp [PyData.canLayAll0, PyData.depthAll, PyData.eqvAll]
  | n + 1 => by
    obtain ⟨h1, h2, h3⟩ := rep_bs bs n
    have l : PyData.canLay0 (bsP bs) = true := by
      unfold bsP
      simp [PyData.canLay0, lay_bs]
    have d : PyData.depth (bsP bs) = 1 := by
      unfold bsP
      simp [PyData.depth, dep_bs]
    refine ⟨?_, ?_, ?_⟩
    · simp [List.replicate_succ, PyData.canLayAll0, h1, l]
    · simp only [List.replicate_succ, PyData.depthAll, d]
      omega
    · simp [List.replicate_succ, PyData.eqvAll, h3, self_bs]
section
variable {K : PySem.W.Frag} {H : Hp} {Q : VK} {a b : Addr} {i n : Nat} {vs ws : List V}
theorem s_neRow (e : H a = some (.lst (rowV i))) (f : H b = some (.lst (rowV i))) (h : Q (.bl false) H) : rNeD K (.ref a) (.ref b) H Q := by
  refine ⟨bsP (rowB i), bsP (rowB i), .lst (SqL.of e) (dp_bs _), .lst (SqL.of f) (dp_bs _), shaped_bs _, shaped_bs _, ?_⟩
  rw [self_bs]
  exact h
def Rws (H : Hp) (i n : Nat) (vs : List V) : Prop := vs.length = n ∧ ∀ v ∈ vs, ∃ a, v = .ref a ∧ H a = some (.lst (rowV i))
theorem dp_rws : ∀ (n : Nat) (vs : List V), Rws H i n vs → DpAll K H vs (List.replicate n (bsP (rowB i)))
  | 0, [], _ => .nil
  | 0, _ :: _, h => by cases h.1
  | n + 1, [], h => by cases h.1
  | n + 1, v :: r, h => by
    obtain ⟨a, rfl, ea⟩ := h.2 v List.mem_cons_self
    exact .cons (.lst (SqL.of ea) (dp_bs _)) (dp_rws n r ⟨by simpa using h.1, fun u hu => h.2 u (List.mem_cons_of_mem _ hu)⟩)
theorem shaped_rep : SeqAt.shaped (.list (List.replicate n (bsP (rowB i)))) = true := by
  obtain ⟨h1, h2, h3⟩ := rep_bs (rowB i) n
  unfold SeqAt.shaped
  have e : PyData.depth (.list (List.replicate n (bsP (rowB i)))) ≤ 64 := by
    simp only [PyData.depth]
    omega
  rw [decide_eq_true e]
  simp only [PyData.canLay0, h1, Bool.and_true]
theorem s_neRws (e : H a = some (.lst vs)) (f : H b = some (.lst ws)) (p : Rws H i n vs) (q : Rws H i n ws) (h : Q (.bl false) H) : rNeD K (.ref a) (.ref b) H Q := by
  refine ⟨_, _, .lst (SqL.of e) (dp_rws n _ p), .lst (SqL.of f) (dp_rws n _ q), shaped_rep, shaped_rep, ?_⟩
  have z : PyData.eqv (.list (List.replicate n (bsP (rowB i)))) (.list (List.replicate n (bsP (rowB i)))) = true := by simp only [PyData.eqv, (rep_bs (rowB i) n).2.2]
  rw [z]
  exact h
theorem s_eqRws (e : H a = some (.lst vs)) (f : H b = some (.lst ws)) (p : Rws H i n vs) (q : Rws H i n ws) (h : Q (.bl true) H) : rEqD K (.ref a) (.ref b) H Q := by
  refine ⟨_, _, .lst (SqL.of e) (dp_rws n _ p), .lst (SqL.of f) (dp_rws n _ q), shaped_rep, shaped_rep, ?_⟩
  have z : PyData.eqv (.list (List.replicate n (bsP (rowB i)))) (.list (List.replicate n (bsP (rowB i)))) = true := by simp only [PyData.eqv, (rep_bs (rowB i) n).2.2]
  rw [z]
  exact h
end
theorem cdivW {i n : Int} (h : 0 < n) (h2 : n ≤ 10 ^ 40) : CDivW i n := by
  refine ⟨h, ?_⟩
  have e : n.natAbs ≤ 10 ^ 40 := by omega
  by_cases z : n.natAbs = 0
  · rw [z]
    decide
  · exact (Nat.log2_lt z).mpr (Nat.lt_of_le_of_lt e (Nat.lt_of_lt_of_le (show 10 ^ 40 < 2 ^ 160 by decide) (Nat.pow_le_pow_right (by decide) (by decide))))
end G


namespace G
open PySem PySem.Spec PyProof.Rows L2 LamX
/-! ### a lambda handed to a def, where no repr is running -/
section
variable {X : Cx} {pins : List (Addr × Obj)} {σ : L2.St} {H : Hp} {s : Shared} {k i : Nat} {f g c' : Addr} {qg a : Str} {sg scope : Scope} {cdg pm ctv : Value} {params : Arguments} {body : Expr} {Ng : List Str} {Eg : XK} {CXg : CXT} {tb : XK → TE}
  {pn : List (Addr × Obj)} {xe : Value → Shared → Prop} {W : WX} {p1 p2 : Pos}
/-- the def's context from which the lambda is called -/
abbrev toldCx (X : Cx) (CXg : CXT) (Ng : List Str) (qg : Str) (sg : Scope) (g : Addr) (cdg : Value) (s : Shared) (H : Hp) (Eg : XK) (pn : List (Addr × Obj)) (xe : Value → Shared → Prop) : Cx :=
  (cxOf CXg X.prog X.w X.K X.mg X.base Ng qg sg g cdg X.A X.stack s H Eg).tr pn xe
/-- the lambda as it stands in the heap -/
abbrev lamObj (X : Cx) (params : Arguments) (body : Expr) (scope : Scope) (pm : Value) (c' : Addr) (ctv : Value) : Obj :=
  PySem.W.kla_obj "<lambda>" (X.env.qual ++ "<lambda>") params body scope (cloFrom X.env.cells scope.names []) pm c' ctv
theorem actG (I : Inv X pins σ H s) (hL : LamS X.env.scope scope)
    (hf : s.heap.get? f = some (lamObj X params body scope pm c' ctv))
    (hfn : H f = none) (hfr : f ∉ frs X.stack)
    (hbi : bindArgs (PySem.W.kla_fn "<lambda>" (X.env.qual ++ "<lambda>") params body scope (cloFrom X.env.cells scope.names []) pm (.ref c') ctv) ⟨[], []⟩ = pure [])
    (tk : Takes (toldCx X CXg Ng qg sg g cdg s H Eg pn xe) W)
    (hr : Room (k + 1) (X.A.deeper (envOfC qg sg s.heap.objs.size g cdg))) (hgd : Gd (X.A.deeper (envOfC qg sg s.heap.objs.size g cdg)))
    (hbody : ∀ (A : Around) (outer : List Env) (s : Shared) (H : Hp) (E : XK), Room k (A.deeper (lamEnv X scope s.heap.objs.size f c')) →
      Gd (A.deeper (lamEnv X scope s.heap.objs.size f c')) → PE (lamCx X A outer s H E scope f c') body (tb E))
    (hN : Ng[i]? = some a) (hv : Vis sg a) (h1 : (a == ("__debug__" : Str)) = false) (h2 : (a == ("__classdict__" : Str)) = false) :
    PE (toldCx X CXg Ng qg sg g cdg s H Eg pn xe) (.Call (.Name a p1) [] [] p2)
      (fun σZ HZ Q => σZ[i]? = some (some (.ref f)) ∧ HZ c' = some (CodeO c' (X.env.qual ++ "<lambda>")) ∧ tb (fun cls d H' => W cls d σZ H') σ HZ Q) := by
  constructor
  intro pinsZ sZ σZ HZ Q IZ hh
  obtain ⟨hs, hc, ht⟩ := hh
  apply wpAny_Call_Name_kw
  have hvar := pe_var (X := toldCx X CXg Ng qg sg g cdg s H Eg pn xe) (pos := p1) (i := i) hN hv h1 h2
  refine thn (hvar.run pinsZ sZ σZ HZ (fun v H1 => v = .ref f ∧ H1 = HZ) IZ ⟨.ref f, hs, rfl, rfl⟩) ?_
  rintro u s1 ⟨v, H1, I1, r1, rfl, rfl⟩
  obtain rfl : u = Value.ref f := r1
  have atf : s1.heap.get? f = some (lamObj X params body scope pm c' ctv) := by
    refine I1.base.keep f _ hf hfn hfr ?_
    intro z
    exact nomatch (show f ∈ ([] : List Addr) from z)
  apply PySem.W.callWith_F0 ⟨_, _, _, _, atf⟩
  obtain ⟨⟨oc, vs, t, a1, a2, a3⟩, _, _⟩ := I1.hok c' _ hc
  have run : codeAny (model X.prog X.w) (X.A.deeper (envOfC qg sg s.heap.objs.size g cdg)) (.call (.ref f) ⟨[], []⟩)
      (CR (L2.CX X.prog X.w) (envOfC qg sg s.heap.objs.size g cdg :: X.stack) X.prog X.w H1 s1 Q (fun cls d H' => W cls d σZ H')) s1 := by
    refine PySem.W.kla_callFunE hr.depth atf rfl hL.co hL.gen rfl ⟨c', oc, vs, t, rfl, a1, a2, a3⟩ ?_
    rw [hbi]
    refine wpAny_pure (wpAny_newFunctionEnv (fun y hy => (hL.own y hy).2) (fun y hy => (List.not_mem_nil hy).elim) ?_ hL.kind)
    intro h₁ hns hsb
    refine ⟨I1.nolimit.fresh _ hsb, ?_⟩
    show codeAny _ _ (.expr body (lamEnv X scope s1.heap.objs.size f c')) _ _
    have kept : ∀ b o, s1.heap.get? b = some o → h₁.get? b = some o := by
      intro b o e
      exact hsb.extBut b o (Nat.ne_of_lt (Heap.lt_size e)) (Heap.get?_push_of_some _ e)
    have J := lam_start2 (E := fun cls d H' => W cls d σZ H') (f := f) (c' := c') (tk := s1.toks + ([] : List (Str × Value)).length) I hL I1.env0 hr.hd I1.base hns kept
    apply PySem.W.kla_codeExpr
    refine wpAny_mono ((hbody _ _ s1 H1 _ (hr.deeper _) hgd.deeper).run [] _ _ H1 Q J ht) ?_ (fun _ _ z => z)
    rintro v s' ⟨y, H', J', rv, q⟩
    exact ⟨y, H', J'.os, J'.bare, J'.base, J'.hok, rv, q⟩
  have pass : PassesAt (L2.CX X.prog X.w) (toldCx X CXg Ng qg sg g cdg s H Eg pn xe) σZ (fun cls d H' => W cls d σZ H') := passAt tk σZ
  apply wpAny_call
  refine codeAny_mono run ?_
  intro r s' z
  cases r with
  | error e => exact pass pinsZ H1 s1 e s' I1 z
  | ok fl => cases fl with
    | ret u => exact I1.after z
    | _ => exact z.elim
end
/-- what the def makes of the lambda's reading tl -/
def Gives (X : Cx) (Ng : List Str) (x : Str) (st : Stmt) (a q : Str) (k : Nat) (TT : (XK → Hp → VK → Prop) → Hp → VK → Prop) : Prop :=
  ∀ (g f c' : Addr) (cdg : Value) (s : Shared) (H : Hp) (Q : VK) (tl : XK → Hp → VK → Prop),
    Room k (X.A.deeper (envOfC x (defScope st) s.heap.objs.size g cdg)) → Gd (X.A.deeper (envOfC x (defScope st) s.heap.objs.size g cdg)) →
    (∀ (W : WX) (pn : List (Addr × Obj)) (xe : Value → Shared → Prop) (p1 p2 : Pos), Takes (toldCx X CX0 Ng x (defScope st) g cdg s H E0 pn xe) W →
      PE (toldCx X CX0 Ng x (defScope st) g cdg s H E0 pn xe) (.Call (.Name a p1) [] [] p2) (fun σZ HZ Q => σZ[0]? = some (some (.ref f)) ∧ HZ c' = some (CodeO c' q) ∧ tl (fun cls d H' => W cls d σZ H') HZ Q)) →
    H c' = some (CodeO c' q) → TT tl H Q →
    ∃ t, PSs (cxOf CX0 X.prog X.w X.K X.mg X.base Ng x (defScope st) g cdg X.A X.stack s H E0).nox (defBody st) t ∧ t { nx := fun _ H' => Q .non H', rt := Q } (L2.start Ng [.ref f]) H
section
variable {X : Cx} {T : List (Addr × Str)} {TT : (XK → Hp → VK → Prop) → Hp → VK → Prop} {x a : Str} {st : Stmt} {c P : Addr} {k : Nat} {Ng : List Str} {params : Arguments} {body : Expr} {scope : Scope} {t : XK → TE} {p lpos pos : Pos}
/-- x(lambda: body) -/
theorem pe_lamG (D : At X.K X.mg x st) (hg : Gl X x) (Sg : FnScope Ng [a] (defScope st))
    (hbg : ∀ (kV doc pm : Value) (an : Option Addr) (cdv ct : Value) (us : List Value), us.length = 1 →
      bindArgs (PySem.W.fnOf x x (defArgs st) (defBody st) (defScope st) .none kV doc pm an cdv ct) ⟨us, []⟩ = pure ([a].zip us))
    (hG : Gives X Ng x st a (X.env.qual ++ "<lambda>") (k + 1) TT) (TB : TabB X.base X.mg c P) (hcode : X.env.code = .ref c)
    (hmT : (P, X.env.qual ++ "<lambda>") ∈ T) (hu : ∀ p ∈ T, p.1 = P → p.2 = X.env.qual ++ "<lambda>")
    (hr : Room (k + 2) X.A) (hgd : Gd X.A) (hL : LamS X.env.scope scope) (hdef : defaultsOf params X.env = ([], []))
    (hbi : ∀ (q : Str) (cl : List (Str × Addr)) (pm cv ctv : Value), bindArgs (PySem.W.kla_fn "<lambda>" q params body scope cl pm cv ctv) ⟨[], []⟩ = pure [])
    (hbody : ∀ (A : Around) (outer : List Env) (s : Shared) (H : Hp) (E : XK) (f c' : Addr), Room k (A.deeper (lamEnv X scope s.heap.objs.size f c')) →
      Gd (A.deeper (lamEnv X scope s.heap.objs.size f c')) → PE (lamCx X A outer s H E scope f c') body (t E))
    (hN0 : Ng[0]? = some a) (hdb : (x == ("__debug__" : Str)) = false := by decide) (h1 : (a == ("__debug__" : Str)) = false := by decide) (h2 : (a == ("__classdict__" : Str)) = false := by decide) :
    PE X (.Call (.Name x p) [.Lambda params body scope lpos] [] pos) (tLam T TT t) := by
  obtain ⟨g, fd, F, hm⟩ := D
  have bi := F.binds (ps := [a]) hbg
  obtain ⟨oc, od, kV, doc, pm0, an, cdv, ct, osl, rfl, lk, hcd⟩ := F.ex
  have hva : Vis (defScope st) a := vis_par Sg List.mem_cons_self
  constructor
  intro pins s σ H Q I hh
  obtain ⟨hT, hh⟩ := hh
  apply wpAny_Call_Name_kw
  refine ld_glob I hg hm ?_ hdb
  refine PySem.W.callWith_K (h₀ := X.base) I.ok.mod.kin F.kp ?_ (by rfl) (by rfl)
  show wpAny _ _ (spliced ((false, eval (.Lambda params body scope lpos) X.env) :: backTo pos (starEach [] X.env))) _ _ s
  apply Calls.spliced_cons
  refine lam_make2 I TB hcode hmT hu hT hdef (hL.has I.ok) ?_
  intro f c' pm ctv H1 s' I1 eN T1 hf hfn hfr hco
  refine Calls.spliced_nil ⟨I1.kIn, ?_⟩
  have run : codeAny (model X.prog X.w) X.A (.call (.ref g) ⟨[.ref f], []⟩) (CR CX0 X.stack X.prog X.w H1 s' Q E0) s' := by
    refine run_ofS (k := k + 1) (N := Ng) (ps := [a]) (us := [.ref f]) (vs := [.ref f]) lk hcd Sg hr I1.env0 ?_ (.cons rfl .nil) rfl ?_
    · have := bi s' [.ref f] I1.kIn rfl
      rw [List.append_nil] at this
      exact this
    · intro hr'
      have hgd' : Gd (X.A.deeper (envOfC x (defScope st) s'.heap.objs.size g cdv)) := hgd.deeper
      obtain ⟨t', ht', hq'⟩ := hG g f c' cdv s' H1 Q (fun E H' Q' => t E σ H' Q') hr' hgd' (fun W pn xe p1 p2 tk =>
        actG (i := 0) (tb := t) I1 hL hf hfn hfr (hbi _ _ _ _ _) tk hr' hgd' (fun A outer s H E r2 g2 => hbody A outer s H E f c' r2 g2) hN0 hva h1 h2) hco (hh H1 eN T1)
      exact ⟨t', ht'.nox, hq'⟩
  apply wpAny_call
  refine codeAny_mono run ?_
  intro r s2 z
  cases r with
  | error e => exact (show False from z).elim
  | ok fl => cases fl with
    | ret u => exact I1.after z
    | _ => exact z.elim
end
end G


namespace G
open PySem PySem.Spec PyProof.Rows L2 LamX
/-! ### the law's end where tables of code objects are tracked -/
/-- an empty table -/
abbrev tab0 : Obj := { cls := .none, data := .fields #[] }
/-- the first heap that is tracked: the tables, and the script if K does not hold it -/
def hp0 (K : PySem.W.Frag) (tabs : List Addr) (a : Addr) (o : Obj) (xs : List V) : Hp := fun b =>
  if b ∈ tabs then some (.tbl #[]) else if b = a ∧ (K.lookup a).isNone = true then some (.frz o (.lst xs)) else none
section
variable {K : PySem.W.Frag} {tabs : List Addr} {a b : Addr} {o : Obj} {xs : List V} {u : HO}
theorem hp0_tab (h : b ∈ tabs) : hp0 K tabs a o xs b = some (.tbl #[]) := if_pos h
theorem hp0_cases (e : hp0 K tabs a o xs b = some u) : (b ∈ tabs ∧ u = .tbl #[]) ∨ (b ∉ tabs ∧ b = a ∧ K.lookup a = none ∧ u = .frz o (.lst xs)) := by
  unfold hp0 at e
  split at e
  · rename_i h
    exact .inl ⟨h, (Option.some.inj e).symm⟩
  · rename_i h
    split at e
    · rename_i h2
      exact .inr ⟨h, h2.1, Option.isNone_iff_eq_none.mp h2.2, (Option.some.inj e).symm⟩
    · cases e
end
/-- what the tables' end asks of the head -/
structure Tb0 (K : PySem.W.Frag) (h : Heap) (mg : Str → Option Value) (p : Addr × Addr) : Prop where
  tab : h.get? p.2 = some tab0
  out : K.lookup p.2 = none
  code : PySem.W.CodeHd h p.1 p.2
theorem law_endT {P : Program} {w : World} {K : PySem.W.Frag} {mg mb : Str → Option Value} {CX : CXT} {k : Nat} {fa a : Addr} {fd : FuncData} {x : Str} {sp : Sp} {s₁ : Shared} {vs : List Value} {ns : List Int} {cs : List (Addr × Addr)}
    (KX : K.In s₁.heap) (hns : s₁.heap.Ns mainGlobals mg) (hb : s₁.heap.Ns builtinsNs mb)
    (hbb : ∀ x : Str, x ≠ "__name__" → mb x = bootBuiltins x) (hlim : s₁.heap.NoLimit) (hg : s₁.gens = #[])
    (TT : ∀ p ∈ cs, Tb0 K s₁.heap mg p)
    (hbm : ∃ (bm : Addr) (ob : Obj), mg "__builtins__" = some (.ref bm) ∧ bm ≠ builtinsNs ∧ s₁.heap.get? bm = some ob ∧ ob.cls = .type "module" ∧ ob.dict = some builtinsNs ∧ ob.data = .plain)
    (ha : s₁.heap.get? a = some { cls := .type "list", data := .seq vs.toArray }) (hi : IntsAre vs ns)
    (hl : ns.length ≤ sizeLine) (hr : Room k callerA)
    (F : ∀ base : Heap, K.In base → base.Ns mainGlobals mg → (∀ p ∈ cs, TabB base mg p.1 p.2) → Fg P w K mg base CX k fa fd [x] sp)
    (hbind : ∀ (s : Shared) (u : Value), BindsTo s fd ⟨[u], []⟩ [(x, u)])
    (hsp : ∀ H : Hp, (∀ p ∈ cs, H p.2 = some (.tbl #[])) → SqL K H a (ns.map V.int) → sp [.ref a] H (fun v _ => v = .bl true) fun _ _ _ => False)
    (hCX : ∀ H e s', CX [] H s₁ (fun _ _ _ => False) e s' → False) :
    codeAny (model P w) callerA (.call (.ref fa) ⟨[.ref a], []⟩)
      (fun r s' => r = .ok (.ret (.bool true)) ∧ OldK s₁.heap s'.heap ∧ s'.os = s₁.os ∧ AllBare s'.gens) s₁ := by
  have rv := vals_ints hi
  have lenV := hi.length
  generalize ho : ({ cls := .type "list", data := .seq vs.toArray } : Obj) = o at ha
  generalize hH : hp0 K (cs.map (·.2)) a o (ns.map V.int) = H
  have tabAt : ∀ b ∈ cs.map (·.2), s₁.heap.get? b = some tab0 ∧ K.lookup b = none ∧ H b = some (.tbl #[]) := by
    intro b z
    have hH1 : H b = some (.tbl #[]) := by rw [← hH]; exact hp0_tab z
    obtain ⟨p, hp, rfl⟩ := List.mem_map.mp z
    exact ⟨(TT p hp).tab, (TT p hp).out, hH1⟩
  have hcs : ∀ {b : Addr} {u : HO}, H b = some u → (b ∈ cs.map (·.2) ∧ u = .tbl #[]) ∨ (b ∉ cs.map (·.2) ∧ b = a ∧ K.lookup a = none ∧ u = .frz o (.lst (ns.map V.int))) := by
    intro b u e
    rw [← hH] at e
    exact hp0_cases e
  have aT : a ∉ cs.map (·.2) := by
    intro z
    have e := (tabAt a z).1
    rw [ha, ← ho] at e
    cases e
  -- what is neither a list nor an empty table is not tracked
  have noH : ∀ {b : Addr} {ob : Obj}, s₁.heap.get? b = some ob → (∀ l n, ob.data ≠ .seq l n) → ob.data ≠ .fields #[] → H b = none := by
    intro b ob e n1 n2
    cases q : H b with
    | none => rfl
    | some u =>
      rcases hcs q with ⟨z, _⟩ | ⟨_, rfl, _⟩
      · rw [(tabAt b z).1] at e
        cases e
        exact (n2 rfl).elim
      · rw [ha, ← ho] at e
        cases e
        exact (n1 _ _ rfl).elim
  have keepN : ∀ {b : Addr} {ob : Obj}, s₁.heap.get? b = some ob → (∀ l n, ob.data ≠ .seq l n) → ob.data ≠ .fields #[] → (hidT s₁.heap H).get? b = some ob := fun e n1 n2 => hidT_get e (noH e n1 n2)
  have nsK : ∀ {b : Addr} {m : Str → Option Value}, s₁.heap.Ns b m → (hidT s₁.heap H).Ns b m := by
    rintro b m ⟨ob, es, ep, e, d, r⟩
    refine ⟨ob, es, ep, keepN e ?_ ?_, d, r⟩
    · intro l n z
      rw [d] at z
      cases z
    · intro z
      rw [d] at z
      cases z
  have hKb : K.In (hidT s₁.heap H) := by
    intro b ob e
    refine hidT_get (KX b ob e) ?_
    cases q : H b with
    | none => rfl
    | some u =>
      rcases hcs q with ⟨z, _⟩ | ⟨_, rfl, n, _⟩
      · rw [(tabAt b z).2.1] at e
        cases e
      · rw [n] at e
        cases e
  have hM : Mod K mg (hidT s₁.heap H) := by
    obtain ⟨mc, h1, h2⟩ := hlim
    exact ⟨hKb, nsK hns, ⟨mb, nsK hb, hbb⟩, ⟨mc, nsK h1, h2⟩⟩
  have hok : HOk P w H s₁.heap := by
    intro b u z
    rcases hcs z with ⟨h1, rfl⟩ | ⟨_, rfl, _, rfl⟩
    · exact (tabAt b h1).1
    · subst ho
      exact ⟨ha, by rw [List.length_map]; exact hl, vs, _, rv, ha⟩
  have hS : SqL K H a (ns.map V.int) := by
    cases hk : K.lookup a with
    | some ob =>
      have e := KX a ob hk
      rw [ha] at e
      cases e
      subst ho
      refine .inr ⟨_, vs.toArray, _, hk, rfl, rfl, rfl, ?_, by simpa using rv⟩
      rw [List.size_toArray, lenV]
      exact hl
    | none =>
      refine .inl (.inr ⟨o, ?_⟩)
      rw [← hH]
      unfold hp0
      rw [if_neg aT, if_pos ⟨rfl, by rw [hk]; rfl⟩]
  have TB : ∀ p ∈ cs, TabB (hidT s₁.heap H) mg p.1 p.2 := by
    intro p hp
    obtain ⟨t1, t2, t3⟩ := TT p hp
    constructor
    · obtain ⟨ob, us, file, tf, flags, tg, inF, text, tt, e1, r1, r2, r3, rest⟩ := t3
      refine ⟨ob, us, file, tf, flags, tg, inF, text, tt, keepN e1 ?_ ?_, r1, r2, r3, rest⟩
      · intro l n z
        rw [r2] at z
        cases z
      · intro z
        rw [r2] at z
        cases z
        simp at r3
    · obtain ⟨bm, ob, b1, b2, b3, b4, b5, b6⟩ := hbm
      refine ⟨bm, ob, b1, b2, ?_, ?_, keepN b3 ?_ ?_, b4, b5, b6⟩
      · intro z
        obtain ⟨og, es, ep, e, d, _⟩ := hns
        rw [z, e] at b3
        cases b3
        rw [d] at b6
        cases b6
      · intro z
        rw [z, t1] at b3
        cases b3
        cases b6
      · intro l n z
        rw [b6] at z
        cases z
      · intro z
        rw [b6] at z
        cases z
    · intro z
      obtain ⟨og, es, ep, e, d, _⟩ := hns
      rw [z, t1] at e
      cases e
      cases d
  have e0 : Env0 P w K mg (hidT s₁.heap H) callerA [] s₁ H :=
    ⟨rfl, hM, fun b o e => of_hidT e, Nat.le_of_eq (hidT_size _ _), trivial, fun b hb => (List.not_mem_nil hb).elim, hok, .of_eq hg⟩
  have hHT : ∀ p ∈ cs, H p.2 = some (.tbl #[]) := fun p hp => (tabAt p.2 (List.mem_map.mpr ⟨p, hp, rfl⟩)).2.2
  have run := (F _ hKb (nsK hns) TB).go callerA [] s₁ H ⟨[.ref a], []⟩ [.ref a] [.ref a] _ _ hr rfl e0 (hbind s₁ (.ref a)) (.cons rfl .nil) (hsp H hHT hS)
  refine codeAny_mono run ?_
  intro r s' h
  cases r with
  | error e => exact (hCX H e s' h).elim
  | ok fl => cases fl with
    | next => exact h.elim
    | brk => exact h.elim
    | cont => exact h.elim
    | ret u =>
      obtain ⟨v, H', os, bare, un, hok', r', q⟩ := h
      obtain rfl : v = .bl true := q
      obtain rfl : u = Value.bool true := r'
      have stays : ∀ b ob, b ∉ cs.map (·.2) → s₁.heap.get? b = some ob → s'.heap.get? b = some ob := by
        intro b ob nb e
        cases q : H b with
        | none => exact un.keep b ob e q (fun z => (List.not_mem_nil z).elim) (fun z => (List.not_mem_nil z).elim)
        | some u =>
          rcases hcs q with ⟨z, _⟩ | ⟨_, rfl, _, rfl⟩
          · exact (nb z).elim
          · rw [ha] at e
            cases e
            exact (hok' b _ (un.frzs b _ _ q)).1
      have grows : ∀ p ∈ cs, ∃ more : Array Value, s'.heap.get? p.2 = some { cls := .none, data := .fields more } := by
        intro p hp
        obtain ⟨more, z⟩ := un.tbls p.2 #[] (hHT p hp)
        exact ⟨_, hok' p.2 _ z⟩
      refine ⟨rfl, ⟨?_, ?_⟩, os, bare⟩
      · intro b ob e
        by_cases z : b ∈ cs.map (·.2)
        · obtain ⟨p, hp, rfl⟩ := List.mem_map.mp z
          obtain ⟨more, hm⟩ := grows p hp
          obtain ⟨t1, t2, t3⟩ := TT p hp
          rw [t1] at e
          cases e
          refine .inr (.inl ⟨(t3.tab t1).isCodeTable, rfl, #[], more, rfl, ?_⟩)
          rw [Array.empty_append]
          exact hm
        · exact .inl (stays b ob z e)
      · intro b ob e
        by_cases z : b ∈ cs.map (·.2)
        · obtain ⟨p, hp, rfl⟩ := List.mem_map.mp z
          obtain ⟨more, hm⟩ := grows p hp
          exact ⟨_, hm⟩
        · exact ⟨ob, stays b ob z e⟩
/-- what the law's own end asks, over a head by facts with tables -/
theorem walkT {l : PySem.W.OpenLaw} {n k : Nat} {q : Program} {loose : List Str} {XP : (Str → Option Value) → Heap → Prop} {YP : World → Heap → Prop} {d : DefRec} {x : Str} {CX : CXT}
    (hn : l.most = some n) (hn2 : n ≤ sizeLine) (hdf : d.params.defaults = []) (hr : Room k callerA)
    (F : ∀ (w : World) (mg : Str → Option Value) (fa : Addr) (h : Heap), YP w h → h.Ns mainGlobals mg → mg d.name = some (.ref fa) →
      ∃ (K : PySem.W.Frag) (fd : FuncData) (cs : List (Addr × Addr)) (sp : Sp), K.In h ∧ (∀ p ∈ cs, Tb0 K h mg p) ∧ (∀ (s : Shared) (u : Value), BindsTo s fd ⟨[u], []⟩ [(x, u)]) ∧
        (∀ (H : Hp) (a : Addr) (ns : List Int), ns.length ≤ n → (∀ p ∈ cs, H p.2 = some (.tbl #[])) → SqL K H a (ns.map V.int) → sp [.ref a] H (fun v _ => v = .bl true) fun _ _ _ => False) ∧
        ∀ base : Heap, K.In base → base.Ns mainGlobals mg → (∀ p ∈ cs, TabB base mg p.1 p.2) → Fg l.prog w K mg base CX k fa fd [x] sp)
    (hCX : ∀ (H : Hp) (s : Shared) (e : Value) (s' : Shared), CX [] H s (fun _ _ _ => False) e s' → False) :
    PySem.W.WalkO q loose XP YP l.row.toRowW d [] (fun f vs => PySem.call f vs) := by
  refine Att.attach_call hn hdf ?_
  intro w s₀ s₁ mg mb fa o pm cd doc a vs ns GG Y ho hd hcd hmg hobj hints hlen hg
  obtain ⟨K, fd, cs, sp, KX, TT, hb, hsp, hF⟩ := F w mg fa _ Y GG.T.g hmg
  exact law_endT KX GG.T.g GG.T.b GG.T.builtins GG.T.nolimit hg TT GG.T.bmain hobj hints (Nat.le_trans hlen hn2) hr hF hb (fun H hO hS => hsp H a ns hlen hO hS) (fun H e s' => hCX H s₁ e s')
end G


namespace G
open PySem PySem.Spec PyProof.Rows L2 StX ClX LamX
/-! ### promises of defs, methods, makers that may raise -/
section
variable {P : Program} {w : World} {K : PySem.W.Frag} {mg : Str → Option Value} {base : Heap}
/-- a def that may raise -/
abbrev HasX (P : Program) (w : World) (K : PySem.W.Frag) (mg : Str → Option Value) (base : Heap) (x : Str) (st : Stmt) (ps : List Str) (k : Nat) (sp : Sp) : Prop := Has P w K mg base (L2.CX P w) x st ps k sp
theorem hasX_mk {x : Str} {st : Stmt} {N ps : List Str} {k : Nat} {sp : Sp} (D : At K mg x st) (S : FnScope N ps (defScope st)) (len : ∀ vs H Q E, sp vs H Q E → vs.length = ps.length)
    (hbi : ∀ (kV doc pm : Value) (an : Option Addr) (cdv ct : Value) (us : List Value), us.length = ps.length → bindArgs (PySem.W.fnOf x x (defArgs st) (defBody st) (defScope st) .none kV doc pm an cdv ct) ⟨us, []⟩ = pure (ps.zip us))
    (hb : ∀ (f : Addr) (cdv : Value) (A : Around) (outer : List Env) (s : Shared) (H : Hp) (vs : List V) (Q : VK) (E : XK),
      Room k (A.deeper (envOfC x (defScope st) s.heap.objs.size f cdv)) → Gd (A.deeper (envOfC x (defScope st) s.heap.objs.size f cdv)) →
      sp vs H Q E → ∃ t, PSs (cxOf (L2.CX P w) P w K mg base N x (defScope st) f cdv A outer s H E) (defBody st) t ∧ t { nx := fun _ H' => Q .non H', rt := Q } (start N vs) H) :
    HasX P w K mg base x st ps (k + 1) sp := by
  obtain ⟨f, fd, F, hm⟩ := D
  exact ⟨f, fd, F, hm, F.binds hbi, ok0X F S len fun cdv A outer s H vs Q E hr hg h => hb f cdv A outer s H vs Q E hr hg h⟩
structure HasMX0 (P : Program) (w : World) (K : PySem.W.Frag) (mg : Str → Option Value) (base : Heap) (C : Addr) (m : Str) (ps : List Str) (k : Nat) (sp : Sp) (f : Addr) (fd : FuncData) : Prop where
  me : Meth K C m f
  bi : Binds K fd ps []
  ok : Fg P w K mg base (L2.CX P w) k f fd ps sp
/-- a method that may raise -/
def HasMX (P : Program) (w : World) (K : PySem.W.Frag) (mg : Str → Option Value) (base : Heap) (C : Addr) (m : Str) (st : Stmt) (ps : List Str) (k : Nat) (sp : Sp) : Prop := ∃ f fd q, Fun K m q st f fd ∧ HasMX0 P w K mg base C m ps k sp f fd
theorem hasMX_mk {C : Addr} {m q : Str} {st : Stmt} {N ps : List Str} {k : Nat} {sp : Sp} (D : AtM K C m q st) (S : FnScope N ps (defScope st)) (len : ∀ vs H Q E, sp vs H Q E → vs.length = ps.length)
    (hbi : ∀ (kV doc pm : Value) (an : Option Addr) (cdv ct : Value) (us : List Value), us.length = ps.length → bindArgs (PySem.W.fnOf m q (defArgs st) (defBody st) (defScope st) .none kV doc pm an cdv ct) ⟨us, []⟩ = pure (ps.zip us))
    (hb : ∀ (f : Addr) (cdv : Value) (A : Around) (outer : List Env) (s : Shared) (H : Hp) (vs : List V) (Q : VK) (E : XK),
      Room k (A.deeper (envOfC q (defScope st) s.heap.objs.size f cdv)) → Gd (A.deeper (envOfC q (defScope st) s.heap.objs.size f cdv)) →
      sp vs H Q E → ∃ t, PSs (cxOf (L2.CX P w) P w K mg base N q (defScope st) f cdv A outer s H E) (defBody st) t ∧ t { nx := fun _ H' => Q .non H', rt := Q } (start N vs) H) :
    HasMX P w K mg base C m st ps (k + 1) sp := by
  obtain ⟨f, fd, F, hm⟩ := D
  exact ⟨f, fd, q, F, hm, F.binds hbi, ok0X F S len fun cdv A outer s H vs Q E hr hg h => hb f cdv A outer s H vs Q E hr hg h⟩
/-- a class made by its def __init__(a, **d), which may raise -/
def HasKX (P : Program) (w : World) (K : PySem.W.Frag) (mg : Str → Option Value) (base : Heap) (C : Addr) (x : Str) (k : Nat) (sp : List V → List (Str × V) → Hp → VK → XK → Prop) : Prop := ∃ f, L2.Mk K C f ∧ mg x = some (.ref C) ∧ Fk P w K mg base (L2.CX P w) k f sp
theorem hasKX_mk {C : Addr} {x q : Str} {st : Stmt} {N : List Str} {k : Nat} {a1 a2 : Arg} {sp : Sp} (D : AtK K mg C x q st)
    (hp : defArgs st = { posonlyargs := [], args := [a1], vararg := none, kwonlyargs := [], kw_defaults := [], kwarg := some a2, defaults := [] }) (S : FnScope N [a1.arg, a2.arg] (defScope st))
    (hb : ∀ (f : Addr) (cdv : Value) (A : Around) (outer : List Env) (s : Shared) (H : Hp) (vs : List V) (Q : VK) (E : XK),
      Room k (A.deeper (envOfC q (defScope st) s.heap.objs.size f cdv)) → Gd (A.deeper (envOfC q (defScope st) s.heap.objs.size f cdv)) →
      sp vs H Q E → ∃ t, PSs (cxOf (L2.CX P w) P w K mg base N q (defScope st) f cdv A outer s H E) (defBody st) t ∧ t { nx := fun _ H' => Q .non H', rt := Q } (start N vs) H) :
    HasKX P w K mg base C x (k + 1) (fun vs ys H Q E => ∃ v, vs = [v] ∧ (∀ p ∈ ys, (p.1 == a1.arg) = false) ∧ (ys.map (·.1)).Nodup ∧ ys.length ≤ sizeLine ∧ ∀ d, H d = none → sp [v, .ref d] (upd H d (.dK (inrs ys))) Q E) := by
  obtain ⟨f, fd, F, hm, hg⟩ := D
  obtain ⟨oc, od, kV, doc, pm, an, cdv, ct, osl, rfl, lk, hcd⟩ := F.ex
  exact ⟨f, hm, hg, fk_kw lk hcd hp S cxUp fun A outer s H vs Q E hr hg' hsp => hb f cdv A outer s H vs Q E hr hg' hsp⟩
end
section
variable {X : Cx} {k : Nat} {C : Addr} {st : Stmt} {ps ks : List Str} {sp : Sp} {spk : List V → List (Str × V) → Hp → VK → XK → Prop} {x m : Str} {p pos apos kp : Pos} {o e : Expr} {es : List Expr} {ta te : TE} {t tk : TA} {kws : List Keyword} {E : XK}
theorem peHX (h : HasX X.prog X.w X.K X.mg X.base x st ps k sp) (hx : Passes (L2.CX X.prog X.w) X E) (hr : Room k X.A) (hgd : Gd X.A) (hg : Gl X x) (ha : PA X (e :: es) t)
    (hdb : (x == ("__debug__" : Str)) = false := by decide) (he : starEach (e :: es) X.env = (false, eval e X.env) :: starEach es X.env := by rfl) (hpl : (backTo pos (starEach es X.env)).any (·.1) = false := by rfl) :
    PE X (.Call (.Name x p) (e :: es) [] pos) (tCall sp [] E t) := by
  obtain ⟨f, fd, h⟩ := h
  exact peC h.ok hr hgd hg h.at_ h.fn.kp h.bi .nil hx ha hdb he hpl
theorem peHMX {pl : Sem Bool} (h : HasMX X.prog X.w X.K X.mg X.base C m st ps k sp) (hx : Passes (L2.CX X.prog X.w) X E) (c : Cls X.K C) (hr : Room k X.A) (hgd : Gd X.A) (he : PE X o ta) (ha : PA X (e :: es) t)
    (hst : starEach (e :: es) X.env = (false, eval e X.env) :: starEach es X.env := by rfl) (hpl : (backTo pos (starEach es X.env)).any (·.1) = false := by rfl)
    (ht : eval (.Call (.Attribute o m apos) (e :: es) [] pos) X.env = (do
      let ov ← eval o X.env
      standAt apos.atName
      let (f, first) ← holding [ov] (getMethod ov m pl)
      callWith pos f first (backTo pos (starEach (e :: es) X.env)) (backToKw pos (keywordEach [] X.env))) := by rfl) :
    PE X (.Call (.Attribute o m apos) (e :: es) [] pos) (tMeth C m sp [] E ta t) := by
  obtain ⟨f, fd, q, _, h⟩ := h
  exact peM he c h.me h.ok hr hgd h.bi .nil hx ha hst hpl ht
/-- C(k = v, ..) -/
theorem peMkZX (h : HasKX X.prog X.w X.K X.mg X.base C x k spk) (hx : Passes (L2.CX X.prog X.w) X E) (hr : Room (k + 1) X.A) (hgd : Gd X.A) (hg : Gl X x) (hkw : PK X kws tk)
    (hall : (backToKw pos (keywordEach kws X.env)).all (·.1.isSome) = true := by rfl) (hks : (backToKw pos (keywordEach kws X.env)).filterMap (·.1) = ks := by rfl) (hdb : (x == ("__debug__" : Str)) = false := by decide)
    (hpl : ((backTo pos (starEach [] X.env)).any (·.1) || (backToKw pos (keywordEach kws X.env)).any (·.1.isNone)) = false := by rfl) : PE X (.Call (.Name x p) [] kws pos) (tMakeZ C spk ks E tk) := by
  obtain ⟨f, M, hm, F⟩ := h
  constructor
  intro pins s σ H Q I h
  apply wpAny_Call_Name_kw
  refine ld_glob I hg hm ?_ hdb
  refine PySem.W.callWith_KW0 (first := []) (h₀ := X.base) I.ok.mod.kin M.kp hall ?_ hpl
  refine thn (hkw.run pos pins s σ H _ I h) ?_
  rintro ws s2 ⟨zs, H2, I2, rz, q2⟩
  refine ⟨I2.kIn, ?_⟩
  rw [hks]
  exact run_makeG (us := []) (vs := []) M F hr hgd hx I2 .nil (KV.zip rz) q2
end
/-- what leaves a def that may raise, a lambda -/
theorem passX {P : Program} {w : World} {K : PySem.W.Frag} {mg : Str → Option Value} {base : Heap} {N : List Str} {q : Str} {sc : Scope} {f : Addr} {cdv : Value} {A : Around} {outer : List Env} {s : Shared} {H : Hp} {E : XK} : Passes (L2.CX P w) (cxOf (L2.CX P w) P w K mg base N q sc f cdv A outer s H E) E :=
  passes_call takesX fun _ _ _ _ h => h
theorem takesL {X : Cx} {A : Around} {outer : List Env} {s : Shared} {H : Hp} {E : XK} {scope : Scope} {f c' : Addr} : Takes (lamCx X A outer s H E scope f c') (fun cls d _ H => E cls d H) := takes_of rfl rfl rfl rfl
theorem passL {X : Cx} {A : Around} {outer : List Env} {s : Shared} {H : Hp} {E : XK} {scope : Scope} {f c' : Addr} : Passes (L2.CX X.prog X.w) (lamCx X A outer s H E scope f c') E :=
  passes_call takesL fun _ _ _ _ h => h
/-! ### a op b, b of a built-in kind -/
/-- the facts that this wants of the class -/
structure OwnT (K : PySem.W.Frag) (C : Addr) (op : Operator) (T : String) : Prop where
  r : PySem.W.findIn K (.ref C) (PySem.dunderR op.info.2) = some none
  a : ∃ fo, PySem.W.findIn K (.type T) (PySem.dunder op.info.2) = some fo
  b : ∃ ro, PySem.W.findIn K (.type T) (PySem.dunderR op.info.2) = some ro
  sub : PySem.W.subIn K (.type T) (.ref C) = some false
section
open PySem.W
variable {prog : Program} {w : World} {A : Around} {E : Value → Shared → Prop} {s : Shared} {K : Frag} {x C f : Addr} {ox : Obj} {od : Option Obj} {T : String} {op : Operator} {b : Value} {Q : Value → Shared → Prop}
theorem bin_T (X : K.In s.heap) (I : InstAt s.heap x ox C od) (hb : Looks (model prog w) s.heap (typeOf b) (.type T)) (hc : selfFirst K C = true)
    (hs : findIn K (.ref C) (PySem.dunder op.info.2) = some (some (.ref f))) (hf : isFn K (.ref f) = true) (O : OwnT K C op T)
    (h : wpAny (model prog w) A (call (.ref f) [.ref x, b]) (PySem.W.CmpBack Q) E s) : wpAny (model prog w) A (binaryOp op (.ref x) b) Q E s := by
  obtain ⟨r, ⟨fo, a1⟩, ⟨ro, a2⟩, sub⟩ := O
  obtain ⟨cd, rest, e1, e2⟩ := ksp_first hc
  cases hi : op.info with
  | mk sym nm =>
    rw [hi] at hs r a1 a2
    have go := ksp_try X I hs hf h
    obtain ⟨hh, g, d, tt, os⟩ := s
    have l1 : Looks (model prog w) hh (typeOf (.ref x)) (.ref C) := I.type
    have l2 := hb
    have l3 := fills_K (M := model prog w) X e1 e2 hs
    have l4 := ksp_fillsT (M := model prog w) X a1 a2
    have l5 : Looks (model prog w) hh (isSubtype (.type T) (.ref C)) false := looks_subIn X sub
    have l6 := ksp_inPy (M := model prog w) X hs r (.inl rfl)
    have l7 : Looks (model prog w) hh (numberSlotInPython (.type T) nm) false := Looks.of_pure rfl
    have l8 : Looks (model prog w) hh (typeLookup (.type T) (dunderR nm)) ro := looks_findIn X a2
    have ne : (Value.ref C == Value.type T) = false := by
      apply Bool.eq_false_iff.mpr
      intro q
      cases beq_iff_eq.mp q
    simp only [binaryOp, hi]
    apply wpAny_holding
    apply wpAny_bind
    unfold binaryOp1
    refine wpAny_bind (l1.at (wpAny_bind (l2.at (wpAny_bind (l3.at ?_)))))
    simp only [ne, Bool.false_eq_true, if_false]
    cases hq : ((fo.isSome && !isSeqSlot fo) || (ro.isSome && !isSeqSlot ro)) <;>
    · rw [hq] at l4
      ksp_lk
      refine wpAny_mono go ?_ (fun _ _ z => z)
      rintro rr s' ⟨v, rfl, z⟩
      ksp_lk
      exact z
end
/-- the built-in kind of a value -/
inductive KindT (K : PySem.W.Frag) (H : Hp) : V → String → Prop
  | non : KindT K H .non "NoneType"
  | bl {b} : KindT K H (.bl b) "bool"
  | int {i} : KindT K H (.int i) "int"
  | str {z} : KindT K H (.str z) "str"
  | lst {a xs} (h : H a = some (.lst xs)) : KindT K H (.ref a) "list"
  | tup {a xs} (h : H a = some (.tup xs)) : KindT K H (.ref a) "tuple"
  | dK {a xs} (h : H a = some (.dK xs)) : KindT K H (.ref a) "dict"
section
variable {X : Cx} {k : Nat} {C f : Addr} {fd : FuncData} {ps : List Str} {sp : Sp} {E : XK} {CX : CXT} {st : Stmt}
theorem KindT.at {pins : List (Addr × Obj)} {σ : L2.St} {H : Hp} {s : Shared} {y : V} {u : Value} {T : String} (I : Inv X pins σ H s) (t : KindT X.K H y T) (r : RelV y u) : PySem.W.Looks (model X.prog X.w) s.heap (typeOf u) (.type T) := by
  cases t with
  | non => cases r; exact PySem.W.Looks.of_pure rfl
  | bl => cases r; exact PySem.W.Looks.of_pure rfl
  | int => obtain ⟨t, rfl⟩ := r; exact PySem.W.Looks.of_pure rfl
  | str => obtain ⟨t, rfl⟩ := r; exact PySem.W.Looks.of_pure rfl
  | lst h =>
    cases r
    obtain ⟨_, us, n, _, hg⟩ := I.hok _ _ h
    exact (PySem.W.Looks.ld hg).andThen .now
  | tup h =>
    cases r
    obtain ⟨_, us, _, hg⟩ := I.hok _ _ h
    obtain ⟨o, e, c, _⟩ := hg
    exact c ▸ (PySem.W.Looks.ld e).andThen .now
  | dK h =>
    cases r
    obtain ⟨_, _, us, _, o, es, ep, e, c, _⟩ := I.hok _ _ h
    exact c.1 ▸ (PySem.W.Looks.ld e).andThen .now
/-- a op b, a own, b of a built-in kind or own -/
def rOwnT (K : PySem.W.Frag) (C : Addr) (op : Operator) (sp : Sp) (E : XK) : R2 := fun x y H Q => ∃ a dx fs, x = .ref a ∧ H a = some (.ins C dx fs) ∧
  ((∃ T, KindT K H y T ∧ OwnT K C op T) ∨ ∃ b dy gs, y = .ref b ∧ H b = some (.ins C dy gs)) ∧ sp [x, y] H Q E
theorem op_ownT {op : Operator} (K : PySem.W.Frag) (O : Opr X.K C (PySem.dunder op.info.2) f) (F : Fg X.prog X.w X.K X.mg X.base CX k f fd ps sp) (hr : Room k X.A) (hgd : Gd X.A) (hb : Binds X.K fd ps []) (hx : Passes CX X E) (hk : X.K = K := by rfl) :
    OpR X (binaryOp op) (rOwnT K C op sp E) := by
  subst hk
  intro pins s σ H x y v u Q I rx ry h
  obtain ⟨a, dx, fs, rfl, ha, ty, hq⟩ := h
  cases rx
  obtain ⟨ox, od, J, _⟩ := insC_at I (.inr ⟨dx, fs, ha⟩)
  have run : wpAny (model X.prog X.w) X.A (call (.ref f) [.ref a, u]) (PySem.W.CmpBack (EP X pins σ Q)) X.xe s := by
    refine thn (runG (us := [.ref a, u]) (vs' := [.ref a, y]) (us' := [.ref a, u]) F hr hgd hx I (fun hl => ?_) (.cons rfl (.cons ry .nil)) hq) fun r s' q => RelV.back q
    have := hb s [.ref a, u] I.kIn (by simpa using hl)
    simpa using this
  rcases ty with ⟨T, kt, ot⟩ | ⟨b, dy, gs, rfl, hb'⟩
  · exact bin_T I.kIn J (kt.at I ry) O.first O.at_ O.fn ot run
  · cases ry
    obtain ⟨oy, oe, J2, _⟩ := insC_at I (.inr ⟨dy, gs, hb'⟩)
    obtain ⟨m, Fr⟩ := I.fr
    exact PySem.W.binop_K Fr I.ok.mod.kin J J2.type O.first O.at_ O.fn run
theorem opHTX {op : Operator} (K : PySem.W.Frag) (h : HasMX X.prog X.w X.K X.mg X.base C (PySem.dunder op.info.2) st ps k sp) (hx : Passes (L2.CX X.prog X.w) X E) (s : PySem.W.selfFirst X.K C = true) (hr : Room k X.A) (hgd : Gd X.A) (hk : X.K = K := by rfl) :
    OpR X (binaryOp op) (rOwnT K C op sp E) := by
  obtain ⟨f, fd, q, _, h⟩ := h
  exact op_ownT K ⟨s, h.me.at_, h.me.fn⟩ h.ok hr hgd h.bi hx hk
end
end G


namespace G
open PySem PySem.Spec PyProof.Rows L2 StX ClX LamX
/-! ### repr of a list, a tuple of one own object -/
section
variable {prog : Program} {w : World} {A : Around} {E : Value → Shared → Prop} {s : Shared} {K : PySem.W.Frag} {x C f : Addr} {ox : Obj} {od : Option Obj} {b : Nat} {Q : Str → Shared → Prop}
theorem reprU_own (hb : b ≤ sizeLine) (hu : A.units < cLine) (X : K.In s.heap) (I : PySem.W.InstAt s.heap x ox C od) (hs : PySem.W.findIn K (.ref C) "__repr__" = some (some (.ref f))) (hf : PySem.W.isFn K (.ref f) = true)
    (h : wpAny (model prog w) A (call (.ref f) [.ref x]) (fun v s' => ∃ z t, v = .str z t ∧ Q z s') E s) : wpAny (model prog w) A (pyReprUnder b (.ref x)) Q E s := by
  apply wpAny_pyReprUnder_ref hb
  unfold pyReprObjUnder pyReprObjBy
  apply wpAny_bind
  apply wpAny_cRoomFor hu
  refine wpAny_bind (wpAny_bind (I.type.here ((PySem.W.looks_findIn X hs).here ?_)))
  show wpAny _ _ (if (some (Value.ref f)).isNone = true then _ else _) _ _ _
  rw [if_neg (by simp)]
  refine wpAny_bind (m := callSpecialIfBoundBy? _ (.ref x) (Str.ofString "__repr__")) ?_
  simp only [callSpecialIfBoundBy?, bindSpecialIfBound?]
  apply wpAny_holding
  refine wpAny_bind (wpAny_bind (wpAny_bind (I.type.here ((PySem.W.looks_findIn X hs).here ?_))))
  refine wpAny_bind (wpAny_askSetting (wpAny_ite ?_))
  have bf := PySem.W.bind_fn (M := model prog w) X (.ref x) (beq_iff_eq.mp hf)
  have fin : wpAny (model prog w) A (call (.ref f) ([.ref x] ++ []) >>= fun v => pure (some v)) (fun r s' => wpAny (model prog w) A (match r with
      | some r => do if ← isInstance r (.type "str") then pure r else raiseError "TypeError" s!"__repr__ returned non-string (type {← typeNameOf r})"
      | none => unsupported "repr:special-get-raises") (fun v s' => ∃ z u, v = .str z u ∧ Q z s') E s') E s := by
    apply wpAny_bind
    refine wpAny_mono h ?_ (fun _ _ z => z)
    rintro v s' ⟨z, t, rfl, q⟩
    apply wpAny_pure
    refine wpAny_bind (wpAny_isInstance (T := "str") (b := true) rfl isSubtype_str_str ?_)
    first | exact wpAny_pure ⟨_, _, rfl, q⟩ | (rw [if_pos rfl]; exact wpAny_pure ⟨_, _, rfl, q⟩) | (simp only [if_true]; exact wpAny_pure ⟨_, _, rfl, q⟩)
  split
  · exact wpAny_bind (bf.here (wpAny_pure (by exact fin)))
  · exact wpAny_tryCatch (wpAny_bind (bf.here (wpAny_pure (by exact fin))))
end
section
variable {k : Nat} {A : Around}
theorem Room.loop (r : Room (k + 1) A) (args : Args) : Room k (A.under (.builtin "list.__repr__.loop" args)) := by
  refine ⟨by first | exact r.hd | simpa [Around.under] using r.hd, ?_, ?_⟩
  · have := r.dp
    have e : (A.under (.builtin "list.__repr__.loop" args)).depth ≤ A.depth + 1 := by
      first | exact Nat.le_refl _ | simp [Around.under, Code.weight, Code.isCreation, Code.isGuard, Code.isCaller, Code.frames, Code.isFrame, guardIds]
    omega
  · have := r.un
    rw [units_under_list_loop]
    omega
theorem Room.tup (r : Room (k + 1) A) (args : Args) : Room k (A.under (.builtin "tuple.__repr__" args)) := by
  refine ⟨by first | exact r.hd | simpa [Around.under] using r.hd, ?_, ?_⟩
  · have := r.dp
    have e : (A.under (.builtin "tuple.__repr__" args)).depth ≤ A.depth + 1 := by
      first | exact Nat.le_refl _ | simp [Around.under, Code.weight, Code.isCreation, Code.isGuard, Code.isCaller, Code.frames, Code.isFrame, guardIds]
    omega
  · have := r.un
    rw [units_under_tuple_repr]
    omega
theorem Env0.any {P : Program} {w : World} {K : PySem.W.Frag} {mg : Str → Option Value} {base : Heap} {A A' : Around} {outer : List Env} {s : Shared} {H : Hp} (e : Env0 P w K mg base A outer s H) (h : A'.frames = A.frames) : Env0 P w K mg base A' outer s H :=
  ⟨h.trans e.frames, e.mod, e.bs, e.bsz, e.funs, e.frf, e.hok, e.bare⟩
end
/-- a method's promise, whatever is running around -/
def HasR (P : Program) (w : World) (K : PySem.W.Frag) (mg : Str → Option Value) (base : Heap) (C : Addr) (m : Str) (ps : List Str) (k : Nat) (sp : Sp) : Prop := ∃ f fd, Meth K C m f ∧ Binds K fd ps [] ∧ FnOk P w K mg base CX0 k f fd ps sp
/-- the method at f may be called at an own thing -/
def CanRun (X : Cx) (A : Around) (f : Addr) (sp : Sp) : Prop := ∀ (a : Addr) (pins : List (Addr × Obj)) (σ : L2.St) (H : Hp) (s : Shared) (R : VK) (Ex : Value → Shared → Prop), Inv X pins σ H s → sp [.ref a] H R E0 → wpAny (model X.prog X.w) A (call (.ref f) [.ref a]) (EP X pins σ R) Ex s
/-- .. at all the places where repr calls it -/
structure Rpb (X : Cx) (C : Addr) (f : Addr) (sp : Sp) : Prop where
  me : Meth X.K C "__repr__" f
  un : X.A.units + 200 < cLine
  r0 : CanRun X X.A.in1 f sp
  rt : ∀ args, CanRun X (X.A.in1.under (.builtin "tuple.__repr__" args)) f sp
  rl : ∀ args, CanRun X (X.A.in1.under (.builtin "list.__repr__.loop" args)) f sp
theorem run_calm {X : Cx} {k : Nat} {f : Addr} {fd : FuncData} {ps : List Str} {sp : Sp} {A : Around} (F : FnOk X.prog X.w X.K X.mg X.base CX0 k f fd ps sp) (bi : Binds X.K fd ps []) (hr : Room k A) (hfr : A.frames = X.A.frames) : CanRun X A f sp := by
  intro a pins σ H s R Ex I hq
  have hl : [V.ref a].length = ps.length := F.len _ _ _ _ hq
  have bb := bi s [.ref a] I.kIn (by simpa using hl)
  refine wpAny_call (codeAny_mono (F.run A X.stack s H ⟨[.ref a], []⟩ [.ref a] [.ref a] _ E0 hr (Env0.any I.env0 hfr) (by simpa using bb) (.cons rfl .nil) hq) ?_)
  intro rs s' z
  cases rs with
  | error e => exact (show False from z).elim
  | ok fl => cases fl with
    | ret u => exact I.after z
    | _ => exact z.elim
theorem HasR.rpb {X : Cx} {C : Addr} {k : Nat} {ps : List Str} {sp : Sp} (h : HasR X.prog X.w X.K X.mg X.base C "__repr__" ps k sp) (hr : Room (k + 3) X.A) : ∃ f, Rpb X C f sp := by
  obtain ⟨f, fd, me, bi, F⟩ := h
  have hr1 : Room (k + 2) X.A.in1 := hr.in1
  refine ⟨f, me, by have := hr.un; omega, run_calm F bi (hr1.mono (by omega)) rfl, fun args => run_calm F bi ((Room.tup hr1 args).mono (by omega)) ?_, fun args => run_calm F bi ((Room.loop hr1 args).mono (by omega)) ?_⟩
  · first | rfl | simp [Around.under, Code.envs, Code.isFrame, pushEnvs]
  · first | rfl | simp [Around.under, Code.envs, Code.isFrame, pushEnvs]
def rReprT1 (C : Addr) (sp : Sp) : RC := fun xs H Q => ∃ q a dx fs, xs = [.ref q] ∧ H q = some (.tup [.ref a]) ∧ H a = some (.ins C dx fs) ∧ sp [.ref a] H (fun v H' => ∃ z, v = .str z ∧ z.length ≤ 100000 ∧ Q (.str (tupleText [z])) H') E0
def rReprL1 (C : Addr) (sp : Sp) : RC := fun xs H Q => ∃ q a dx fs, xs = [.ref q] ∧ H q = some (.lst [.ref a]) ∧ H a = some (.ins C dx fs) ∧ sp [.ref a] H (fun v H' => ∃ z, v = .str z ∧ z.length ≤ 100000 ∧ H' q = some (.lst [.ref a]) ∧ Q (.str (listText [z])) H') E0
section
variable {X : Cx} {k : Nat} {C f : Addr} {fd : FuncData} {ps : List Str} {sp : Sp} {pins : List (Addr × Obj)} {σ : L2.St} {H : Hp} {s : Shared} {A : Around} {R : Str → Hp → Prop}
/-- the item's __repr__ runs -/
theorem item_run {a dx : Addr} {fs : List (Str × V)} (me : Meth X.K C "__repr__" f) (cr : CanRun X A f sp) (hu : A.units < cLine) (I : Inv X pins σ H s) (ha : H a = some (.ins C dx fs))
    (hq : sp [.ref a] H (fun v H' => ∃ z, v = .str z ∧ R z H') E0) {b : Nat} (hb : b ≤ sizeLine) {Ex : Value → Shared → Prop} {G : Str → Shared → Prop}
    (k : ∀ z H' s', Inv X pins σ H' s' → R z H' → G z s') : wpAny (model X.prog X.w) A (pyReprUnder b (.ref a)) G Ex s := by
  obtain ⟨ox, od, J, _⟩ := insC_at I (.inr ⟨dx, fs, ha⟩)
  refine reprU_own hb hu I.kIn J me.at_ me.fn ?_
  refine wpAny_mono (cr a pins σ H s _ Ex I hq) ?_ (fun _ _ z => z)
  rintro u s' ⟨v, H', I3, rv, y, rfl, q3⟩
  obtain ⟨t, rfl⟩ := rv
  exact ⟨y, t, rfl, k y H' s' I3 q3⟩
/-- repr(o) -/
theorem repr_o1 (h : Rpb X C f sp) : CallR X (.builtin "repr") (rReprO C sp E0) := by
  intro pins s σ H xs us Q I r hh
  obtain ⟨a, dx, fs, rfl, ha, hq⟩ := hh
  cases r with
  | cons r0 rr =>
  cases rr
  obtain rfl : _ = Value.ref a := r0
  obtain ⟨ox, od, J, _⟩ := insC_at I (.inr ⟨dx, fs, ha⟩)
  obtain ⟨m, Fr⟩ := I.fr
  refine PySem.W.repr_K (by show X.A.units + 1 < cLine; have := h.un; omega) Fr I.ok.mod.kin J h.me.at_ h.me.fn ?_
  refine wpAny_mono (h.r0 a pins σ H s _ X.xe I hq) ?_ (fun _ _ z => z)
  rintro u s' ⟨v, H', I3, rv, ⟨y, rfl⟩, q3⟩
  obtain ⟨t, rfl⟩ := rv
  exact ⟨.str y, H', I3, ⟨t, rfl⟩, q3⟩
theorem repr_t1 (h : Rpb X C f sp) (hgd : Gd X.A) : CallR X (.builtin "repr") (rReprT1 C sp) := by
  have hun := h.un
  intro pins s σ H xs us Q I r hh
  obtain ⟨q, a, dx, fs, rfl, hq, ha, hsp⟩ := hh
  cases r with
  | cons r0 rr =>
  cases rr
  obtain rfl : _ = Value.ref q := r0
  obtain ⟨_, its, rv, o, ho, hc, n, hd⟩ := I.hok _ _ hq
  obtain ⟨u, rfl⟩ : ∃ u, its = [u] := by
    cases rv with
    | cons h t => cases t; exact ⟨_, rfl⟩
  obtain rfl : u = Value.ref a := by
    cases rv with
    | cons h t => exact h
  have hg1 : X.A.in1.guards = some [] := hgd
  refine call_repr_slot (by omega) ⟨o, ho, hc⟩ F.slot_tuple_repr ?_
  refine wpAny_call (codeAny_call_builtin_own (Code.quiet_builtin _ (by decide +kernel)) F.entry_tuple_repr (F.slot_tuple_repr.check _ _ _ _ _ _ _ _ ⟨o, ho, hc⟩ (F.args_tuple_repr_1 _) ?_))
  show wpOwn _ _ _ (Builtin.tupleReprAt 0 ⟨[.ref q], []⟩) _ _ s
  rw [tuple_repr_tree, tupleReprUnderWay_eq]
  refine wpOwn_bind (wpOwn_stackTailAny hg1 (tupGuardF_off _) (tupGuardF_pos _) ?_)
  apply wpOwn_of_wpAny
  show wpAny _ _ (tupleReprRest 0 (.ref q)) _ _ s
  unfold tupleReprRest Builtin.Tuple.tupleItemsOf
  refine wpAny_bind (wpAny_bind (wpAny_seqItems ho hd (wpAny_pure ?_)))
  rw [← Array.forIn_toList]
  show wpAny _ _ (forIn [Value.ref a] _ _ >>= _) _ _ _
  rw [List.forIn_cons]
  refine wpAny_bind (wpAny_bind ?_)
  unfold tupBody
  apply wpAny_bind
  refine item_run (R := fun z H' => z.length ≤ 100000 ∧ Q (.str (tupleText [z])) H') h.me (h.rt _) (by rw [units_under_tuple_repr]; show X.A.units + 1 + 1 < cLine; omega) I ha hsp (by rw [sizeLine_eq]; omega) ?_
  · rintro z H' s' I' ⟨hl, q'⟩
    apply wpAny_pure
    show wpAny _ _ (forIn [] (#[z], 0 + (z.length + 2)) _) _ _ _
    rw [List.forIn_nil]
    apply wpAny_pure
    have hz : (tupleText [z]).length ≤ sizeLine := by
      have e : (tupleText [z]).length = z.length + 3 := by
        show (("(" : Str) ++ Str.join ", " [z] ++ ",)").length = _
        rw [strLen_append, strLen_append]
        show 1 + (Str.join ", " [z]).length + 2 = _
        have := join_length_add [z] (by simp)
        simp only [piled, List.map_cons, List.map_nil, List.sum_cons, List.sum_nil] at this
        omega
      rw [e, sizeLine_eq]
      omega
    refine wpAny_bind (wpAny_mkStr (wpAny_pure ?_) hz)
    exact ⟨_, _, rfl, .str _, H', I'.tok _, ⟨_, rfl⟩, q'⟩
theorem listText1_len (z : Str) : (listText [z]).length = z.length + 2 := by
  show ((("[" : Str) ++ "" ++ z) ++ "]").length = _
  rw [strLen_append, strLen_append, strLen_append]
  show 1 + 0 + z.length + 1 = _
  omega
theorem repr_l1 (h : Rpb X C f sp) (hgd : Gd X.A) : CallR X (.builtin "repr") (rReprL1 C sp) := by
  have hun := h.un
  intro pins s σ H xs us Q I r hh
  obtain ⟨q, a, dx, fs, rfl, hq, ha, hsp⟩ := hh
  cases r with
  | cons r0 rr =>
  cases rr
  obtain rfl : _ = Value.ref q := r0
  obtain ⟨_, its, n, rv, ho⟩ := I.hok _ _ hq
  obtain ⟨u, rfl⟩ : ∃ u, its = [u] := by
    cases rv with
    | cons h t => cases t; exact ⟨_, rfl⟩
  obtain rfl : u = Value.ref a := by
    cases rv with
    | cons h t => exact h
  have hg1 : X.A.in1.guards = some [] := hgd
  refine call_repr_slot (by omega) ⟨_, ho, rfl⟩ F.slot_list_repr.toG ?_
  refine wpAny_call (codeAny_call_builtin F.slot_list_repr.plain F.entry_list_repr (F.slot_list_repr.check _ _ _ _ _ _ _ _ ⟨_, ho, rfl⟩ (F.args_list_repr_1 _) ?_))
  show wpAny _ _ (Builtin.listReprAt 0 ⟨[.ref q], []⟩) _ _ s
  refine wpAny_list_repr_head hg1 (fun v rest kw hm => nomatch hm) ho rfl ?_
  refine wpAny_bind (m := newList []) (wpAny_newObj_type ?_)
  refine wpAny_pure ⟨F.quiet_list_repr_loop _, ?_⟩
  have fresh : H s.heap.objs.size = none := I.hok.fresh (Nat.le_refl _)
  have kpt : ∀ b o, s.heap.get? b = some o → (s.heap.push ({ cls := .type "list", data := .seq [].toArray } : Obj)).get? b = some o := fun b o e => Heap.get?_push_of_some _ e
  have I0 : Inv X pins σ H { s with heap := s.heap.push ({ cls := .type "list", data := .seq [].toArray } : Obj), toks := s.toks } := I.kept kpt
  have I1 : Inv X ((s.heap.objs.size, ({ cls := .type "list", data := .seq [].toArray } : Obj)) :: pins) σ H { s with heap := s.heap.push ({ cls := .type "list", data := .seq [].toArray } : Obj), toks := s.toks } := by
    refine I0.pins_of ?_
    intro p hp
    rcases List.mem_cons.mp hp with rfl | hp
    · exact ⟨Heap.get?_push_size _ rfl, fresh, Nat.ne_of_gt I.lt, I.nofs (Nat.le_refl _), fun v z => nomatch z⟩
    · exact I0.pin p (List.mem_append_right _ hp)
  have qP : q ≠ s.heap.objs.size := Nat.ne_of_lt (Heap.lt_size ho)
  have cellP : ∀ y c, X.env.cells.lookup y = some c → c ≠ s.heap.objs.size := by
    intro y c ec z
    obtain ⟨v, o, ho', _⟩ := I.cell y c ec
    exact absurd (Heap.lt_size ho') (by rw [z]; exact Nat.lt_irrefl _)
  have pinP : ∀ p ∈ X.pn ++ pins, p.1 ≠ s.heap.objs.size := by
    intro p hp z
    have := (I.pin p hp).1
    exact absurd (Heap.lt_size this) (by rw [z]; exact Nat.lt_irrefl _)
  have szI := I.sz
  generalize s.heap.objs.size = P at *
  refine codeAny_builtin F.entry_list_repr_loop ?_
  show wpAny _ _ (Builtin.«list.__repr__.loop» ⟨[.ref q, .int 0 0, .ref P, .int 0 0], []⟩) _ _ _
  rw [repr_loop_tree]
  refine wpAny_bind (wpAny_listItems (kpt _ _ ho) rfl ?_)
  show wpAny _ _ (holding [Value.ref a] (pyReprUnder 1 (.ref a)) >>= _) _ _ _
  apply wpAny_bind
  apply wpAny_holding
  refine item_run (R := fun z H' => z.length ≤ 100000 ∧ H' q = some (.lst [.ref a]) ∧ Q (.str (listText [z])) H') h.me (h.rl _) (by rw [units_under_list_loop]; show X.A.units + 1 + 1 < cLine; omega) I1 ha hsp (by rw [sizeLine_eq]; omega) ?_
  rintro z H' s' I' ⟨hl, hq', q'⟩
  have hz : (listText [z]).length ≤ sizeLine := by
    rw [listText1_len, sizeLine_eq]
    omega
  refine wpAny_bind (wpAny_mkStr ?_ (by rw [sizeLine_eq]; omega))
  apply wpAny_bind
  obtain ⟨hpin, hf', hl', _, _⟩ := I'.pin (P, ({ cls := .type "list", data := .seq [].toArray } : Obj)) (List.mem_append.mpr (.inr List.mem_cons_self))
  have hpin : s'.heap.get? P = some ({ cls := .type "list", data := .seq [].toArray } : Obj) := hpin
  show wpAny _ _ (updateSeq P _) _ _ _
  refine wpAny_updateSeq hpin rfl (wpAny_pure ⟨F.quiet_list_repr_loop _, ?_⟩) (by decide)
  have Ib : Inv X pins σ H' s' := I'.pins_of fun p hp => I'.pin p (List.mem_append_right _ (List.mem_cons_of_mem _ hp))
  generalize hhU : s'.heap.update P (Obj.mapSeq fun x => x.push (Value.str z s'.toks)) = hU
  obtain ⟨c2, atP⟩ : ∃ c, hU.get? P = some ({ cls := .type "list", data := .seq #[Value.str z s'.toks] c } : Obj) := by
    rw [← hhU]
    exact ⟨_, Heap.get?_update_self (Obj.mapSeq fun x => x.push (Value.str z s'.toks)) hpin rfl⟩
  have oth : ∀ b o, b ≠ P → s'.heap.get? b = some o → hU.get? b = some o := by
    intro b o ne e
    rw [← hhU]
    exact (Heap.get?_update_other _ _ (fun h : P = b => ne h.symm)).trans e
  have I3 : Inv X pins σ H' { s' with heap := hU, toks := s'.toks + 1 } := by
    refine Ib.turned (it := P) (fun b o hb eb => oth b o hb eb) hf' hl' (.inr szI) ?_ ?_
    · intro y c ec z
      exact cellP y c ec z
    · intro p hp z
      exact pinP p hp z
  obtain ⟨_, its2, n2, rv2, ho2⟩ := Ib.hok _ _ hq'
  obtain ⟨u2, rfl⟩ : ∃ u, its2 = [u] := by
    cases rv2 with
    | cons h t => cases t; exact ⟨_, rfl⟩
  refine codeAny_builtin F.entry_list_repr_loop ?_
  show wpAny _ _ (Builtin.«list.__repr__.loop» ⟨[.ref q, .int 1 0, .ref P, .int _ 0], []⟩) _ _ _
  rw [repr_loop_tree]
  refine wpAny_bind (wpAny_listItems (oth _ _ qP ho2) rfl ?_)
  show wpAny _ _ (reprEnd (.ref P)) _ _ _
  unfold reprEnd
  refine wpAny_bind (wpAny_listItems atP rfl ?_)
  show wpAny _ _ (forIn ((strValues [(z, s'.toks)]).zipIdx 0) ("[" : Str) reprBody >>= _) _ _ _
  rw [repr_fold]
  refine wpAny_bind (wpAny_pure ?_)
  refine wpAny_bind (wpAny_mkStr (wpAny_pure ?_) hz)
  exact ⟨_, _, rfl, .str _, H', I3.tok _, ⟨_, rfl⟩, q'⟩
end
end G


namespace G
open PySem PySem.Spec PyProof.Rows L2 StX ClX LamX TL
section
variable {P : Program} {w : World} {K : PySem.W.Frag} {mg : Str → Option Value} {base : Heap}
theorem hasR_mk {C : Addr} {m q : Str} {st : Stmt} {N ps : List Str} {k : Nat} {sp : Sp} (D : AtM K C m q st) (S : FnScope N ps (defScope st)) (len : ∀ vs H Q E, sp vs H Q E → vs.length = ps.length)
    (hbi : ∀ (kV doc pm : Value) (an : Option Addr) (cdv ct : Value) (us : List Value), us.length = ps.length → bindArgs (PySem.W.fnOf m q (defArgs st) (defBody st) (defScope st) .none kV doc pm an cdv ct) ⟨us, []⟩ = pure (ps.zip us))
    (hb : ∀ (f : Addr) (cdv : Value) (A : Around) (outer : List Env) (s : Shared) (H : Hp) (vs : List V) (Q : VK) (E : XK), Room k (A.deeper (envOfC q (defScope st) s.heap.objs.size f cdv)) →
      sp vs H Q E → ∃ t, PSs (cxOf CX0 P w K mg base N q (defScope st) f cdv A outer s H E).nox (defBody st) t ∧ t { nx := fun _ H' => Q .non H', rt := Q } (start N vs) H) :
    HasR P w K mg base C m ps (k + 1) sp := by
  obtain ⟨f, fd, F, hm⟩ := D
  have bi := F.binds hbi
  obtain ⟨oc, od, kV, doc, pm, an, cdv, ct, osl, rfl, lk, hcd⟩ := F.ex
  refine ⟨f, _, hm, bi, fn_of lk hcd S len fun A outer s H vs Q E hr hsp => ?_⟩
  obtain ⟨t, h, q⟩ := hb f cdv A outer s H vs Q E hr hsp
  exact ⟨t, h.nox, q⟩
/-- the code object of the def under the name x -/
def CodeIs (K : PySem.W.Frag) (mg : Str → Option Value) (x : Str) (st : Stmt) (c : Addr) : Prop := ∀ (f : Addr) (fd : FuncData), Fun K x x st f fd → mg x = some (.ref f) → fd.code = .ref c
theorem hasL_mk {x : Str} {st : Stmt} {N ps : List Str} {k : Nat} {sp : Sp} {c : Addr} (D : At K mg x st) (TC : CodeIs K mg x st c)
    (S : FnScope N ps (defScope st)) (len : ∀ vs H Q E, sp vs H Q E → vs.length = ps.length)
    (hbi : ∀ (kV doc pm : Value) (an : Option Addr) (cdv ct : Value) (us : List Value), us.length = ps.length → bindArgs (PySem.W.fnOf x x (defArgs st) (defBody st) (defScope st) .none kV doc pm an cdv ct) ⟨us, []⟩ = pure (ps.zip us))
    (hb : ∀ (f : Addr) (A : Around) (outer : List Env) (s : Shared) (H : Hp) (vs : List V) (Q : VK) (E : XK),
      Room k (A.deeper (envOfC x (defScope st) s.heap.objs.size f (.ref c))) → Gd (A.deeper (envOfC x (defScope st) s.heap.objs.size f (.ref c))) →
      sp vs H Q E → ∃ t, PSs (cxOf CX0 P w K mg base N x (defScope st) f (.ref c) A outer s H E).nox (defBody st) t ∧ t { nx := fun _ H' => Q .non H', rt := Q } (start N vs) H) :
    Has P w K mg base CX0 x st ps (k + 1) sp := by
  obtain ⟨f, fd, F, hm⟩ := D
  have e := TC f fd F hm
  have bi := F.binds hbi
  obtain ⟨oc, od, kV, doc, pm, an, cdv, ct, osl, rfl, lk, hcd⟩ := id F.ex
  have e : cdv = .ref c := e
  subst e
  refine ⟨f, _, F, hm, bi, fg_of lk hcd S len fun A outer s H vs Q E hr hg hsp => ?_⟩
  obtain ⟨t, h, q⟩ := hb f A outer s H vs Q E hr hg hsp
  exact ⟨t, h.nox, q⟩
theorem code_tab {q : Str} {st : Stmt} {P : Addr} (h : (match K.lookup (He.ga K q) with | some ⟨_, _, .func fd, _⟩ => decide (fd.code = .ref (codeAd K (He.ga K q))) | _ => false) = true) (hm : mg q = some (.ref (He.ga K q)))
    (tb : TabB base mg (codeAd K (He.ga K q)) P) : ∃ c, CodeIs K mg q st c ∧ TabB base mg c P := by
  refine ⟨_, fun f fd F e => ?_, tb⟩
  rw [hm] at e
  cases e
  obtain ⟨oc, od, kV, doc, pm, an, cdv, ct, osl, rfl, lk, hcd⟩ := F.ex
  rw [lk] at h
  exact of_decide_eq_true h
end
/-! ### a method called while an exception is handled -/
open L2H in
structure FnQ (P : Program) (w : World) (K : PySem.W.Frag) (mg : Str → Option Value) (base : Heap) (k : Nat) (f : Addr) (fd : FuncData) (ps : List Str) (sp : Sp) : Prop where
  len : ∀ vs H Q E, sp vs H Q E → vs.length = ps.length
  go : ∀ (A : Around) (outer : List Env) (s : Shared) (H : Hp) (args : Args) (us : List Value) (vs : List V) (Q : VK) (p : Addr × Obj),
    RoomH k A → PinOk outer H s p → Env0 P w K mg base A outer s H → BindsTo s fd args (ps.zip us) → Vals vs us → sp vs H Q E0 → codeAny (model P w) A (.call (.ref f) args) (CR CX0 outer P w H s Q E0) s
def HasQ (P : Program) (w : World) (K : PySem.W.Frag) (mg : Str → Option Value) (base : Heap) (C : Addr) (m : Str) (ps : List Str) (k : Nat) (sp : Sp) : Prop := ∃ f fd, Meth K C m f ∧ Binds K fd ps [] ∧ FnQ P w K mg base k f fd ps sp
section
open L2H
variable {P : Program} {w : World} {K : PySem.W.Frag} {mg : Str → Option Value} {base : Heap}
theorem hasQ_mk {C : Addr} {m q : Str} {st : Stmt} {N ps : List Str} {k : Nat} {sp : Sp} (D : AtM K C m q st) (S : FnScope N ps (defScope st)) (len : ∀ vs H Q E, sp vs H Q E → vs.length = ps.length)
    (hbi : ∀ (kV doc pm : Value) (an : Option Addr) (cdv ct : Value) (us : List Value), us.length = ps.length → bindArgs (PySem.W.fnOf m q (defArgs st) (defBody st) (defScope st) .none kV doc pm an cdv ct) ⟨us, []⟩ = pure (ps.zip us))
    (hb : ∀ (f : Addr) (cdv : Value) (A : Around) (outer : List Env) (s : Shared) (H : Hp) (vs : List V) (Q : VK) (E : XK) (p : Addr × Obj), RoomH k (A.deeper (envOfC q (defScope st) s.heap.objs.size f cdv)) →
      sp vs H Q E → ∃ t, PSs (cxH CX0 P w K mg base N q (defScope st) f cdv A outer s H E p).nox (defBody st) t ∧ t { nx := fun _ H' => Q .non H', rt := Q } (start N vs) H) :
    HasQ P w K mg base C m ps (k + 1) sp := by
  obtain ⟨f, fd, F, hm⟩ := D
  have bi := F.binds hbi
  obtain ⟨oc, od, kV, doc, pm, an, cdv, ct, osl, rfl, lk, hcd⟩ := F.ex
  refine ⟨f, _, hm, bi, len, ?_⟩
  intro A outer s H args us vs Q p hr hpin e0 hbi r hsp
  have hl := len _ _ _ _ hsp
  have keepB : ∀ b o, base.get? b = some o → s.heap.get? b = some o := fun b o e => (e0.bs b o e).1
  have KX := e0.mod.kin.keeps keepB
  have hkd : ∀ y ∈ ps.zip us, (defScope st).names.lookup y.1 = some .local ∨
      ((defScope st).names.lookup y.1 = some .cell ∧ ((cellsFrom (s.heap.objs.size + 1) (defScope st).names []).lookup y.1).isSome = true) := by
    rintro ⟨n, v⟩ hy
    cases S.par n (List.of_mem_zip hy).1 with
    | inl q => exact Or.inl q
    | inr q => exact Or.inr ⟨q, PySem.W.cellsFrom_some _ _ _ (Or.inl q)⟩
  apply codeAny_call_function hr.depth (KX _ _ lk) rfl S.co S.gen rfl (PySem.W.codeRec_of KX hcd)
  apply hbi
  apply wpAny_newFunctionEnv_cells S.kind hkd
  intro env he s1 x
  subst he
  constructor
  · exact (e0.mod.nolimit.keeps keepB).keeps x.toInCall.keep
  apply codeAny_func
  obtain ⟨t, ht, hq⟩ := hb f cdv A outer s H vs Q E0 p (hr.deeper _) hsp
  have I := inv_startH (CX := CX0) (E := E0) S hpin e0 hl r x
  apply wpAny_mono (ht.nox.run [] s1 _ H _ I hq)
  · intro fl s' hs
    have fin : ∀ {σ' : L2.St} {H' : Hp} {v : V} {u : Value}, Inv (cxH CX0 P w K mg base N q (defScope st) f cdv A outer s H E0 p) [] σ' H' s' →
        RelV v u → Q v H' → CE outer P w H s Q u s' := fun J rv q => ⟨_, _, J.os, J.bare, J.base, J.hok, rv, q⟩
    cases fl with
    | ret u => obtain ⟨v, σ', H', J, rv, q⟩ := hs; exact fin J rv q
    | next => obtain ⟨σ', H', J, q⟩ := hs; exact fin (v := V.non) J rfl q
    | brk => obtain ⟨_, _, _, q⟩ := hs; exact q.elim
    | cont => obtain ⟨_, _, _, q⟩ := hs; exact q.elim
  · intro e s' hs
    exact hs
theorem run_hot {X : Cx} {k : Nat} {f : Addr} {fd : FuncData} {ps : List Str} {sp : Sp} {A : Around} {p : Addr × Obj} (F : FnQ X.prog X.w X.K X.mg X.base k f fd ps sp) (bi : Binds X.K fd ps []) (hr : RoomH k A) (hfr : A.frames = X.A.frames) (hp : p ∈ X.pn) : CanRun X A f sp := by
  intro a pins σ H s R Ex I hq
  have hl : [V.ref a].length = ps.length := F.len _ _ _ _ hq
  have bb := bi s [.ref a] I.kIn (by simpa using hl)
  obtain ⟨p1, p2, p3, p4, p5⟩ := I.pin p (List.mem_append_left _ hp)
  have hpin : PinOk X.stack H s p := ⟨p1, p2, fun hm => (List.mem_cons.mp (I.stkSub p.1 hm)).elim p3 p4, p5⟩
  refine wpAny_call (codeAny_mono (F.go A X.stack s H ⟨[.ref a], []⟩ [.ref a] [.ref a] _ p hr hpin (Env0.any I.env0 hfr) (by simpa using bb) (.cons rfl .nil) hq) ?_)
  intro rs s' z
  cases rs with
  | error e => exact (show False from z).elim
  | ok fl => cases fl with
    | ret u => exact I.after z
    | _ => exact z.elim
theorem HasQ.rpb {X : Cx} {C : Addr} {k : Nat} {ps : List Str} {sp : Sp} {p : Addr × Obj} (h : HasQ X.prog X.w X.K X.mg X.base C "__repr__" ps k sp) (hr : RoomH (k + 3) X.A) (hp : p ∈ X.pn) : ∃ f, Rpb X C f sp := by
  obtain ⟨f, fd, me, bi, F⟩ := h
  have h1 := hr.dp
  have h2 := hr.un
  have go : ∀ A : Around, A.depth ≤ X.A.depth + 2 → A.units ≤ X.A.units + 2 → A.frames = X.A.frames → CanRun X A f sp := fun A e1 e2 e3 => run_hot F bi ⟨by omega, by omega⟩ e3 hp
  have d1 : X.A.in1.depth ≤ X.A.depth + 1 := by first | exact Nat.le_refl _ | (show X.A.depth ≤ X.A.depth + 1; omega)
  refine ⟨f, me, by omega, go _ (by omega) (by show X.A.units + 1 ≤ _; omega) rfl, fun args => go _ ?_ ?_ ?_, fun args => go _ ?_ ?_ ?_⟩
  · have e : (X.A.in1.under (.builtin "tuple.__repr__" args)).depth ≤ X.A.in1.depth + 1 := by
      first | exact Nat.le_refl _ | simp [Around.under, Code.weight, Code.isCreation, Code.isGuard, Code.isCaller, Code.frames, Code.isFrame, guardIds]
    omega
  · rw [units_under_tuple_repr]
    show X.A.units + 1 + 1 ≤ _
    omega
  · first | rfl | simp [Around.under, Code.envs, Code.isFrame, pushEnvs]
  · have e : (X.A.in1.under (.builtin "list.__repr__.loop" args)).depth ≤ X.A.in1.depth + 1 := by
      first | exact Nat.le_refl _ | simp [Around.under, Code.weight, Code.isCreation, Code.isGuard, Code.isCaller, Code.frames, Code.isFrame, guardIds]
    omega
  · rw [units_under_list_loop]
    show X.A.units + 1 + 1 ≤ _
    omega
  · first | rfl | simp [Around.under, Code.envs, Code.isFrame, pushEnvs]
end
/-! ### repr of what is told -/
theorem pairs_readsI {P : Program} {w : World} {h : Heap} : ∀ {l : List DictEntry} {kvs : List (Str × Int)} {vs : List (Key × Value)}, Pairs (mixKind P w) l vs → KV (kvs.map fun p => ((Sum.inr p.1 : Key), V.int p.2)) vs →
    ReadsAll h (l.map (·.key)) ((kvs.map fun p => ((PyData.str p.1, PyData.int p.2) : PyData × PyData)).map (·.1)) [] ∧ ReadsAll h (l.map (·.val)) ((kvs.map fun p => ((PyData.str p.1, PyData.int p.2) : PyData × PyData)).map (·.2)) []
  | _, [], _, .nil, _ => ⟨.nil, .nil⟩
  | _, p :: r, _, .nil, hk => by cases hk
  | _, [], _, .cons (kv := kv) h1 h2 h3, hk => by cases hk
  | _, p :: r, _, .cons (kv := kv) h1 h2 h3, hk => by
    cases hk with
    | cons a b =>
      obtain ⟨a1, a2⟩ := a
      have a1 : Sum.inr p.1 = kv.1 := a1
      rw [← a1] at h1
      obtain ⟨t, et⟩ := isStrOf_at (x := p.1) h1
      obtain ⟨u, eu⟩ : ∃ u, kv.2 = .int p.2 u := a2
      obtain ⟨q1, q2⟩ := pairs_readsI (h := h) h3 b
      constructor
      · rw [List.map_cons, List.map_cons, List.map_cons, et]
        exact ReadsAll.cons (.str p.1 t) q1
      · rw [List.map_cons, List.map_cons, List.map_cons, h2, eu]
        exact ReadsAll.cons (.int p.2 u) q2
inductive Rp (K : PySem.W.Frag) (C : Addr) (H : Hp) : V → Str → Prop where
  | data {v : V} {d : PyData} (h : Dp K H v d) (n : d.hasDict = false) (s : d.showable = true) (e : d.depth ≤ 60) (l : d.shown.length ≤ sizeLine) : Rp K C H v d.shown
  | dct {a : Addr} {kvs : List (Str × Int)} (h : H a = some (.dK (kvs.map fun p => ((Sum.inr p.1 : Key), V.int p.2)))) (s : (PyData.dict (kvs.map fun p => (.str p.1, .int p.2))).showable = true) (e : (PyData.dict (kvs.map fun p => (.str p.1, .int p.2))).depth ≤ 60)
      (l : (PyData.dict (kvs.map fun p => (.str p.1, .int p.2))).shown.length ≤ sizeLine) : Rp K C H (.ref a) (PyData.dict (kvs.map fun p => (.str p.1, .int p.2))).shown
  | form {v : V} {q : Row} (h : FormAt C H v q) (l : (textR q).length ≤ 90000) : Rp K C H v (reprR q)
  | tup {a : Addr} {v : V} {q : Row} (e : H a = some (.tup [v])) (h : FormAt C H v q) (l : (textR q).length ≤ 90000) : Rp K C H (.ref a) (tupleText [reprR q])
  | lst {a : Addr} {v : V} {q : Row} (e : H a = some (.lst [v])) (h : FormAt C H v q) (l : (textR q).length ≤ 90000) : Rp K C H (.ref a) (listText [reprR q])
def rReprG (K : PySem.W.Frag) (C : Addr) : RC := fun xs H Q => ∃ x z, xs = [x] ∧ Rp K C H x z ∧ Q (.str z) H
theorem reprR_len {q : Row} (h : (textR q).length ≤ 90000) : (reprR q).length ≤ 100000 := by
  unfold reprR
  rw [strLen_append, strLen_append]
  have e1 : ("Form(" : Str).length = 5 := by decide +kernel
  have e2 : (")" : Str).length = 1 := by decide +kernel
  first | (rw [e1, e2]; omega) | omega
theorem callG {X : Cx} {C : Addr} (K : PySem.W.Frag) (h0 : ∃ f, Rpb X C f (spReprF C)) (hgd : Gd X.A) (hk : X.K = K := by rfl) : CallR X (.builtin "repr") (rReprG K C) := by
  subst hk
  obtain ⟨fr, h1⟩ := h0
  have hun := h1.un
  intro pins s σ H xs us Q I r h
  obtain ⟨x, z, rfl, rp, q⟩ := h
  cases rp with
  | @data _ d h n s e l => exact reprTK X.K rfl hgd (by omega) pins _ σ H [x] us Q I r ⟨x, d, rfl, .of h n, s, e, l, q⟩
  | @dct a kvs ha sh e l =>
    cases r with
    | cons r0 rr =>
    cases rr
    obtain rfl : _ = Value.ref a := r0
    obtain ⟨z, hsys, vs, rk, o, es, ep, ho, hx, hdat, _, hpr, _⟩ := dk_of I.hok ha
    obtain ⟨q1, q2⟩ := pairs_readsI (h := s.heap) hpr rk
    have rd : Reads s.heap (.ref a) (.dict (kvs.map fun p => (PyData.str p.1, PyData.int p.2))) ([a] ++ [] ++ []) := Reads.dict ho hx.1 hdat q1 q2
    refine repr_of_reads' rd sh (fun _ m => ?_) hgd (by omega) (fun _ _ e => e) (fun h' u tk hk => ⟨.str _, H, I.kept hk, ⟨_, rfl⟩, q⟩) l
    have : sysModules = a := by simpa using m
    rw [this] at hsys
    simp at hsys
  | @form _ q1 f l =>
    have f' := f
    obtain ⟨a, dx, t, y, xs', rfl, fi⟩ := f'
    exact repr_o1 h1 pins s σ H [.ref a] us Q I r ⟨a, dx, _, rfl, fi.ins, _, q1, rfl, f, by omega, ⟨_, rfl⟩, q⟩
  | @tup a v q1 e f l =>
    have f' := f
    obtain ⟨b, dx, t, y, xs', rfl, fi⟩ := f'
    exact repr_t1 h1 hgd pins s σ H [.ref a] us Q I r ⟨a, b, dx, _, rfl, e, fi.ins, _, q1, rfl, f, by omega, _, rfl, reprR_len l, q⟩
  | @lst a v q1 e f l =>
    have f' := f
    obtain ⟨b, dx, t, y, xs', rfl, fi⟩ := f'
    exact repr_l1 h1 hgd pins s σ H [.ref a] us Q I r ⟨a, b, dx, _, rfl, e, fi.ins, _, q1, rfl, f, by omega, _, rfl, reprR_len l, e, q⟩
theorem Rp.same {K : PySem.W.Frag} {C : Addr} {H H' : Hp} {v : V} {z : Str} (r : Same H H') (h : Rp K C H v z) : Rp K C H' v z := by
  cases h with
  | data h n s e l => exact .data (dp_same r h) n s e l
  | dct h s e l => exact .dct (r _ _ h) s e l
  | form h l => exact .form (h.same r) l
  | tup e h l => exact .tup (r _ _ e) (h.same r) l
  | lst e h l => exact .lst (r _ _ e) (h.same r) l
end G


namespace G
open PySem PySem.Spec PyProof.Rows L2 StX ClX LamX TL
/-! ### count, index of truths; != of data -/
def rCntB (K : PySem.W.Frag) : V → List V → Hp → VK → Prop := fun x xs H Q => ∃ (p : Addr) (bs : List Bool), x = .ref p ∧ xs = [.bl true] ∧ SqL K H p (bs.map V.bl) ∧ Q (.int (bs.count true : Nat)) H
theorem bools_of {bs : List Bool} {us : List Value} (h : Vals (bs.map V.bl) us) : us = bs.map Value.bool := by
  induction bs generalizing us with
  | nil => cases h; rfl
  | cons b r ih =>
    cases h with
    | cons a t =>
      have a : _ = Value.bool b := a
      rw [a, ih t]
      rfl
theorem count_bools : ∀ bs : List Bool, (bs.map Value.bool).countP (isBoolOf true) = bs.count true
  | [] => rfl
  | b :: r => by
    rw [List.map_cons, List.countP_cons, count_bools r, List.count_cons]
    cases b <;> rfl
theorem mt_cntB {X : Cx} : MtR X "list.count" (rCntB X.K) := by
  intro pins s σ H x xs v us Q I rx rxs h
  obtain ⟨p, bs, rfl, rfl, hs, q⟩ := h
  cases rx
  cases rxs with
  | cons ru rt =>
  cases rt
  cases ru
  obtain ⟨its, rv, ⟨⟨cls, dd, data, sl⟩, n, ho, hc, hdn, hd⟩, hlen⟩ := I.list hs
  simp only at hc hd
  subst hc hd
  have e := bools_of rv
  subst e
  refine call_meets PySem.F.slot_list_count ⟨_, ho, rfl⟩ PySem.F.entry_list_count (PySem.F.args_list_count_2 _ _)
    (SeqAt.list_countAt p (bs.map Value.bool).toArray n dd sl (.bool true) (isBoolOf true)) ⟨ho, fun y hy => ?_, ?_⟩
  · have hy : y ∈ bs.map Value.bool := by simpa only [Array.mem_def] using hy
    obtain ⟨b, _, rfl⟩ := List.mem_map.mp hy
    exact SeqAt.EqAt.bool_bool b true
  · refine ⟨.int (bs.count true : Nat), H, I.tok _, ⟨s.toks, ?_⟩, q⟩
    show Value.int (((bs.map Value.bool).countP (isBoolOf true) : Nat) : Int) s.toks = _
    rw [count_bools]
section
variable {X : Cx} (K : PySem.W.Frag) (h : X.K = K := by rfl)
include h
theorem cntK {o e : Expr} {to : TE} {t : TA} {apos cpos : Pos} (ho : PE X o to) (ha : PA X [e] t)
    (hbase : attributeBase o "count" X.env (eval o X.env) = eval o X.env := by rfl)
    (hfew : ((backTo cpos (starEach [e] X.env)).all (fun x => !x.1) && (backToKw cpos (keywordEach [] X.env)).all (fun x => x.1.isSome)
      && decide ([e].length + ([] : List Keyword).length + (if ([] : List Keyword).isEmpty then 0 else 1) < 30)) = true := by rfl)
    (hline : (apos.endLine == cpos.line) = true := by rfl) (hs : starEach [e] X.env = (false, eval e X.env) :: starEach [] X.env := by rfl)
    (hplain : (backTo cpos (starEach [] X.env)).any (·.1) = false := by rfl) :
    PE X (.Call (.Attribute o "count" apos) [e] [] cpos) (tBM K "list" (rCntB K) to t) := by
  subst h
  exact pe_bm PySem.F.plainAttrs_list PySem.F.slot_list_count PySem.F.type_list_count mt_cntB ho ha hbase hfew hline hs hplain
theorem idxK {o e : Expr} {to : TE} {t : TA} {apos cpos : Pos} (ho : PE X o to) (ha : PA X [e] t)
    (hbase : attributeBase o "index" X.env (eval o X.env) = eval o X.env := by rfl)
    (hfew : ((backTo cpos (starEach [e] X.env)).all (fun x => !x.1) && (backToKw cpos (keywordEach [] X.env)).all (fun x => x.1.isSome)
      && decide ([e].length + ([] : List Keyword).length + (if ([] : List Keyword).isEmpty then 0 else 1) < 30)) = true := by rfl)
    (hline : (apos.endLine == cpos.line) = true := by rfl) (hs : starEach [e] X.env = (false, eval e X.env) :: starEach [] X.env := by rfl)
    (hplain : (backTo cpos (starEach [] X.env)).any (·.1) = false := by rfl) :
    PE X (.Call (.Attribute o "index" apos) [e] [] cpos) (tBM K "list" (rIndex K) to t) := by
  subst h
  exact pe_bm PySem.F.plainAttrs_list PySem.F.slot_list_index PySem.F.type_list_index mt_index ho ha hbase hfew hline hs hplain
end
def rNeP (K : PySem.W.Frag) : R2 := fun x y H Q => ∃ d e, Dp K H x d ∧ Dp K H y e ∧ d.plain = true ∧ e.plain = true ∧ d.depth ≤ 60 ∧ Q (.bl (!PyData.eqv d e)) H
theorem nePK {X : Cx} (K : PySem.W.Frag) (h : X.K = K := by rfl) (hu : X.A.units + 64 < cLine) : OpR X (compareOp .NotEq) (rNeP K) := by
  subst h
  intro pins s σ H x y v u Q I rx ry h
  obtain ⟨d, e, hd, he, sd, se, dd, q⟩ := h
  obtain ⟨as, r1⟩ := Dp.reads I d x v hd rx
  obtain ⟨bs, r2⟩ := Dp.reads I e y u he ry
  exact PySem.SeqAt.ne_plain r1 r2 sd se (by omega) ⟨.bl _, H, I, rfl, q⟩
/-! ### a field of the error that a suite holds, whatever its class -/
def tXfG (K : PySem.W.Frag) (a : Addr) (cls : Value) (d : Option Addr) (f : Str) (te : TE) : TE := fun σ H Q => te σ H fun x H1 => ∃ (D dd : Addr) (fs : List (Str × V)) (v : V), x = .ref a ∧ cls = .ref D ∧ XfC K D ∧ PySem.W.findIn K (.ref D) f = some none ∧ d = some dd ∧ H1 dd = some (.xd fs) ∧ fs.lookup f = some v ∧ Q v H1
theorem pe_xfG {X : Cx} {a : Addr} {oe : Obj} {cls : Value} {d : Option Addr} {pn : List (Addr × Obj)} {e : Expr} {te : TE} {pos : Pos} {n : Str} (K : PySem.W.Frag) (hz : Zc cls d oe) (hf : ∃ vs, oe.data = .fields vs)
    (he : PE (X.suite a ((a, oe) :: pn)) e te) (hk : X.K = K := by rfl) (hb : attributeBase e n X.env (eval e X.env) = eval e X.env := by rfl) :
    PE (X.suite a ((a, oe) :: pn)) (.Attribute e n pos) (tXfG K a cls d n te) := by
  subst hk
  constructor
  intro pins s σ H Q I h
  apply attr_of hb
  refine thn (he.run pins s σ H _ I h) ?_
  rintro u s1 ⟨x, H1, I1, rx, D, dd, fs, v, rfl, rfl, T, no, rfl, ea, l, q⟩
  obtain rfl : u = Value.ref a := rx
  have pin := (I1.pin (a, oe) (List.mem_append_left _ List.mem_cons_self)).1
  obtain ⟨vs, hd⟩ := hf
  obtain ⟨mA, hns, hr⟩ := I1.hok dd _ ea
  obtain ⟨od, ho, hl⟩ := lookIn_ns hns
  obtain ⟨u, hu, ru⟩ := RelO.some_of (v := v) (o := mA n) (by rw [← l]; exact hr n)
  have J : PySem.W.InstAt s1.heap a oe D (some od) := by
    refine ⟨pin, hz.1, ?_, ?_⟩
    · unfold PySem.W.notCls
      rw [hd]
    · rw [hz.2]
      exact ho
  have fo := PySem.W.findObj_own T.hdC no rfl (by rw [hl, hu])
  exact HandSPX.exc_get I1.kIn J T.ga T.gg T.exC fo (handed_of ru) ⟨v, H1, I1.tok _, ru, q⟩
/-! ### told -/
def kindN (i : Nat) : Str := if i = 0 then "name" else if i = 1 then "factor" else if i = 2 then "values" else if i = 3 then "form" else "text"
/-- the classes that told names -/
structure Er5 (K : PySem.W.Frag) (XI XN XF XV XA XT XS XR XL D : Addr) (i : Nat) : Prop where
  exm : PySem.W.exmOne K (.ref D) (.ref XI) = some true
  k0 : PySem.W.kitOne K (.ref D) (.ref XN) = some (decide (i = 0))
  k1 : PySem.W.kitOne K (.ref D) (.ref XF) = some (decide (i = 1))
  k2 : PySem.W.kitOne K (.ref D) (.ref XV) = some (decide (i = 2))
  k3 : PySem.W.kitOne K (.ref D) (.ref XA) = some (decide (i = 3))
  k4 : PySem.W.kitOne K (.ref D) (.ref XT) = some (decide (i = 4))
  s0 : PySem.W.kitOne K (.ref D) (.ref XS) = some false
  s1 : PySem.W.kitOne K (.ref D) (.ref XR) = some false
  s2 : PySem.W.kitOne K (.ref D) (.ref XL) = some false
  ve : PySem.W.kitOne K (.ref D) (.type "ValueError") = some true
  lt : i < 5
end G


namespace G
open PySem PySem.Spec PyProof.Rows L2 StX ClX LamX TL
theorem pass0X {X : Cx} : Passes (L2.CX X.prog X.w) X E0 := passes_call L2.takes0 fun _ _ _ _ z => z
theorem ownTB_ok {C : Str} {op : Operator} {K : PySem.W.Frag} (h : ownTB C op K = true) : ∀ T ∈ tysB, OwnT K (He.ga K C) op T := by
  intro T hT
  obtain ⟨h1, h2⟩ := He.ba h
  obtain ⟨h3, h4⟩ := He.ba (List.all_eq_true.mp h2 T hT)
  obtain ⟨h4, h5⟩ := He.ba h4
  exact ⟨of_decide_eq_true h1, Option.isSome_iff_exists.mp h3, Option.isSome_iff_exists.mp h4, of_decide_eq_true h5⟩
theorem Th.kind {A : Addr → Prop} {H : Hp} {n : Nat} {v : V} (K : PySem.W.Frag) (h : Th A H n v) : ∃ T ∈ tysB, KindT K H v T := by
  have h0 : Th A H 0 v := by
    cases n with
    | zero => exact h
    | succ n => exact h.down
  cases v with
  | non => exact ⟨_, by decide, .non⟩
  | bl b => exact ⟨_, by decide, .bl⟩
  | int i => exact ⟨_, by decide, .int⟩
  | str x => exact ⟨_, by decide, .str⟩
  | byt b => exact h0.elim
  | flt b => exact h0.elim
  | ty b => exact h0.elim
  | ref q =>
    obtain ⟨ne, h0⟩ := h0
    rcases h0 with ⟨xs, e⟩ | ⟨xs, e⟩ | ⟨xs, e⟩
    · exact ⟨_, by decide, .lst e⟩
    · exact ⟨_, by decide, .dK e⟩
    · exact ⟨_, by decide, .tup e⟩
/-- isinstance(v, C) of a built-in thing -/
theorem s_isNo {K : PySem.W.Frag} {C : Addr} {H : Hp} {Q : VK} {A : Addr → Prop} {n : Nat} {v : V} (f : NeC K C) (sb : ∀ T ∈ tysB, PySem.W.subIn K (.type T) (.ref C) = some false) (t : Th A H n v) (h : Q (.bl false) H) : rIsi K [v, .ref C] H Q := by
  obtain ⟨T, m, k⟩ := t.kind K
  have sb := sb T m
  cases k with
  | non => exact ⟨_, _, _, _, _, rfl, .own C, .base .non, kit_no f.ic f.ty sb, h⟩
  | @bl b => exact ⟨_, _, _, _, _, rfl, .own C, .base (.bl b), kit_no f.ic f.ty sb, h⟩
  | @int i => exact ⟨_, _, _, _, _, rfl, .own C, .base (.int i), kit_no f.ic f.ty sb, h⟩
  | @str z => exact ⟨_, _, _, _, _, rfl, .own C, .base (.str z), kit_no f.ic f.ty sb, h⟩
  | lst e => exact ⟨_, _, _, _, _, rfl, .own C, .base (.lst e), kit_no f.ic f.ty sb, h⟩
  | tup e => exact ⟨_, _, _, _, _, rfl, .own C, .base (.tup e), kit_no f.ic f.ty sb, h⟩
  | dK e => exact ⟨_, _, _, _, _, rfl, .own C, .base (.dK e), kit_no f.ic f.ty sb, h⟩
/-- isinstance(form, int) -/
theorem s_isF {K : PySem.W.Frag} {mg : Str → Option Value} {C : Addr} {H : Hp} {Q : VK} {v : V} {q : Row} (f : FormC K mg C) (kt : PySem.W.kitOne K (.ref C) (.type "int") = some false) (fa : FormAt C H v q) (h : Q (.bl false) H) : rIsi K [v, .ty "int"] H Q := by
  obtain ⟨a, dx, t, y, xs, rfl, fi⟩ := fa
  exact ⟨_, _, _, _, _, rfl, .ty "int", .base (.ins fi.ins f.cls f.i1 f.i2 f.i3 f.i4), kt, h⟩
/-! ### the kinds that told finds -/
def bsK (i : Nat) : List Bool := [decide (i = 0), decide (i = 1), decide (i = 2), decide (i = 3), decide (i = 4)]
theorem lt5 {i : Nat} (h : i < 5) : i = 0 ∨ i = 1 ∨ i = 2 ∨ i = 3 ∨ i = 4 := by omega
theorem bsK_count {i : Nat} (h : i < 5) : (bsK i).count true = 1 := by rcases lt5 h with rfl | rfl | rfl | rfl | rfl <;> rfl
theorem bsK_at {i : Nat} (h : i < 5) : ((bsK i).map V.bl)[i]? = some (.bl true) := by rcases lt5 h with rfl | rfl | rfl | rfl | rfl <;> rfl
theorem bsK_no {i : Nat} (h : i < 5) : ∀ (m : Nat) (z : V), m < i → ((bsK i).map V.bl)[m]? = some z → eqV z (.bl true) = false := by
  intro m z hm e
  have hm5 : m < 5 := by omega
  have ne : ¬ i = m := by omega
  have e2 : ((bsK i).map V.bl)[m]? = some (.bl false) := by
    rcases lt5 hm5 with rfl | rfl | rfl | rfl | rfl <;> (show some (V.bl (decide (i = _))) = _; rw [decide_eq_false ne])
  rw [e2] at e
  cases e
  rfl
theorem bsK_flat {i : Nat} : ((bsK i).map V.bl).all flatV = true := rfl
theorem kindL_at {i : Nat} (h : i < 5) : atI [V.str "name", .str "factor", .str "values", .str "form", .str "text"] (i : Nat) = some (.str (kindN i)) := by rcases lt5 h with rfl | rfl | rfl | rfl | rfl <;> rfl
theorem s_idxB {K : PySem.W.Frag} {H : Hp} {Q : VK} {p : Addr} {i : Nat} (e : H p = some (.lst ((bsK i).map V.bl))) (l : i < 5) (h : Q (.int (i : Nat)) H) : rIndex K (.ref p) [.bl true] H Q :=
  ⟨p, _, .bl true, i, .bl true, rfl, rfl, SqL.of e, rfl, bsK_flat, bsK_at l, rfl, bsK_no l, h⟩
/-! ### steps -/
theorem s_cntB {K : PySem.W.Frag} {H : Hp} {Q : VK} {p : Addr} {bs : List Bool} {n : Nat} (e : H p = some (.lst (bs.map V.bl))) (hn : bs.count true = n) (h : Q (.int (n : Nat)) H) : rCntB K (.ref p) [.bl true] H Q := ⟨p, bs, rfl, rfl, SqL.of e, by rw [hn]; exact h⟩
theorem s_xfG {K : PySem.W.Frag} {a D dd : Addr} {f : Str} {fs : List (Str × V)} {v : V} {H : Hp} {Q : VK} (T : XfC K D) (no : PySem.W.findIn K (.ref D) f = some none) (e : H dd = some (.xd fs)) (l : fs.lookup f = some v) (h : Q v H) :
    ∃ (D' dd' : Addr) (fs : List (Str × V)) (v : V), V.ref a = .ref a ∧ Value.ref D = .ref D' ∧ XfC K D' ∧ PySem.W.findIn K (.ref D') f = some none ∧ some dd = some dd' ∧ H dd' = some (.xd fs) ∧ fs.lookup f = some v ∧ Q v H := ⟨D, dd, fs, v, rfl, rfl, T, no, rfl, e, l, h⟩
theorem s_reprG {K : PySem.W.Frag} {C : Addr} {H : Hp} {Q : VK} {v : V} {z : Str} (r : Rp K C H v z) (h : Q (.str z) H) : rReprG K C [v] H Q := ⟨v, z, rfl, r, h⟩
theorem s_xf0 {K : PySem.W.Frag} {a : Addr} {cls : Value} {d : Option Addr} {f : Str} {te : TE} {σ : L2.St} {H : Hp} {Q : VK} (h : te σ H fun x H1 => ∃ (D dd : Addr) (fs : List (Str × V)) (v : V), x = .ref a ∧ cls = .ref D ∧ XfC K D ∧ PySem.W.findIn K (.ref D) f = some none ∧ d = some dd ∧ H1 dd = some (.xd fs) ∧ fs.lookup f = some v ∧ Q v H1) : tXfG K a cls d f te σ H Q := h

section
variable {σ : L2.St} {H : Hp} {Q : VK} {E : XK} {sp : Sp} {tr t : TA} {ta : TE} {C : Addr} {m : Str}
theorem s_callX (h : tr σ H fun vs H1 => sp (vs ++ []) H1 Q E) : tCall sp [] E tr σ H Q := h
theorem s_methX (h : ta σ H fun x H1 => rMethP C m x H1 (t σ H1 fun vs H2 => sp (x :: (vs ++ [])) H2 Q E)) : tMeth C m sp [] E ta t σ H Q := h
theorem s_mkzX {spk : List V → List (Str × V) → Hp → VK → XK → Prop} {tk : TA} {ks : List Str} (h : tk σ H fun zs H1 => ∀ x dx, H1 x = none → H1 dx = none → dx ≠ x → spk [.ref x] (ks.zip zs) (upd (upd H1 dx (.own x)) x (.ins C dx [])) (fun v H2 => v = .non ∧ Q (.ref x) H2) E) : tMakeZ C spk ks E tk σ H Q := h
theorem s_raiseE {D : Ends} {f : Str} {W : WX} (h : tr σ H fun vs H1 => ∃ y, vs = [y] ∧ ∀ d, H1 d = none → W (.ref C) (some d) σ (upd H1 d (.xd [(f, y)]))) : tRaiseE C f W tr D σ H := h
end
theorem val_none {r : Row} {x : Str} (h : x ∉ keysR r) : valR r x = none := by
  unfold valR
  rw [Option.map_eq_none_iff, List.find?_eq_none]
  intro p hp e
  have e : p.1 = x := by simpa using e
  exact h (by rw [← e]; exact mem_keys hp)
/-! ### promises -/
/-- raised: the class D, with the value y -/
def Rs (D : Addr) (y : V) (H : Hp) (E : XK) : Prop := ∀ d H', Same H H' → H' d = none → E (.ref D) (some d) (upd H' d (.xd [("value", y)]))
theorem Rs.same {D : Addr} {y : V} {H H' : Hp} {E : XK} (r : Same H H') (h : Rs D y H E) : Rs D y H' E := fun d H2 r2 n => h d H2 (r.trans r2) n
/-- no int: a built-in thing, a form -/
def NoI (C : Addr) (H : Hp) (v : V) : Prop := (∃ A, Th A H 0 v ∧ isI v = false) ∨ ∃ q, FormAt C H v q
def spIsInt (C : Addr) : Sp := fun vs H Q _ => ∃ v, vs = [v] ∧ NoI C H v ∧ ∀ H', Same H H' → Q (.bl false) H'
def spCheckFX (XA : Addr) : Sp := fun vs H _ E => ∃ v A, vs = [v] ∧ Th A H 0 v ∧ Rs XA v H E
def spOpX (C XA : Addr) : Sp := fun vs H _ E => ∃ x v A q, vs = [x, v] ∧ FormAt C H x q ∧ Th A H 0 v ∧ Rs XA v H E
def spMulX (C XF : Addr) : Sp := fun vs H _ E => ∃ x v q, vs = [x, v] ∧ FormAt C H x q ∧ NoI C H v ∧ Rs XF v H E
def spJoinX (C XA XF : Addr) : Sp := fun vs H _ E => ∃ (w : Int) (x v : V) (q : Row), vs = [.int w, x, v] ∧ 0 ≤ w ∧ w < 3 ∧ FormAt C H x q ∧ ((w < 2 ∧ (∃ A, Th A H 0 v) ∧ Rs XA v H E) ∨ (w = 2 ∧ NoI C H v ∧ Rs XF v H E))
/-- values that are none for these symbols -/
def BadV (H : Hp) (zs : List Str) (v : V) : Prop := ∃ A, Th A H 2 v ∧ (valsV H v = false ∨ ∃ t xs r, v = .ref t ∧ ValsAt H t xs r ∧ ∃ z ∈ zs, z ∉ keysR r)
def spCheckVX (K : PySem.W.Frag) (XV : Addr) : Sp := fun vs H Q E => ∃ (v : V) (y : Addr) (zs : List Str), vs = [v, .ref y] ∧ SqT K H y (zs.map V.str) ∧ zs.length ≤ 1000 ∧
  ((∃ t xs r, v = .ref t ∧ ValsAt H t xs r ∧ (∀ z ∈ zs, z ∈ keysR r) ∧ ∀ H', Same H H' → Q .non H') ∨ (BadV H zs v ∧ Rs XV v H E))
def spEvalX (C XV : Addr) : Sp := fun vs H Q E => ∃ (x v : V) (q : Row), vs = [x, v] ∧ FormAt C H x q ∧
  ((∃ t xs r, v = .ref t ∧ ValsAt H t xs r ∧ (∀ z ∈ keysR q, z ∈ keysR r) ∧ ∀ H', Same H H' → Q (.int (evalR q r)) H') ∨ (BadV H (keysR q) v ∧ Rs XV v H E))
/-- the first wrong keyword, else the first wrong factor -/
def badK (ys : List (Str × V)) : Option (Nat × V) := match ys.find? fun p => !symS p.1 with
  | some p => some (0, .str p.1)
  | none => (match ys.find? fun p => !isI p.2 with
    | some p => some (1, p.2)
    | none => none)
def spInitX (XN XF : Addr) : Sp := fun vs H _ E => ∃ (x d : Addr) (ys : List (Str × V)) (i : Nat) (y : V), vs = [.ref x, .ref d] ∧ H d = some (.dK (inrs ys)) ∧ (ys.map (·.1)).Nodup ∧ ys.length ≤ 100 ∧ (∀ p ∈ ys, p.1.length ≤ 100 ∧ Th (fun a => a = d) H 0 p.2) ∧ badK ys = some (i, y) ∧ ∀ dd H', Rx [d] H H' → H' dd = none → E (.ref (if i = 0 then XN else XF)) (some dd) (upd H' dd (.xd [("value", y)]))
theorem inrs_at {ys : List (Str × V)} {i : Nat} {kk : Key} {v : V} (h : (inrs ys)[i]? = some (kk, v)) : ∃ p, ys[i]? = some p ∧ kk = .inr p.1 ∧ v = p.2 := by
  unfold inrs at h
  rw [List.getElem?_map] at h
  obtain ⟨p, hp, e⟩ := Option.map_eq_some_iff.mp h
  cases e
  exact ⟨p, hp, rfl, rfl⟩
theorem find_first {α : Type} {f : α → Bool} {l : List α} {i : Nat} {x : α} (h : ∀ m < i, ∀ y, l[m]? = some y → f y = false) (hx : l[i]? = some x) (fx : f x = true) : l.find? f = some x := by
  induction l generalizing i with
  | nil => cases hx
  | cons a r ih =>
    cases i with
    | zero =>
      cases hx
      rw [List.find?_cons, fx]
    | succ i =>
      rw [List.find?_cons, h 0 (by omega) a rfl]
      exact ih (fun m hm y hy => h (m + 1) (by omega) y hy) hx
theorem find_no {α : Type} {f : α → Bool} {l : List α} (h : ∀ m < l.length, ∀ y, l[m]? = some y → f y = false) : l.find? f = none := by
  rw [List.find?_eq_none]
  intro x hx
  obtain ⟨m, hm⟩ := List.getElem?_of_mem hx
  rw [h m (List.getElem?_eq_some_iff.mp hm).1 x hm]
  simp
theorem s_dgetV {H : Hp} {Q : VK} {a : Addr} {ys : List (Str × V)} {p : Str × V} {i : Nat} (e : Rd H a (.dK (inrs ys))) (nd : (ys.map (·.1)).Nodup) (hp : ys[i]? = some p) (h : Q p.2 H) : rDget (.ref a) (.str p.1) H Q := by
  refine ⟨a, p.2, rfl, .inl ⟨inrs ys, Sum.inr p.1, e, rfl, ?_⟩, h⟩
  clear e h
  induction ys generalizing i with
  | nil => cases hp
  | cons y r ih =>
    show some p.2 = valV (((Sum.inr y.1 : Key), y.2) :: inrs r) (Sum.inr p.1 : Key)
    cases i with
    | zero =>
      cases hp
      exact (valV_pos (κ := Key) (p := ((Sum.inr p.1 : Key), p.2)) (k := Sum.inr p.1) rfl).symm
    | succ i =>
      rw [List.map_cons, List.nodup_cons] at nd
      have ne : ¬ (Sum.inr y.1 : Key) = Sum.inr p.1 := fun z => nd.1 (by
        have z : y.1 = p.1 := by injection z
        rw [z]
        exact List.mem_map.mpr ⟨p, List.mem_of_getElem? hp, rfl⟩)
      rw [valV_neg (κ := Key) (p := ((Sum.inr y.1 : Key), y.2)) ne]
      exact ih nd.2 hp
def spMakeX (XN XF : Addr) : List V → List (Str × V) → Hp → VK → XK → Prop := fun vs ys H Q E => ∃ v, vs = [v] ∧ (∀ p ∈ ys, (p.1 == "own_form") = false) ∧ (ys.map (·.1)).Nodup ∧ ys.length ≤ sizeLine ∧ ∀ d, H d = none → spInitX XN XF [v, .ref d] (upd H d (.dK (inrs ys))) Q E
/-- what an act that raises is wished to raise -/
def E5 (K : PySem.W.Frag) (C XI XN XF XV XA XT XS XR XL : Addr) (Q : VK) : XK := fun cls d H' => ∃ (D dd : Addr) (y : V) (z : Str) (i : Nat), cls = .ref D ∧ d = some dd ∧ H' dd = some (.xd [("value", y)]) ∧
  Er5 K XI XN XF XV XA XT XS XR XL D i ∧ ExK K D ∧ XfC K D ∧ PySem.W.findIn K (.ref D) "value" = some none ∧ Rp K C H' y z ∧ z.length ≤ 100000 ∧ ∀ q H'', H' q = none → Same H' H'' → H'' q = some (.lst [.str (kindN i), .str z]) → Q (.ref q) H''
/-- what told makes of an act that raises -/
def TT5 (K : PySem.W.Frag) (C XI XN XF XV XA XT XS XR XL : Addr) : (XK → Hp → VK → Prop) → Hp → VK → Prop := fun tl H Q => ∀ (E : XK) (Q0 : VK), (∀ cls d H', E5 K C XI XN XF XV XA XT XS XR XL Q cls d H' → E cls d H') → tl E H Q0
end G


namespace G
open PySem PySem.Spec PyProof.Rows L2 StX ClX LamX TL
/-! ### small data -/
structure Sd (w n : Nat) (d : PyData) : Prop where
  ls : d.leavesShort 43 = true
  sh : d.showable = true
  nd : d.hasDict = false
  dp : d.depth ≤ n
  wt : d.weight ≤ w
structure SdA (w n : Nat) (ds : List PyData) : Prop where
  ls : PyData.leavesShortAll 43 ds = true
  sh : PyData.showableAll ds = true
  nd : PyData.hasDictAll ds = false
  dp : PyData.depthAll ds ≤ n
  wt : PyData.weightAll ds ≤ w
theorem Sd.non : Sd 0 0 .none := ⟨rfl, rfl, rfl, Nat.le_refl _, Nat.le_refl _⟩
theorem Sd.bl (b : Bool) : Sd 0 0 (.bool b) := ⟨rfl, rfl, rfl, Nat.le_refl _, Nat.le_refl _⟩
theorem leaf_int {i : Int} (h : i.natAbs ≤ 10 ^ 40) : (PyData.int i).leavesShort 43 = true := by
  have := leaves_ints (ns := [i]) (fun j hj => by rw [List.mem_singleton.mp hj]; exact h)
  simpa [PyData.leavesShortAll] using this
theorem show_int {i : Int} (h : i.natAbs ≤ 10 ^ 40) : i.natAbs.log2 < 134 := by
  by_cases z : i.natAbs = 0
  · rw [z]; decide
  · exact (Nat.log2_lt z).mpr (Nat.lt_of_le_of_lt h (by decide +kernel))
theorem Sd.int {i : Int} (h : i.natAbs ≤ 10 ^ 40) : Sd 134 0 (.int i) := by
  have hl := show_int h
  refine ⟨leaf_int h, ?_, rfl, Nat.le_refl _, ?_⟩
  · simp only [PyData.showable]
    exact decide_eq_true (by omega)
  · simp only [PyData.weight]
    split <;> omega
theorem Sd.str {z : Str} (a : asc z) : Sd z.length 0 (.str z) := ⟨leaf_str a, rfl, rfl, Nat.le_refl _, Nat.le_refl _⟩
theorem Sd.mono {w n w' n' : Nat} {d : PyData} (h : Sd w n d) (a : w ≤ w') (b : n ≤ n') : Sd w' n' d := ⟨h.ls, h.sh, h.nd, Nat.le_trans h.dp b, Nat.le_trans h.wt a⟩
theorem SdA.mono {w n w' n' : Nat} {ds : List PyData} (h : SdA w n ds) (a : w ≤ w') (b : n ≤ n') : SdA w' n' ds := ⟨h.ls, h.sh, h.nd, Nat.le_trans h.dp b, Nat.le_trans h.wt a⟩
theorem SdA.nil {n : Nat} : SdA 0 n [] := ⟨rfl, rfl, rfl, Nat.zero_le _, Nat.le_refl _⟩
theorem SdA.cons {w w' n : Nat} {d : PyData} {ds : List PyData} (h : Sd w n d) (t : SdA w' n ds) : SdA (w + 1 + w') n (d :: ds) := by
  refine ⟨?_, ?_, ?_, ?_, ?_⟩
  · simp only [PyData.leavesShortAll, h.ls, t.ls, Bool.and_true]
  · simp only [PyData.showableAll, h.sh, t.sh, Bool.and_true]
  · simp only [PyData.hasDictAll, h.nd, t.nd, Bool.or_false]
  · simp only [PyData.depthAll]
    exact Nat.max_le.mpr ⟨h.dp, t.dp⟩
  · simp only [PyData.weightAll]
    have a := h.wt
    have b := t.wt
    omega
theorem Sd.lst {w n : Nat} {ds : List PyData} (h : SdA w n ds) : Sd w (n + 1) (.list ds) :=
  ⟨by simp only [PyData.leavesShort]; exact h.ls, by simp only [PyData.showable]; exact h.sh, by simp only [PyData.hasDict]; exact h.nd, by simp only [PyData.depth]; have := h.dp; omega, by simp only [PyData.weight]; exact h.wt⟩
theorem Sd.tup {w n : Nat} {ds : List PyData} (h : SdA w n ds) : Sd w (n + 1) (.tuple ds) :=
  ⟨by simp only [PyData.leavesShort]; exact h.ls, by simp only [PyData.showable]; exact h.sh, by simp only [PyData.hasDict]; exact h.nd, by simp only [PyData.depth]; have := h.dp; omega, by simp only [PyData.weight]; exact h.wt⟩
theorem SdA.app {w w' n : Nat} : ∀ {ds es : List PyData}, SdA w n ds → SdA w' n es → SdA (w + w') n (ds ++ es)
  | [], es, _, h => h.mono (Nat.le_add_left _ _) (Nat.le_refl _)
  | d :: ds, es, h, k => by
    have hl := h.ls
    have hs := h.sh
    have hn := h.nd
    have hd := h.dp
    have hw := h.wt
    simp only [PyData.leavesShortAll, Bool.and_eq_true] at hl
    simp only [PyData.showableAll, Bool.and_eq_true] at hs
    simp only [PyData.hasDictAll, Bool.or_eq_false_iff] at hn
    simp only [PyData.depthAll] at hd
    simp only [PyData.weightAll] at hw
    have hd' := Nat.max_le.mp hd
    have t := SdA.app (w := PyData.weightAll ds) (w' := w') (n := n) (ds := ds) (es := es) ⟨hl.2, hs.2, hn.2, hd'.2, Nat.le_refl _⟩ k
    exact (SdA.cons (w := PyData.weight d) ⟨hl.1, hs.1, hn.1, hd'.1, Nat.le_refl _⟩ t).mono (by omega) (Nat.le_refl _)
theorem asc_sym {z : Str} (h : symS z = true) : asc z := fun c hc => by
  have := sym_signs h c hc
  omega
/-- names that a symbol may have, ints that are not long -/
structure RowS (r : Row) : Prop where
  sy : ∀ p ∈ r, symS p.1 = true
  sm : ∀ p ∈ r, p.2.natAbs ≤ 10 ^ 40
theorem sdA_row : ∀ {r : Row}, RowS r → SdA (150 * r.length) 1 (r.map pairD)
  | [], _ => SdA.nil
  | p :: r, h => by
    have ih := sdA_row (r := r) ⟨fun q hq => h.sy q (List.mem_cons_of_mem _ hq), fun q hq => h.sm q (List.mem_cons_of_mem _ hq)⟩
    have hl := (sym_len (h.sy p List.mem_cons_self)).2
    have ha := asc_sym (h.sy p List.mem_cons_self)
    have h1 : Sd (8 + 1 + (134 + 1 + 0)) 1 (pairD p) := Sd.tup (SdA.cons ((Sd.str ha).mono hl (Nat.le_refl _)) (SdA.cons (Sd.int (h.sm p List.mem_cons_self)) SdA.nil))
    rw [List.map_cons]
    exact (SdA.cons h1 ih).mono (by simp only [List.length_cons]; omega) (Nat.le_refl _)
/-- repr tells it in a line -/
def RpB (K : PySem.W.Frag) (C : Addr) (H : Hp) (v : V) : Prop := ∃ z, Rp K C H v z ∧ z.length ≤ 100000
theorem RpB.data {K : PySem.W.Frag} {C : Addr} {H : Hp} {v : V} {d : PyData} {w n : Nat} (h : Dp K H v d) (s : Sd w n d) (hw : w ≤ 2000) (hn : n ≤ 60) : RpB K C H v := by
  have h1 := PyData.shown_le 43 (by decide) d s.ls
  have h2 := s.wt
  have h3 : d.shown.length ≤ 100000 := by omega
  exact ⟨_, .data h s.nd s.sh (Nat.le_trans s.dp hn) (sz1 (by omega)), h3⟩
theorem sd_kv : ∀ {r : Row}, RowS r → PyData.leavesShortKv 43 (r.map fun p => (PyData.str p.1, PyData.int p.2)) = true ∧ PyData.showableKv (r.map fun p => (PyData.str p.1, PyData.int p.2)) = true ∧
    PyData.depthKv (r.map fun p => (PyData.str p.1, PyData.int p.2)) ≤ 0 ∧ PyData.weightKv (r.map fun p => (PyData.str p.1, PyData.int p.2)) ≤ 150 * r.length
  | [], _ => ⟨rfl, rfl, Nat.le_refl _, Nat.le_refl _⟩
  | p :: r, h => by
    obtain ⟨a, b, c, d⟩ := sd_kv (r := r) ⟨fun q hq => h.sy q (List.mem_cons_of_mem _ hq), fun q hq => h.sm q (List.mem_cons_of_mem _ hq)⟩
    have hl := (sym_len (h.sy p List.mem_cons_self)).2
    have h1 := Sd.str (asc_sym (h.sy p List.mem_cons_self))
    have h2 := Sd.int (h.sm p List.mem_cons_self)
    have w1 := h1.wt
    have w2 := h2.wt
    have d1 := h1.dp
    have d2 := h2.dp
    refine ⟨?_, ?_, ?_, ?_⟩
    · simp only [List.map_cons, PyData.leavesShortKv, h1.ls, h2.ls, a, Bool.and_true]
    · simp only [List.map_cons, PyData.showableKv, h1.sh, h2.sh, b, Bool.and_true]
    · simp only [List.map_cons, PyData.depthKv]
      exact Nat.max_le.mpr ⟨Nat.max_le.mpr ⟨d1, d2⟩, c⟩
    · simp only [List.map_cons, PyData.weightKv, List.length_cons]
      omega
theorem RpB.dct {K : PySem.W.Frag} {C : Addr} {H : Hp} {a : Addr} {r : Row} (h : H a = some (.dK (kvR r))) (s : RowS r) (l : r.length ≤ 12) : RpB K C H (.ref a) := by
  obtain ⟨h1, h2, h3, h4⟩ := sd_kv s
  have ls : (PyData.dict (r.map fun p => (.str p.1, .int p.2))).leavesShort 43 = true := by simp only [PyData.leavesShort]; exact h1
  have sl := PyData.shown_le 43 (by decide) _ ls
  have hw : (PyData.dict (r.map fun p => (.str p.1, .int p.2))).weight ≤ 1800 := by simp only [PyData.weight]; omega
  refine ⟨_, .dct (kvs := r) h (by simp only [PyData.showable]; exact h2) (by simp only [PyData.depth]; omega) (sz1 (by omega)), by omega⟩
theorem RpB.lst {K : PySem.W.Frag} {C : Addr} {H : Hp} {a : Addr} {xs : List V} {r : Row} (h : H a = some (.lst xs)) (p : PrsL H xs r) (s : RowS r) (l : r.length ≤ 12) : RpB K C H (.ref a) :=
  RpB.data (.lst (SqL.of h) (dp_pairs p)) (Sd.lst (sdA_row s)) (by omega) (by decide)
theorem RpB.tup {K : PySem.W.Frag} {C : Addr} {H : Hp} {a : Addr} {xs : List V} {r : Row} (h : H a = some (.tup xs)) (p : PrsL H xs r) (s : RowS r) (l : r.length ≤ 12) : RpB K C H (.ref a) :=
  RpB.data (.tup (SqT.of h) (dp_pairs p)) (Sd.tup (sdA_row s)) (by omega) (by decide)
theorem dpAll_app {K : PySem.W.Frag} {H : Hp} : ∀ {xs ys : List V} {ds es : List PyData}, DpAll K H xs ds → DpAll K H ys es → DpAll K H (xs ++ ys) (ds ++ es)
  | _, _, _, _, .nil, h => h
  | _, _, _, _, .cons a t, h => .cons a (dpAll_app t h)
/-! ### a comprehension that draws, item by item -/
theorem paired_snoc {α β : Type} {R : α → β → Prop} {xs : List α} {ys : List β} {x : α} {y : β} (h : Paired R xs ys) (k : R x y) : Paired R (xs ++ [x]) (ys ++ [y]) := Paired.snoc h k
theorem lcDR {σ : L2.St} {H : Hp} {Q : VK} {g : TG} {te : TE} {vs : List Nat} {p : Addr} (Rel : Hp → V → V → Prop) (st : TpR Rel) {J : It} {xs : List V} {G : Hp → Prop} (w : Walk J xs.length G (YAt xs)) (d : Dr p H) (hG : ∀ H1, Rx [p] H H1 → G H1) (hl : xs.length ≤ 1000000)
    (hs : ∀ x H1 (Q1 : VK), x ∈ xs → Rx [p] H H1 → Dr p H1 → (∀ v H2, Rx [p] H1 H2 → Dr p H2 → Rel H2 v x → Q1 v H2) → g x (wipe σ vs) H1 fun σ2 H2 => wipe σ2 vs = wipe σ vs ∧ te σ2 H2 Q1)
    (gm : ∀ x σ1 H1 (P P' : L2.St → Hp → Prop), (∀ a b, P a b → P' a b) → g x σ1 H1 P → g x σ1 H1 P')
    (h : ∀ D H' ys, H D = none → Rx [p] H H' → Dr p H' → H' D = some (.lst ys) → Paired (Rel H') ys xs → Q (.ref D) H') : LC J g tYes te vs σ Q H := by
  intro D hD
  obtain ⟨s0, d0, c0, hp, _⟩ := id d
  have npD : D ≠ p := (ne_of_none hp hD).symm
  have nD : D ∉ [p] := by simpa using npD
  have upR : ∀ {H1 : Hp} {o : HO}, Rx [p] H H1 → Rx [p] H (upd H1 D o) := fun r => r.own hD
  have upD : ∀ {H1 : Hp} {o : HO}, Dr p H1 → Dr p (upd H1 D o) := by
    rintro H1 o ⟨s, dd, c, e, r⟩
    exact ⟨s, dd, c, by rw [upd_ne npD.symm]; exact e, r⟩
  refine lc_it w (fun i H1 => Rx [p] H H1 ∧ Dr p H1 ∧ ∃ ys, H1 D = some (.lst ys) ∧ ys.length = i ∧ Paired (Rel H1) ys (xs.take i)) ⟨upR (Rx.refl _), upD d, [], upd_same, rfl, .nil⟩ (fun i H1 _ q => hG H1 q.1) ?_ ?_
  · rintro i x H1 H2 hi ⟨r, d1, ys, hd, hy, ha⟩ ⟨rfl, hx⟩
    refine gm _ _ _ _ _ ?_ (hs x H2 (fun y H4 => ∃ acc, H4 D = some (.lst acc) ∧ acc.length < sizeLine ∧ (Rx [p] H (upd H4 D (.lst (acc ++ [y]))) ∧ Dr p (upd H4 D (.lst (acc ++ [y]))) ∧
      ∃ ys, (upd H4 D (.lst (acc ++ [y]))) D = some (.lst ys) ∧ ys.length = i + 1 ∧ Paired (Rel (upd H4 D (.lst (acc ++ [y])))) ys (xs.take (i + 1)))) (List.mem_of_getElem? hx) r d1 ?_)
    · rintro σ2 H3 ⟨e, q⟩
      refine ⟨e, s_yes (iteT ?_)⟩
      exact q
    · intro v H4 r4 d4 pv
      have t4 : Tp H4 (upd H4 D (.lst (ys ++ [v]))) := Tp.lst (r4 _ _ nD hd)
      refine ⟨ys, r4 _ _ nD hd, sz2 (by omega), upR (r.trans r4), upD d4, ys ++ [v], upd_same, by simp [hy], ?_⟩
      rw [List.take_add_one, hx]
      exact paired_snoc (paired_tp st ((tp_dr d1 r4).trans t4) ha) (st _ _ _ _ t4 pv)
  · rintro H1 ⟨r, d1, ys, hd, hy, ha⟩
    rw [List.take_of_length_le (Nat.le_refl _)] at ha
    exact h D H1 ys hD r d1 hd ha
/-- (x, i), x the item -/
def RlP (ok : Int → Prop) (H : Hp) (v x : V) : Prop := ∃ z i, x = .str z ∧ PrR H v (z, i) ∧ ok i
theorem tpR_rl {ok : Int → Prop} : TpR (RlP ok) := by
  rintro H H' v x t ⟨z, i, e, p, o⟩
  exact ⟨z, i, e, tpR_pr _ _ _ _ t p, o⟩
theorem row_of {ok : Int → Prop} {H : Hp} : ∀ {zs : List Str} {ys : List V}, Paired (RlP ok H) ys (zs.map V.str) → ∃ r : Row, PrsL H ys r ∧ keysR r = zs ∧ ∀ p ∈ r, ok p.2
  | [], _, h => by
    cases h
    exact ⟨[], .nil, rfl, fun _ h => (List.not_mem_nil h).elim⟩
  | z :: zs, _, h => by
    cases h with
    | cons a t =>
      obtain ⟨z', i, e, ⟨q, rfl, hq⟩, o⟩ := a
      cases e
      obtain ⟨r, h1, h2, h3⟩ := row_of t
      refine ⟨(z, i) :: r, .cons hq h1, by rw [← h2]; rfl, fun p hp => ?_⟩
      rcases List.mem_cons.mp hp with rfl | hp
      · exact o
      · exact h3 p hp
/-! ### slices -/
theorem cutV_to {xs : List V} {i : Nat} : cutV xs none (some (i : Int)) = xs.take i := by
  unfold cutV
  rw [HT.sIx_none, HT.sIx_nat, List.drop_zero, Nat.sub_zero]
  by_cases h : i ≤ xs.length
  · rw [Nat.min_eq_left h]
  · rw [Nat.min_eq_right (by omega), List.take_of_length_le (Nat.le_refl _), List.take_of_length_le (by omega)]
theorem cutV_from {xs : List V} {i : Nat} : cutV xs (some (i : Int)) none = xs.drop i := by
  unfold cutV
  rw [HT.sIx_none, HT.sIx_nat]
  by_cases h : i ≤ xs.length
  · rw [Nat.min_eq_left h, List.take_of_length_le (by rw [List.length_drop]; omega)]
  · rw [Nat.min_eq_right (by omega), List.drop_of_length_le (Nat.le_refl _), List.drop_of_length_le (by omega), List.take_nil]
theorem prs_take {H : Hp} : ∀ {xs : List V} {r : Row} (n : Nat), PrsL H xs r → PrsL H (xs.take n) (r.take n)
  | _, _, 0, _ => .nil
  | _, _, _ + 1, .nil => .nil
  | _, _, n + 1, .cons h t => .cons h (prs_take n t)
theorem prs_drop {H : Hp} : ∀ {xs : List V} {r : Row} (n : Nat), PrsL H xs r → PrsL H (xs.drop n) (r.drop n)
  | _, _, 0, h => h
  | _, _, _ + 1, .nil => .nil
  | _, _, n + 1, .cons h t => prs_drop n t
/-! ### values that are none -/
theorem prs_keys {H : Hp} : ∀ {xs : List V} {r : Row}, PrsL H xs r → xs.map (keyV H) = keysR r
  | _, _, .nil => rfl
  | _, _, .cons (t := t) (x := z) (i := i) e h => by
    rw [List.map_cons, prs_keys h]
    have et : tupOf H (.ref t) = some [.str z, .int i] := tupOf_ref e
    unfold keyV
    rw [et]
    rfl
/-- keys that do not ascend -/
theorem vals_not {H : Hp} {t : Addr} {xs : List V} {r : Row} (e : H t = some (.tup xs)) (p : PrsL H xs r) (n : ¬ (keysR r).Pairwise fun a b => a.cps.toList < b.cps.toList) : valsV H (.ref t) = false := by
  rw [valsV_some (tupOf_ref e), prs_keys p]
  cases h : ascS (keysR r) with
  | false => rw [Bool.and_false]
  | true => exact (n (asc_of_ascS h)).elim
theorem name_ge {z : Str} (h : nameS z = true) : ¬ z.cps.toList < (Str.ofString "@").cps.toList := by
  unfold nameS at h
  simp only [Bool.and_eq_true] at h
  obtain ⟨⟨_, h⟩, _⟩ := h
  cases e : z.cps.toList with
  | nil => rw [e] at h; cases h
  | cons c cs =>
    rw [e] at h
    have hc : c ∈ letS.cps.toList := of_decide_eq_true h
    have h97 : 97 ≤ c := by
      have : ∀ d ∈ letS.cps.toList, 97 ≤ d := by decide +kernel
      exact this c hc
    have ea : (Str.ofString "@").cps.toList = [64] := by decide +kernel
    rw [ea]
    intro lt
    rcases List.cons_lt_cons_iff.mp lt with h1 | ⟨h1, _⟩ <;> omega
/-- what may be asked of odd values -/
def Odd5 (K : PySem.W.Frag) (C : Addr) (H : Hp) (zs : List Str) (v : V) : Prop := BadV H zs v ∧ RpB K C H v
theorem odd_no {K : PySem.W.Frag} {C : Addr} {H : Hp} {zs : List Str} {v : V} {A : Addr → Prop} (t : Th A H 2 v) (h : tupOf H v = none) (r : RpB K C H v) : Odd5 K C H zs v := ⟨⟨A, t, .inl (valsV_none h)⟩, r⟩
theorem lst_no {H : Hp} {a : Addr} {xs : List V} (h : H a = some (.lst xs)) : tupOf H (.ref a) = none := by
  show tupH (H a) = none
  rw [h]
  rfl
theorem dct_no {H : Hp} {a : Addr} {xs : List (Key × V)} (h : H a = some (.dK xs)) : tupOf H (.ref a) = none := by
  show tupH (H a) = none
  rw [h]
  rfl
/-- the pairs without one -/
theorem vals_gone {K : PySem.W.Frag} {C : Addr} {H : Hp} {t : Addr} {vs : List V} {row : Row} {n : Nat} (e : H t = some (.tup (vs.take n ++ vs.drop (n + 1)))) (p : PrsL H vs row) (asc : (keysR row).Pairwise fun a b => a.cps.toList < b.cps.toList)
    (ok : ∀ p ∈ row, symS p.1 = true ∧ 0 ≤ p.2 ∧ p.2 < 50) (hn : n < row.length) (hl : row.length ≤ 4) : Odd5 K C H (keysR row) (.ref t) := by
  have sub : (row.take n ++ row.drop (n + 1)).Sublist row := by
    conv => rhs; rw [← List.take_append_drop n row]
    refine List.Sublist.append (List.Sublist.refl _) ?_
    rw [← List.drop_drop]
    exact List.drop_sublist 1 _
  have pr : PrsL H (vs.take n ++ vs.drop (n + 1)) (row.take n ++ row.drop (n + 1)) := (prs_take n p).app (prs_drop (n + 1) p)
  have hlen := sub.length_le
  have rs : RowS (row.take n ++ row.drop (n + 1)) := ⟨fun q hq => (ok q (sub.subset hq)).1, fun q hq => by
    have := ok q (sub.subset hq)
    exact Nat.le_trans (show q.2.natAbs ≤ 50 by omega) (by decide +kernel)⟩
  have va : ValsAt H t (vs.take n ++ vs.drop (n + 1)) (row.take n ++ row.drop (n + 1)) := by
    refine ⟨e, pr, List.Pairwise.sublist (List.Sublist.map _ sub) asc, fun q hq => ?_, by omega⟩
    have h := ok q (sub.subset hq)
    refine ⟨h.1, h.2.1, ?_⟩
    unfold bd
    exact Nat.lt_of_le_of_lt (show q.2.natAbs ≤ 50 by omega) (by decide +kernel)
  refine ⟨⟨fun _ => False, va.th, .inr ⟨t, _, _, rfl, va, (row[n]'hn).1, mem_keys (List.getElem_mem hn), ?_⟩⟩, RpB.tup e pr rs (by omega)⟩
  intro hm
  obtain ⟨q, hq, eq⟩ := List.mem_map.mp hm
  have nd : (keysR row).Nodup := List.Pairwise.imp (fun {a b} h e => by rw [e] at h; exact List.lt_irrefl _ h) asc
  have inj : ∀ i j (hi : i < row.length) (hj : j < row.length), (row[i]'hi).1 = (row[j]'hj).1 → i = j := fun i j hi hj h => by
    have hk : ∀ m (hm : m < row.length), (keysR row)[m]'(by simpa [keysR] using hm) = (row[m]'hm).1 := fun m hm => by
      unfold keysR
      rw [List.getElem_map]
    have hp := List.pairwise_iff_getElem.mp nd
    rcases Nat.lt_trichotomy i j with hlt | rfl | hlt
    · exact (hp i j (by simpa [keysR] using hi) (by simpa [keysR] using hj) hlt (by rw [hk i hi, hk j hj, h])).elim
    · rfl
    · exact (hp j i (by simpa [keysR] using hj) (by simpa [keysR] using hi) hlt (by rw [hk i hi, hk j hj, h])).elim
  rcases List.mem_append.mp hq with hq | hq
  · obtain ⟨i, hi, ei⟩ := List.getElem_of_mem hq
    rw [List.getElem_take] at ei
    have hi' : i < n ∧ i < row.length := by rw [List.length_take] at hi; omega
    have := inj i n hi'.2 hn (by rw [ei]; exact eq)
    omega
  · obtain ⟨i, hi, ei⟩ := List.getElem_of_mem hq
    rw [List.getElem_drop] at ei
    have hi' : n + 1 + i < row.length := by rw [List.length_drop] at hi; omega
    have := inj (n + 1 + i) n hi' hn (by rw [ei]; exact eq)
    omega
/-- .. with one of them twice -/
theorem vals_dup {K : PySem.W.Frag} {C : Addr} {H : Hp} {t : Addr} {vs : List V} {row : Row} {zs : List Str} {n : Nat} (e : H t = some (.tup (vs.take (n + 1) ++ vs.drop n))) (p : PrsL H vs row)
    (ok : ∀ p ∈ row, symS p.1 = true ∧ 0 ≤ p.2 ∧ p.2 < 50) (hn : n < row.length) (hl : row.length ≤ 4) : Odd5 K C H zs (.ref t) := by
  have pr : PrsL H (vs.take (n + 1) ++ vs.drop n) (row.take (n + 1) ++ row.drop n) := (prs_take (n + 1) p).app (prs_drop n p)
  have hm : ∀ q ∈ row.take (n + 1) ++ row.drop n, q ∈ row := fun q hq => by
    rcases List.mem_append.mp hq with h | h
    · exact List.mem_of_mem_take h
    · exact List.mem_of_mem_drop h
  have rs : RowS (row.take (n + 1) ++ row.drop n) := ⟨fun q hq => (ok q (hm q hq)).1, fun q hq => by
    have := ok q (hm q hq)
    exact Nat.le_trans (show q.2.natAbs ≤ 50 by omega) (by decide +kernel)⟩
  have hlen : (row.take (n + 1) ++ row.drop n).length ≤ 9 := by
    rw [List.length_append, List.length_take, List.length_drop]
    omega
  have hvl := pr.len
  refine ⟨⟨fun _ => False, th_tup (fun z => z) e (by omega) (prs_th pr rs.sy fun _ _ z => z), .inl (vals_not e pr ?_)⟩, RpB.tup e pr rs (by omega)⟩
  intro h
  unfold keysR at h
  rw [List.map_append, List.pairwise_append] at h
  have m1 : (row[n]'hn).1 ∈ (row.take (n + 1)).map (·.1) := List.mem_map_of_mem (by
    refine List.mem_iff_getElem.mpr ⟨n, by rw [List.length_take]; omega, ?_⟩
    rw [List.getElem_take])
  have m2 : (row[n]'hn).1 ∈ (row.drop n).map (·.1) := List.mem_map_of_mem (by
    refine List.mem_iff_getElem.mpr ⟨0, by rw [List.length_drop]; omega, ?_⟩
    rw [List.getElem_drop]
    rfl)
  exact List.lt_irrefl _ (h.2.2 _ m1 _ m2)
/-- .. with the cell's sign behind them -/
theorem vals_cell {K : PySem.W.Frag} {C : Addr} {H : Hp} {t u : Addr} {vs : List V} {row : Row} {zs : List Str} (e : H t = some (.tup (vs ++ [.ref u]))) (eu : H u = some (.tup [.str "@", .int 1])) (p : PrsL H vs row)
    (ok : ∀ p ∈ row, nameS p.1 = true ∧ 0 ≤ p.2 ∧ p.2 < 50) (hn : 0 < row.length) (hl : row.length ≤ 4) : Odd5 K C H zs (.ref t) := by
  have pr : PrsL H (vs ++ [.ref u]) (row ++ [(Str.ofString "@", 1)]) := p.app (.cons eu .nil)
  have sy : ∀ q ∈ row ++ [(Str.ofString "@", (1 : Int))], symS q.1 = true ∧ q.2.natAbs ≤ 50 := fun q hq => by
    rcases List.mem_append.mp hq with h | h
    · have := ok q h
      refine ⟨?_, by omega⟩
      unfold symS
      rw [this.1, Bool.or_true]
    · have : q = (Str.ofString "@", (1 : Int)) := by simpa using h
      rw [this]
      exact ⟨by decide +kernel, by decide⟩
  have rs : RowS (row ++ [(Str.ofString "@", (1 : Int))]) := ⟨fun q hq => (sy q hq).1, fun q hq => Nat.le_trans (sy q hq).2 (by decide +kernel)⟩
  have hlen : (row ++ [(Str.ofString "@", (1 : Int))]).length ≤ 5 := by
    rw [List.length_append]
    simp
    omega
  have hvl := pr.len
  refine ⟨⟨fun _ => False, th_tup (fun z => z) e (by omega) (prs_th pr rs.sy fun _ _ z => z), .inl (vals_not e pr ?_)⟩, RpB.tup e pr rs (by omega)⟩
  intro h
  unfold keysR at h
  rw [List.map_append, List.pairwise_append] at h
  have m1 : (row[0]'hn).1 ∈ row.map (·.1) := List.mem_map_of_mem (List.getElem_mem hn)
  exact name_ge (ok _ (List.getElem_mem hn)).1 (h.2.2 _ m1 (Str.ofString "@") (by simp))
/-- plain things -/
def pdV : V → PyData
  | .str z => .str z
  | .int i => .int i
  | .bl b => .bool b
  | _ => .none
def okV : V → Prop
  | .str z => asc z ∧ z.length ≤ 20
  | .int i => i.natAbs ≤ 100
  | .bl _ => True
  | .non => True
  | _ => False
theorem okV_one {K : PySem.W.Frag} {H : Hp} {v : V} (h : okV v) : Dp K H v (pdV v) ∧ Sd 134 0 (pdV v) ∧ ∀ A, Th A H 0 v := by
  cases v with
  | non => exact ⟨.non, Sd.non.mono (by decide) (Nat.le_refl _), fun _ => trivial⟩
  | bl b => exact ⟨.bl b, (Sd.bl b).mono (by decide) (Nat.le_refl _), fun _ => trivial⟩
  | int i => exact ⟨.int i, Sd.int (Nat.le_trans h (by decide +kernel)), fun _ => trivial⟩
  | str z => exact ⟨.str z, (Sd.str h.1).mono (Nat.le_trans h.2 (by decide)) (Nat.le_refl _), fun _ => Nat.le_trans h.2 (by decide)⟩
  | _ => exact h.elim
theorem okV_all {K : PySem.W.Frag} {H : Hp} : ∀ {xs : List V}, (∀ x ∈ xs, okV x) → DpAll K H xs (xs.map pdV) ∧ SdA (135 * xs.length) 0 (xs.map pdV)
  | [], _ => ⟨.nil, SdA.nil⟩
  | x :: xs, h => by
    obtain ⟨a, b, _⟩ := okV_one (K := K) (H := H) (h x List.mem_cons_self)
    obtain ⟨c, d⟩ := okV_all (K := K) (H := H) (xs := xs) fun y hy => h y (List.mem_cons_of_mem _ hy)
    exact ⟨.cons a c, (SdA.cons b d).mono (by simp only [List.length_cons]; omega) (Nat.le_refl _)⟩
/-- an element that is no pair -/
def OddE (K : PySem.W.Frag) (H : Hp) (v : V) : Prop := Th (fun _ => False) H 1 v ∧ pairV H v = false ∧ ∃ d, Dp K H v d ∧ Sd 500 1 d
def pairL : List V → Bool
  | [a, b] => symV a && natV b
  | _ => false
theorem odd_tup {K : PySem.W.Frag} {H : Hp} {t : Addr} {xs : List V} (e : H t = some (.tup xs)) (h : ∀ x ∈ xs, okV x) (l : xs.length ≤ 3) (b : pairL xs = false) : OddE K H (.ref t) := by
  obtain ⟨h1, h2⟩ := okV_all (K := K) (H := H) h
  refine ⟨th_tup (fun z => z) e (by omega) (fun x hx => (okV_one (K := K) (H := H) (h x hx)).2.2 _), ?_, _, .tup (SqT.of e) h1, (Sd.tup h2).mono (by omega) (Nat.le_refl _)⟩
  unfold pairV
  rw [tupOf_ref e]
  match xs, b with
  | [], _ => rfl
  | [_], _ => rfl
  | [x, y], b => exact b
  | _ :: _ :: _ :: _, _ => rfl
theorem odd_lst {K : PySem.W.Frag} {H : Hp} {t : Addr} {xs : List V} (e : H t = some (.lst xs)) (h : ∀ x ∈ xs, okV x) (l : xs.length ≤ 3) : OddE K H (.ref t) := by
  obtain ⟨h1, h2⟩ := okV_all (K := K) (H := H) h
  refine ⟨th_lst (fun z => z) e, ?_, _, .lst (SqL.of e) h1, (Sd.lst h2).mono (by omega) (Nat.le_refl _)⟩
  unfold pairV
  rw [lst_no e]
/-- .. with such an element in a pair's place -/
theorem vals_odd {K : PySem.W.Frag} {C : Addr} {H : Hp} {t : Addr} {vs : List V} {row : Row} {zs : List Str} {n : Nat} {v : V} (e : H t = some (.tup (vs.take n ++ [v] ++ vs.drop (n + 1)))) (p : PrsL H vs row) (o : OddE K H v)
    (ok : ∀ p ∈ row, symS p.1 = true ∧ 0 ≤ p.2 ∧ p.2 < 50) (hl : row.length ≤ 4) : Odd5 K C H zs (.ref t) := by
  obtain ⟨o1, o2, d, o3, o4⟩ := o
  have p1 := prs_take n p
  have p2 := prs_drop (n + 1) p
  have r1 : RowS (row.take n) := ⟨fun q hq => (ok q (List.mem_of_mem_take hq)).1, fun q hq => by
    have := ok q (List.mem_of_mem_take hq)
    exact Nat.le_trans (show q.2.natAbs ≤ 50 by omega) (by decide +kernel)⟩
  have r2 : RowS (row.drop (n + 1)) := ⟨fun q hq => (ok q (List.mem_of_mem_drop hq)).1, fun q hq => by
    have := ok q (List.mem_of_mem_drop hq)
    exact Nat.le_trans (show q.2.natAbs ≤ 50 by omega) (by decide +kernel)⟩
  have l1 : (row.take n).length ≤ 4 := by rw [List.length_take]; omega
  have l2 : (row.drop (n + 1)).length ≤ 4 := by rw [List.length_drop]; omega
  have v1 := p1.len
  have v2 := p2.len
  have dp := dpAll_app (dpAll_app (dp_pairs (K := K) p1) (.cons o3 .nil)) (dp_pairs (K := K) p2)
  have sd := SdA.app (SdA.app (sdA_row r1) (SdA.cons o4 SdA.nil)) (sdA_row r2)
  refine ⟨⟨fun _ => False, th_tup (fun z => z) e ?_ ?_, .inl (valsV_bad (x := v) (tupOf_ref e) (by simp) o2)⟩, RpB.data (.tup (SqT.of e) dp) (Sd.tup sd) (by omega) (by decide)⟩
  · rw [List.length_append, List.length_append]
    simp only [List.length_cons, List.length_nil]
    omega
  · intro x hx
    rcases List.mem_append.mp hx with h | h
    · rcases List.mem_append.mp h with h | h
      · exact prs_th p1 r1.sy (fun _ _ z => z) x h
      · obtain rfl : x = v := by simpa using h
        exact o1
    · exact prs_th p2 r2.sy (fun _ _ z => z) x h
theorem vals_none {K : PySem.W.Frag} {C : Addr} {H : Hp} {t : Addr} {zs : List Str} (e : H t = some (.tup [])) (hz : 0 < zs.length) : Odd5 K C H zs (.ref t) := by
  have va : ValsAt H t [] [] := ⟨e, .nil, .nil, fun _ h => (List.not_mem_nil h).elim, by decide⟩
  exact ⟨⟨fun _ => False, va.th, .inr ⟨t, _, _, rfl, va, zs[0]'hz, List.getElem_mem hz, fun h => (List.not_mem_nil h).elim⟩⟩, RpB.tup e .nil ⟨fun _ h => (List.not_mem_nil h).elim, fun _ h => (List.not_mem_nil h).elim⟩ (by decide)⟩
theorem Odd5.perm {K : PySem.W.Frag} {C : Addr} {H : Hp} {zs ys : List Str} {v : V} (p : ∀ z ∈ zs, z ∈ ys) (h : Odd5 K C H zs v) : Odd5 K C H ys v := by
  obtain ⟨⟨A, t, b⟩, r⟩ := h
  refine ⟨⟨A, t, ?_⟩, r⟩
  rcases b with h | ⟨a, xs, q, rfl, va, z, hz, nz⟩
  · exact .inl h
  · exact .inr ⟨a, xs, q, rfl, va, z, p z hz, nz⟩
theorem FormIn.nl {C : Addr} {H H' : Hp} {q : Row} {a dx t y : Addr} {xs : List V} (r : Nl H H') (h : FormIn C H q a dx t y xs) : FormIn C H' q a dx t y xs := by
  refine ⟨r _ _ (fun _ z => by cases z) h.ins, ?_, h.prs.tp fun a xs e => r _ _ (fun _ z => by cases z) e, r _ _ (fun _ z => by cases z) h.sy, h.can, h.rb⟩
  obtain ⟨o, d, f⟩ := h.ft
  exact ⟨o, d, r _ _ (fun _ z => by cases z) f⟩
theorem sym_dash {z : Str} : symS (z ++ Str.ofString "-") = false := by
  cases h : symS (z ++ Str.ofString "-") with
  | false => rfl
  | true =>
    have := sym_signs h 45 (by
      rw [tl_append]
      exact List.mem_append_right _ (by decide +kernel))
    omega
def spOddV (K : PySem.W.Frag) (C : Addr) : Sp := fun vs H Q _ => ∃ (p q : Addr) (zs : List Str), vs = [.ref p, .ref q] ∧ Dr p H ∧ q ≠ p ∧ H q = some (.lst (zs.map V.str)) ∧ 1 ≤ zs.length ∧ zs.length ≤ 4 ∧ (∀ z ∈ zs, nameS z = true) ∧ zs.Nodup ∧
  ∀ v H', Rx [p] H H' → Dr p H' → Odd5 K C H' zs v → Q v H'
end G


namespace G
open PySem PySem.Spec PyProof.Rows L2 StX ClX LamX TL
/-! ### all but the tables stays -/
theorem ext_same {H H' : Hp} (r : Same H H') : ExtN H H' := fun b o e _ => r b o e
theorem ext_then {H H1 H2 : Hp} (a : ExtN H H1) (b : ExtN H1 H2) : ExtN H H2 := fun x o e n => b x o (a x o e n) n
theorem ext_tp {H H' : Hp} (r : ExtN H H') : Tp H H' := fun a xs e => r a _ e (fun _ z => by cases z)
theorem FormAt.ext {C : Addr} {H H' : Hp} {v : V} {q : Row} (r : ExtN H H') (h : FormAt C H v q) : FormAt C H' v q := by
  obtain ⟨a, dx, t, y, xs, e, h⟩ := h
  refine ⟨a, dx, t, y, xs, e, r _ _ h.ins (fun _ z => by cases z), ?_, h.prs.tp (ext_tp r), r _ _ h.sy (fun _ z => by cases z), h.can, h.rb⟩
  obtain ⟨o, d, f⟩ := h.ft
  exact ⟨o, d, r _ _ f (fun _ z => by cases z)⟩
theorem FormIn.ext {C : Addr} {H H' : Hp} {q : Row} {a dx t y : Addr} {xs : List V} (r : ExtN H H') (h : FormIn C H q a dx t y xs) : FormIn C H' q a dx t y xs := by
  refine ⟨r _ _ h.ins (fun _ z => by cases z), ?_, h.prs.tp (ext_tp r), r _ _ h.sy (fun _ z => by cases z), h.can, h.rb⟩
  obtain ⟨o, d, f⟩ := h.ft
  exact ⟨o, d, r _ _ f (fun _ z => by cases z)⟩
theorem rd_ext {H H' : Hp} {a : Addr} {u : HO} (r : ExtN H H') (n : ∀ ps, u ≠ .tbl ps) (h : Rd H a u) : Rd H' a u := by
  rcases h with h | ⟨o, h⟩
  · exact .inl (r _ _ h n)
  · exact .inr ⟨o, r _ _ h (fun _ z => by cases z)⟩
theorem sql_ext {K : PySem.W.Frag} {H H' : Hp} {a : Addr} {xs : List V} (r : ExtN H H') (h : SqL K H a xs) : SqL K H' a xs := by
  rcases h with h | h
  · exact .inl (rd_ext r (fun _ z => by cases z) h)
  · exact .inr h
theorem sqt_ext {K : PySem.W.Frag} {H H' : Hp} {a : Addr} {xs : List V} (r : ExtN H H') (h : SqT K H a xs) : SqT K H' a xs := by
  rcases h with h | h
  · exact .inl (rd_ext r (fun _ z => by cases z) h)
  · exact .inr h
mutual
theorem dp_ext {K : PySem.W.Frag} {H H' : Hp} (r : ExtN H H') : ∀ {d : PyData} {v : V}, Dp K H v d → Dp K H' v d
  | _, _, .non => .non
  | _, _, .bl b => .bl b
  | _, _, .int i => .int i
  | _, _, .str z => .str z
  | _, _, .lst h a => .lst (sql_ext r h) (dpAll_ext r a)
  | _, _, .tup h a => .tup (sqt_ext r h) (dpAll_ext r a)
theorem dpAll_ext {K : PySem.W.Frag} {H H' : Hp} (r : ExtN H H') : ∀ {ds : List PyData} {vs : List V}, DpAll K H vs ds → DpAll K H' vs ds
  | _, _, .nil => .nil
  | _, _, .cons h t => .cons (dp_ext r h) (dpAll_ext r t)
end
theorem Rp.ext {K : PySem.W.Frag} {C : Addr} {H H' : Hp} {v : V} {z : Str} (r : ExtN H H') (h : Rp K C H v z) : Rp K C H' v z := by
  cases h with
  | data h n s e l => exact .data (dp_ext r h) n s e l
  | dct h s e l => exact .dct (r _ _ h (fun _ z => by cases z)) s e l
  | form h l => exact .form (h.ext r) l
  | tup e h l => exact .tup (r _ _ e (fun _ z => by cases z)) (h.ext r) l
  | lst e h l => exact .lst (r _ _ e (fun _ z => by cases z)) (h.ext r) l
/-- where things are known, no table is -/
def NTb (A : Addr → Prop) (H : Hp) : Addr → Prop := fun a => A a ∨ ∃ ps, H a = some (.tbl ps)
theorem th_ntb {A : Addr → Prop} {H : Hp} : ∀ {n : Nat} {v : V}, Th A H n v → Th (NTb A H) H n v := by
  intro n
  induction n with
  | zero =>
    intro v h
    cases v with
    | ref q =>
      obtain ⟨ne, h⟩ := h
      refine ⟨fun z => ?_, h⟩
      rcases z with z | ⟨ps, z⟩
      · exact ne z
      · rcases h with ⟨xs, h⟩ | ⟨xs, h⟩ | ⟨xs, h⟩ <;> (rw [z] at h; cases h)
    | _ => exact h
  | succ n ih =>
    intro v h
    cases v with
    | ref q =>
      obtain ⟨ne, h⟩ := h
      refine ⟨fun z => ?_, ?_⟩
      · rcases z with z | ⟨ps, z⟩
        · exact ne z
        · rcases h with ⟨xs, h⟩ | ⟨xs, h⟩ | ⟨xs, h, _⟩ <;> (rw [z] at h; cases h)
      · rcases h with h | h | ⟨xs, h, l, a⟩
        · exact .inl h
        · exact .inr (.inl h)
        · exact .inr (.inr ⟨xs, h, l, fun x hx => ih (a x hx)⟩)
    | _ => exact h
theorem ext_ag {A : Addr → Prop} {H H' : Hp} (r : ExtN H H') : Ag (NTb A H) H H' := fun a o n e => r a o e fun ps z => n (.inr ⟨ps, by rw [e, z]⟩)
theorem vals_ag {H H' : Hp} {A : Addr → Prop} {v : V} (r : Ag A H H') (t : Th A H 2 v) : valsV H' v = valsV H v := by
  have e := tupOf_stab r t
  cases q : tupOf H v with
  | none => rw [valsV_none q, valsV_none (by rw [e]; exact q)]
  | some xs =>
    obtain ⟨a, rfl, ha⟩ := tupOf_at q
    obtain ⟨_, hx⟩ := t.tup ha
    have e1 : ∀ x ∈ xs, pairV H' x = pairV H x := fun x m => by
      unfold pairV
      rw [tupOf_stab r (hx x m)]
    have e2 : ∀ x ∈ xs, keyV H' x = keyV H x := fun x m => by
      unfold keyV
      rw [tupOf_stab r (hx x m)]
    rw [valsV_some q, valsV_some (by rw [e]; exact q)]
    have h1 : xs.all (pairV H') = xs.all (pairV H) := by
      rw [Bool.eq_iff_iff, List.all_eq_true, List.all_eq_true]
      exact ⟨fun h x m => (e1 x m) ▸ h x m, fun h x m => (e1 x m).symm ▸ h x m⟩
    have h2 : xs.map (keyV H') = xs.map (keyV H) := List.map_congr_left e2
    rw [h1, h2]
theorem ValsAt.tp {H H' : Hp} {t : Addr} {xs : List V} {r : Row} (s : Tp H H') (h : ValsAt H t xs r) : ValsAt H' t xs r := ⟨s _ _ h.tu, h.prs.tp s, h.asc, h.ok, h.len⟩
theorem BadV.ext {H H' : Hp} {zs : List Str} {v : V} (r : ExtN H H') (h : BadV H zs v) : BadV H' zs v := by
  obtain ⟨A, t, h⟩ := h
  have t' := th_ntb t
  refine ⟨NTb A H, t'.stab (ext_ag r), ?_⟩
  rcases h with h | ⟨a, xs, q, rfl, va, z, hz, nz⟩
  · exact .inl (by rw [vals_ag (ext_ag r) t']; exact h)
  · exact .inr ⟨a, xs, q, rfl, va.tp (ext_tp r), z, hz, nz⟩
theorem BadV.perm {H : Hp} {zs ys : List Str} {v : V} (p : ∀ z ∈ zs, z ∈ ys) (h : BadV H zs v) : BadV H ys v := by
  obtain ⟨A, t, h⟩ := h
  refine ⟨A, t, ?_⟩
  rcases h with h | ⟨a, xs, q, rfl, va, z, hz, nz⟩
  · exact .inl h
  · exact .inr ⟨a, xs, q, rfl, va, z, p z hz, nz⟩
theorem th_ext {A : Addr → Prop} {H H' : Hp} {n : Nat} {v : V} (r : ExtN H H') (h : Th A H n v) : Th (NTb A H) H' n v := (th_ntb h).stab (ext_ag r)
theorem NoI.ext {C : Addr} {H H' : Hp} {v : V} (r : ExtN H H') (h : NoI C H v) : NoI C H' v := by
  rcases h with ⟨A, t, e⟩ | ⟨q, f⟩
  · exact .inl ⟨_, th_ext r t, e⟩
  · exact .inr ⟨q, f.ext r⟩
theorem Dr.ext {p : Addr} {H H' : Hp} (r : ExtN H H') (d : Dr p H) : Dr p H' := by
  obtain ⟨s, dd, c, e, h⟩ := d
  exact ⟨s, dd, c, r _ _ e (fun _ z => by cases z), h⟩
/-- all but p and the tables stays -/
def Rt (p : Addr) (H H' : Hp) : Prop := ∀ b o, H b = some o → b ≠ p → (∀ ps, o ≠ .tbl ps) → H' b = some o
theorem Rt.trans {p : Addr} {H H1 H2 : Hp} (a : Rt p H H1) (b : Rt p H1 H2) : Rt p H H2 := fun x o e n m => b x o (a x o e n m) n m
theorem Rt.rx {p : Addr} {H H' : Hp} (r : Rx [p] H H') : Rt p H H' := fun b o e n _ => r b o (by simpa using n) e
theorem Rt.ext {p : Addr} {H H' : Hp} (r : ExtN H H') : Rt p H H' := fun b o e _ m => r b o e m
theorem Rt.refl {p : Addr} {H : Hp} : Rt p H H := fun _ _ e _ _ => e
theorem tabs_same {T : List (Addr × Str)} {H H' : Hp} (r : Same H H') (t : Tabs T H) : Tabs T H' := fun p hp => by
  obtain ⟨ps, e, o, h⟩ := t p hp
  refine ⟨ps, r _ _ e, o, fun pos cv hc => ?_⟩
  obtain ⟨c, rfl, ec⟩ := h pos cv hc
  exact ⟨c, rfl, r _ _ ec⟩
theorem tabs_rx {T : List (Addr × Str)} {p : Addr} {H H' : Hp} (d : Dr p H) (r : Rx [p] H H') (t : Tabs T H) : Tabs T H' := fun q hq => by
  obtain ⟨_, _, _, ep, _⟩ := d
  obtain ⟨ps, e, o, h⟩ := t q hq
  have n : ∀ {b : Addr} {u : HO}, H b = some u → (∀ xs, u ≠ .lst xs) → b ∉ [p] := fun {b u} eb nl z => by
    have z : b = p := by simpa using z
    rw [z, ep] at eb
    cases eb
    exact nl _ rfl
  refine ⟨ps, r _ _ (n e fun _ z => by cases z) e, o, fun pos cv hc => ?_⟩
  obtain ⟨c, rfl, ec⟩ := h pos cv hc
  exact ⟨c, rfl, r _ _ (n ec fun _ z => by cases z) ec⟩
theorem tabs0 {T : List (Addr × Str)} {H : Hp} (h : ∀ p ∈ T, H p.1 = some (.tbl #[])) : Tabs T H := fun p hp =>
  ⟨#[], h p hp, by trivial, fun pos cv hc => by cases hc⟩
/-! ### told of a lambda that raises -/
theorem s_lam {T : List (Addr × Str)} {TT : (XK → Hp → VK → Prop) → Hp → VK → Prop} {t : XK → TE} {σ : L2.St} {H : Hp} {Q : VK} (hT : Tabs T H) (h : ∀ H1, ExtN H H1 → Tabs T H1 → TT (fun E H' Q' => t E σ H' Q') H1 Q) : tLam T TT t σ H Q := ⟨hT, h⟩
theorem same_new {H : Hp} {a : Addr} {o : HO} (h : H a = none) : Same H (upd H a o) := fun b u e => by
  rw [upd_ne (ne_of_none e h)]
  exact e
theorem Rs.mk {K : PySem.W.Frag} {C XI XN XF XV XA XT XS XR XL D : Addr} {H : Hp} {Q : VK} {E : XK} {i : Nat} {v : V} {z : Str} (hE : ∀ cls d H', E5 K C XI XN XF XV XA XT XS XR XL Q cls d H' → E cls d H')
    (er : Er5 K XI XN XF XV XA XT XS XR XL D i) (ek : ExK K D) (xf : XfC K D) (no : PySem.W.findIn K (.ref D) "value" = some none) (rp : Rp K C H v z) (zl : z.length ≤ 100000)
    (k : ∀ q H', H q = none → Same H H' → H' q = some (.lst [.str (kindN i), .str z]) → Q (.ref q) H') : Rs D v H E := fun d H' s n =>
  hE _ _ _ ⟨D, d, v, z, i, rfl, rfl, upd_same, er, ek, xf, no, (rp.same s).same (same_new n), zl, fun q H'' nq r e => k q H'' (s.free (Same.free (same_new n) nq)) ((s.trans (same_new n)).trans r) e⟩
/-- what a lambda that makes a form with wrong keywords is wished to do -/
theorem kwX {K : PySem.W.Frag} {C XI XN XF XV XA XT XS XR XL D : Addr} {H1 : Hp} {Q : VK} {Q' : Addr → VK} {E : XK} {i : Nat} {z : Str} {ys : List (Str × V)} {y : V} (hE : ∀ cls d H', E5 K C XI XN XF XV XA XT XS XR XL Q cls d H' → E cls d H') (hD : (if i = 0 then XN else XF) = D)
    (er : Er5 K XI XN XF XV XA XT XS XR XL D i) (ek : ExK K D) (xf : XfC K D) (no : PySem.W.findIn K (.ref D) "value" = some none)
    (ho : ∀ p ∈ ys, (p.1 == "own_form") = false) (nd : (ys.map (·.1)).Nodup) (hl : ys.length ≤ 100) (hy : ∀ p ∈ ys, p.1.length ≤ 100 ∧ ∀ A H', Same H1 H' → (∀ a, A a → H1 a = none) → Th A H' 0 p.2) (hb : badK ys = some (i, y))
    (rp : ∀ H', Rp K C H' y z) (zl : z.length ≤ 100000) (k : ∀ q H', H1 q = none → Same H1 H' → H' q = some (.lst [.str (kindN i), .str z]) → Q (.ref q) H') :
    ∀ x dx, H1 x = none → H1 dx = none → dx ≠ x → spMakeX XN XF [.ref x] ys (upd (upd H1 dx (.own x)) x (.ins C dx [])) (Q' x) E := by
  intro x dx hx hdx ne
  have s0 : Same H1 (upd (upd H1 dx (.own x)) x (.ins C dx [])) := (same_new hdx).trans (same_new (by rw [upd_ne (Ne.symm ne)]; exact hx))
  generalize upd (upd H1 dx (.own x)) x (.ins C dx []) = H0 at s0
  refine ⟨_, rfl, ho, nd, sz1 (by omega), fun d hd => ?_⟩
  have h1d := s0.free hd
  have s1 := s0.trans (same_new (o := .dK (inrs ys)) hd)
  refine ⟨x, d, ys, i, y, rfl, upd_same, nd, hl, fun p hp => ⟨(hy p hp).1, (hy p hp).2 _ _ s1 (fun a e => by rw [e]; exact h1d)⟩, hb, fun dd H' r n => ?_⟩
  rw [hD]
  refine hE _ _ _ ⟨D, dd, y, z, i, rfl, rfl, upd_same, er, ek, xf, no, rp _, zl, fun q H'' nq r2 e => ?_⟩
  have n1 : H' q = none := Same.free (same_new n) nq
  have r3 : Same H' H'' := (same_new n).trans r2
  refine k q H'' ?_ ?_ e
  · by_cases hq : q = d
    · rw [hq]; exact h1d
    · have h2 := r.free (by simpa using hq) n1
      exact s1.free h2
  · intro b o eb
    have nb : b ≠ d := ne_of_none eb h1d
    exact r3 _ _ (r _ _ (by simpa using nb) (s1 _ _ eb))
/-! ### what is told, compared -/
def two (p : Str × Str) : PyData := .list [.str p.1, .str p.2]
theorem two_plain (p : Str × Str) : (two p).plain = true := rfl
theorem two_depth (p : Str × Str) : (two p).depth ≤ 60 := by
  unfold two
  simp only [PyData.depth, PyData.depthAll]
  decide
theorem s_neP2 {K : PySem.W.Frag} {H : Hp} {Q : VK} {a b : Addr} {k z : Str} (h1 : H a = some (.lst [.str k, .str z])) (h2 : H b = some (.lst [.str k, .str z])) (h : Q (.bl false) H) : rNeP K (.ref a) (.ref b) H Q := by
  refine ⟨two (k, z), two (k, z), .lst (SqL.of h1) (.cons (.str _) (.cons (.str _) .nil)), .lst (SqL.of h2) (.cons (.str _) (.cons (.str _) .nil)), two_plain _, two_plain _, two_depth _, ?_⟩
  rw [PySem.SeqAt.eqv_refl_plain _ (two_plain _)]
  exact h
/-- a list of what was told -/
def TL (H : Hp) (L : Addr) (ps : List (Str × Str)) : Prop := ∃ ls : List Addr, H L = some (.lst (ls.map V.ref)) ∧ Paired (fun l (p : Str × Str) => l ≠ L ∧ H l = some (.lst [.str p.1, .str p.2])) ls ps
theorem paired_imp {α β : Type} {R R' : α → β → Prop} (h : ∀ a b, R a b → R' a b) : ∀ {xs : List α} {ys : List β}, Paired R xs ys → Paired R' xs ys
  | _, _, .nil => .nil
  | _, _, .cons a t => .cons (h _ _ a) (paired_imp h t)
theorem TL.ext {H H' : Hp} {L : Addr} {ps : List (Str × Str)} (r : ExtN H H') (h : TL H L ps) : TL H' L ps := by
  obtain ⟨ls, e, p⟩ := h
  exact ⟨ls, r _ _ e (fun _ z => by cases z), paired_imp (fun a b h => ⟨h.1, r _ _ h.2 (fun _ z => by cases z)⟩) p⟩
theorem TL.same {H H' : Hp} {L : Addr} {ps : List (Str × Str)} (r : Same H H') (h : TL H L ps) : TL H' L ps := h.ext (ext_same r)
theorem TL.one {H : Hp} {L l : Addr} {k z : Str} (e : H L = some (.lst [.ref l])) (h : H l = some (.lst [.str k, .str z])) (n : l ≠ L) : TL H L [(k, z)] := ⟨[l], e, .cons ⟨n, h⟩ .nil⟩
theorem s_appTL {H : Hp} {Q : VK} {L l : Addr} {k z : Str} {ps : List (Str × Str)} (t : TL H L ps) (hl : ps.length ≤ 1000) (nl : l ≠ L) (e : H l = some (.lst [.str k, .str z])) (h : ∀ H', (∀ a, a ≠ L → H' a = H a) → TL H' L (ps ++ [(k, z)]) → Q .non H') : rAppend (.ref L) [.ref l] H Q := by
  obtain ⟨ls, e0, p⟩ := t
  have hp := paired_len p
  refine s_app e0 (sz2 (by rw [List.length_map]; omega)) (h _ (fun a n => upd_ne n) ⟨ls ++ [l], ?_, Paired.snoc (paired_imp (fun a b h => ⟨h.1, by rw [upd_ne h.1]; exact h.2⟩) p) ⟨nl, by rw [upd_ne nl]; exact e⟩⟩)
  rw [upd_same, List.map_append]
  rfl
theorem TL.dp {K : PySem.W.Frag} {H : Hp} {L : Addr} {ps : List (Str × Str)} (t : TL H L ps) : Dp K H (.ref L) (.list (ps.map two)) := by
  obtain ⟨ls, e, p⟩ := t
  refine .lst (SqL.of e) ?_
  clear e
  induction p with
  | nil => exact .nil
  | cons a t ih => exact .cons (.lst (SqL.of a.2) (.cons (.str _) (.cons (.str _) .nil))) ih
theorem s_catT {K : PySem.W.Frag} {H : Hp} {Q : VK} {a b : Addr} {xs ys : List V} (h1 : H a = some (.tup xs)) (h2 : H b = some (.tup ys)) (n : xs ≠ []) (m : ys ≠ []) (hl : xs.length + ys.length ≤ sizeLine) (h : ∀ p H', H p = none → Same H H' → H' p = some (.tup (xs ++ ys)) → Q (.ref p) H') : rCatT K (.ref a) (.ref b) H Q :=
  ⟨a, b, xs, ys, rfl, rfl, SqT.of h1, SqT.of h2, n, hl, fun e => (m e).elim, fun _ p hp => h p _ hp (same_new hp) upd_same⟩
theorem ext_but {H B D : Hp} {L : Addr} (nL : ∀ o, H L = some o → (∀ ps, o ≠ .tbl ps) → False) (hC : ∀ a, a ≠ L → D a = B a) (x : ExtN H B) : ExtN H D := fun b o e n => by
  have nb : b ≠ L := fun z => nL o (by rw [← z]; exact e) n
  rw [hC b nb]
  exact x b o e n
theorem tabs_but {T : List (Addr × Str)} {B D : Hp} {L : Addr} {ps : List (Str × Str)} (t : TL B L ps) (hC : ∀ a, a ≠ L → D a = B a) (h : Tabs T B) : Tabs T D := fun p hp => by
  obtain ⟨ls, e0, _⟩ := t
  obtain ⟨qs, e, o, h⟩ := h p hp
  have n : ∀ {b : Addr} {u : HO}, B b = some u → (∀ xs, u ≠ .lst xs) → D b = some u := fun {b u} eb nl => by
    rw [hC b (fun z => by rw [z, e0] at eb; cases eb; exact nl _ rfl)]
    exact eb
  refine ⟨qs, n e (fun _ z => by cases z), o, fun pos cv hc => ?_⟩
  obtain ⟨c, rfl, ec⟩ := h pos cv hc
  exact ⟨c, rfl, n ec (fun _ z => by cases z)⟩
theorem rp_lit {K : PySem.W.Frag} {C : Addr} {H : Hp} {v : V} {d : PyData} {z : Str} (h : Dp K H v d) (e : d.shown = z ∧ d.hasDict = false ∧ d.showable = true ∧ d.depth ≤ 60 ∧ z.length ≤ 100) : Rp K C H v z := by
  obtain ⟨rfl, h1, h2, h3, h4⟩ := e
  exact .data h h1 h2 h3 (sz1 (by omega))
theorem passL2 {X : Cx} {A : Around} {outer : List Env} {s : Shared} {H : Hp} {E : XK} {scope : Scope} {f c' : Addr} : Passes (L2.CX (lamCx X A outer s H E scope f c').prog (lamCx X A outer s H E scope f c').w) (lamCx X A outer s H E scope f c') E := passL (X := X) (A := A) (outer := outer) (s := s) (H := H) (E := E) (scope := scope) (f := f) (c' := c')
/-! ### promises -/
abbrev lq (x : Str) : Str := x ++ ".<locals>." ++ "<lambda>"
def spRight5 (P : Addr) : Sp := fun vs H Q _ => ∃ (p : Addr) (TS : List (Addr × Str)), vs = [.ref p] ∧ Dr p H ∧ Tabs TS H ∧ (P, lq "_law_right") ∈ TS ∧ (∀ q ∈ TS, q.1 = P → q.2 = lq "_law_right") ∧ ∀ H', Rt p H H' → Dr p H' → Tabs TS H' → Q (.bl true) H'
def spKw5 (P : Addr) : Sp := fun vs H Q _ => ∃ TS : List (Addr × Str), vs = [] ∧ Tabs TS H ∧ (P, lq "_law_keywords_right") ∈ TS ∧ (∀ q ∈ TS, q.1 = P → q.2 = lq "_law_keywords_right") ∧ ∀ H', ExtN H H' → Tabs TS H' → Q (.bl true) H'
def spLaw5 (K : PySem.W.Frag) (P1 P2 : Addr) : Sp := fun vs H Q _ => ∃ (a : Addr) (ns : List Int), vs = [.ref a] ∧ SqL K H a (ns.map V.int) ∧ ns.length ≤ 63 ∧ H P1 = some (.tbl #[]) ∧ H P2 = some (.tbl #[]) ∧ ∀ H', Q (.bl true) H'
end G


namespace G
open PySem PySem.Spec PyProof.Rows L2 StX ClX LamX TL
theorem RpB.ext {K : PySem.W.Frag} {C : Addr} {H H' : Hp} {v : V} (r : ExtN H H') (h : RpB K C H v) : RpB K C H' v := by
  obtain ⟨z, a, b⟩ := h
  exact ⟨z, a.ext r, b⟩
theorem reprR_le {q : Row} {n : Nat} (h : (textR q).length ≤ n) : (reprR q).length ≤ n + 6 := by
  unfold reprR
  rw [strLen_append, strLen_append]
  have e1 : ("Form(" : Str).length = 5 := by decide +kernel
  have e2 : (")" : Str).length = 1 := by decide +kernel
  first | (rw [e1, e2]; omega) | omega
theorem menu5 {K : PySem.W.Frag} {C : Addr} {H : Hp} {l1 l2 l3 l4 l5 : Addr} {f : V} {row : Row} (e1 : H l1 = some (.tup [])) (e2 : H l2 = some (.lst [])) (e3 : H l3 = some (.dK [])) (e4 : H l4 = some (.tup [f])) (e5 : H l5 = some (.lst [f])) (fa : FormAt C H f row)
    (hx : (textR row).length ≤ 1000) (ha : asc (textR row)) : ∀ v ∈ [V.non, .bl true, .bl false, .str "a", .ref l1, .ref l2, .ref l3, .ref l4, .ref l5, .str (textR row), .int 5], RpB K C H v ∧ Th (fun _ => False) H 0 v ∧ (v = .int 5 ∨ isI v = false) := by
  have hr := reprR_le hx
  intro v hv
  simp only [List.mem_cons, List.not_mem_nil, or_false] at hv
  rcases hv with rfl | rfl | rfl | rfl | rfl | rfl | rfl | rfl | rfl | rfl | rfl
  · exact ⟨RpB.data .non Sd.non (by decide) (by decide), trivial, .inr rfl⟩
  · exact ⟨RpB.data (.bl _) (Sd.bl _) (by decide) (by decide), trivial, .inr rfl⟩
  · exact ⟨RpB.data (.bl _) (Sd.bl _) (by decide) (by decide), trivial, .inr rfl⟩
  · exact ⟨RpB.data (.str _) (Sd.str (by decide +kernel)) (by decide) (by decide), (show (Str.ofString "a").length ≤ 100000 by decide), .inr rfl⟩
  · exact ⟨RpB.data (.tup (SqT.of e1) .nil) (Sd.tup (n := 0) SdA.nil) (by decide) (by decide), ⟨fun z => z, .inr (.inr ⟨_, e1⟩)⟩, .inr rfl⟩
  · exact ⟨RpB.data (.lst (SqL.of e2) .nil) (Sd.lst (n := 0) SdA.nil) (by decide) (by decide), ⟨fun z => z, .inl ⟨_, e2⟩⟩, .inr rfl⟩
  · exact ⟨RpB.dct (r := []) e3 ⟨fun _ h => (List.not_mem_nil h).elim, fun _ h => (List.not_mem_nil h).elim⟩ (by decide), ⟨fun z => z, .inr (.inl ⟨_, e3⟩)⟩, .inr rfl⟩
  · refine ⟨⟨_, .tup e4 fa (by omega), ?_⟩, ⟨fun z => z, .inr (.inr ⟨_, e4⟩)⟩, .inr rfl⟩
    have := tupleText_len_le [reprR row]
    simp only [List.map_cons, List.map_nil, List.sum_cons, List.sum_nil, List.length_cons, List.length_nil] at this
    omega
  · refine ⟨⟨_, .lst e5 fa (by omega), ?_⟩, ⟨fun z => z, .inl ⟨_, e5⟩⟩, .inr rfl⟩
    have := listText_len_le [reprR row]
    simp only [List.map_cons, List.map_nil, List.sum_cons, List.sum_nil, List.length_cons, List.length_nil] at this
    omega
  · exact ⟨RpB.data (.str _) (Sd.str ha) (by omega) (by decide), (show (textR row).length ≤ 100000 by omega), .inr rfl⟩
  · exact ⟨RpB.data (.int _) (Sd.int (by decide +kernel)) (by decide) (by decide), trivial, .inl rfl⟩
theorem RpB.form {K : PySem.W.Frag} {C : Addr} {H : Hp} {f : V} {row : Row} (fa : FormAt C H f row) (hx : (textR row).length ≤ 1000) : RpB K C H f := ⟨_, .form fa (by omega), by have := reprR_le hx; omega⟩
/-- the good values: 2 each -/
theorem eval_two {q : Row} {ys : List Str} (h : keysR q = ys) (nd : ys.Nodup) : evalR q (ys.map fun z => (z, (2 : Int))) = 2 * (q.map (·.2)).sum := by
  have nd2 : (keysR (ys.map fun z => (z, (2 : Int)))).Nodup := by
    unfold keysR
    rw [List.map_map]
    have : ((fun x : Str × Int => x.1) ∘ fun z => (z, (2 : Int))) = id := rfl
    rw [this, List.map_id]
    exact nd
  have e : ∀ p ∈ q, p.2 * fac (ys.map fun z => (z, (2 : Int))) p.1 = p.2 * 2 := fun p hp => by
    have hm : (p.1, (2 : Int)) ∈ ys.map fun z => (z, (2 : Int)) := List.mem_map_of_mem (by rw [← h]; exact mem_keys hp)
    have := fac_mem nd2 hm
    rw [this]
  unfold evalR
  rw [List.map_congr_left e]
  clear h e nd nd2
  induction q with
  | nil => rfl
  | cons p r ih =>
    rw [List.map_cons, List.sum_cons, ih, List.map_cons, List.sum_cons]
    omega
theorem keys_two (ys : List Str) : keysR (ys.map fun z => (z, (2 : Int))) = ys := by
  unfold keysR
  rw [List.map_map]
  exact List.map_id _
/-- the script, apart from what is written -/
def ScrAt (K : PySem.W.Frag) (M : List Addr) (H : Hp) (a : Addr) (xs : List V) : Prop := (a ∉ M ∧ Rd H a (.lst xs)) ∨
    ∃ (o : Obj) (its : Array Value) (n : Nat), K.lookup a = some o ∧ o.cls = .type "list" ∧ o.dict = none ∧ o.data = .seq its n ∧ its.size ≤ sizeLine ∧ Vals xs its.toList
theorem ScrAt.sql {K : PySem.W.Frag} {M : List Addr} {H : Hp} {a : Addr} {xs : List V} (h : ScrAt K M H a xs) : SqL K H a xs := by
  rcases h with ⟨_, h⟩ | h
  · exact .inl h
  · exact .inr h
theorem scr_of {K : PySem.W.Frag} {H H' : Hp} {a p : Addr} {xs : List V} (h : SqL K H a xs) (r : Same H H') (n : H p = none) : ScrAt K [p] H' a xs := by
  rcases h with h | h
  · refine .inl ⟨fun z => ?_, ?_⟩
    · have z : a = p := by simpa using z
      rcases h with h | ⟨o, h⟩ <;> (rw [z, n] at h; cases h)
    · rcases h with h | ⟨o, h⟩
      · exact .inl (r _ _ h)
      · exact .inr ⟨o, r _ _ h⟩
  · exact .inr h
theorem ScrAt.new {K : PySem.W.Frag} {M : List Addr} {H : Hp} {a D : Addr} {o : HO} {xs : List V} (h : ScrAt K M H a xs) (n : H D = none) : ScrAt K (D :: M) (upd H D o) a xs := by
  rcases h with ⟨m, h⟩ | h
  · have nD : a ≠ D := fun z => by rcases h with h | ⟨o, h⟩ <;> (rw [z, n] at h; cases h)
    refine .inl ⟨fun z => (List.mem_cons.mp z).elim nD m, ?_⟩
    rcases h with h | ⟨o, h⟩
    · exact .inl (by rw [upd_ne nD]; exact h)
    · exact .inr ⟨o, by rw [upd_ne nD]; exact h⟩
  · exact .inr h
theorem ScrAt.rt {K : PySem.W.Frag} {M : List Addr} {H H' : Hp} {a p : Addr} {xs : List V} (h : ScrAt K M H a xs) (r : Rt p H H') (m : p ∈ M) : ScrAt K M H' a xs := by
  rcases h with ⟨n, h⟩ | h
  · refine .inl ⟨n, ?_⟩
    have np : a ≠ p := fun z => n (by rw [z]; exact m)
    rcases h with h | ⟨o, h⟩
    · exact .inl (r _ _ h np (fun _ z => by cases z))
    · exact .inr ⟨o, r _ _ h np (fun _ z => by cases z)⟩
  · exact .inr h
theorem ScrAt.upd {K : PySem.W.Frag} {M : List Addr} {H : Hp} {a D : Addr} {o : HO} {xs : List V} (h : ScrAt K M H a xs) (m : D ∈ M) : ScrAt K M (upd H D o) a xs := by
  rcases h with ⟨n, h⟩ | h
  · refine .inl ⟨n, ?_⟩
    have np : a ≠ D := fun z => n (by rw [z]; exact m)
    rcases h with h | ⟨o, h⟩
    · exact .inl (by rw [upd_ne np]; exact h)
    · exact .inr ⟨o, by rw [upd_ne np]; exact h⟩
  · exact .inr h
theorem tabs_upd {T : List (Addr × Str)} {H : Hp} {D : Addr} {ys : List V} {o : HO} (e0 : H D = some (.lst ys)) (h : Tabs T H) : Tabs T (upd H D o) := fun p hp => by
  obtain ⟨qs, e, q, h⟩ := h p hp
  have n : ∀ {b : Addr} {u : HO}, H b = some u → (∀ xs, u ≠ .lst xs) → upd H D o b = some u := fun {b u} eb nl => by
    rw [upd_ne (fun z => by rw [z, e0] at eb; cases eb; exact nl _ rfl)]
    exact eb
  refine ⟨qs, n e (fun _ z => by cases z), q, fun pos cv hc => ?_⟩
  obtain ⟨c, rfl, ec⟩ := h pos cv hc
  exact ⟨c, rfl, n ec (fun _ z => by cases z)⟩
end G


namespace K05
open PySem L2 G LamX

local macro_rules | `(tactic| walk_at "ne") => `(tactic| first
  | assumption | (apply Ne.symm; assumption)
  | (simp only [List.mem_cons, List.mem_nil_iff, List.not_mem_nil, or_false, not_or, ne_eq, not_false_eq_true, and_true]; first | assumption | (apply Ne.symm; assumption) | (refine And.intro ?_ ?_ <;> first | assumption | (apply Ne.symm; assumption)))
  | exact List.not_mem_nil)
local macro_rules | `(tactic| walk_at "hp") => `(tactic| first
  | assumption | exact upd_same
  | (refine (by assumption : Same _ _) _ _ ?_; walk_at "hp")
  | (refine (by assumption : Rx _ _ _) _ _ (by walk_at "ne") ?_; walk_at "hp"))
local macro_rules | `(tactic| walk_at "rx") => `(tactic| first
  | assumption | exact Rx.refl _ | exact Rx.same (by assumption)
  | (refine Rx.trans ?_ (by assumption); walk_at "rx")
  | (refine Rx.trans ?_ (Rx.same (by assumption)); walk_at "rx"))
local macro_rules | `(tactic| walk_at "sm") => `(tactic| first
  | assumption | exact Same.refl _ | (refine Same.trans ?_ (by assumption); walk_at "sm"))
local macro_rules | `(tactic| walk_at "dr") => `(tactic| first
  | assumption | (refine Dr.same (by assumption) ?_; walk_at "dr"))
local macro_rules | `(tactic| walk_at "sq") => `(tactic| first
  | assumption
  | exact SqL.of (by walk_at "hp") | exact SqT.of (by walk_at "hp"))
local macro_rules | `(tactic| walk_at "side") => `(tactic| first
  | assumption | rfl | decide | omega | (show (0 : Int) < _; omega) | (exact And.intro (by omega) (by omega))
  | (unfold CMul; omega) | (unfold CDiv; omega) | (unfold CPow; decide) | (exact sz1 (by omega)) | (exact sz1 (by simp only [len_app]; omega)) | (exact sz1 (by simp; done)) | (exact sz1 (by simp; omega)))
local macro_rules | `(tactic| walk_at "go1") => `(tactic| first
  | with_reducible refine s_seq ?_
  | with_reducible refine s_next ?_
  | with_reducible refine s_asg ?_
  | with_reducible refine s_par ?_
  | with_reducible refine s_ret ?_
  | with_reducible refine s_retN ?_
  | with_reducible refine s_if ?_
  | with_reducible refine s_drop ?_
  | ((with_reducible refine' s_gnE ?ge ?_); (case ge => (simp only [List.set_cons_succ, List.set_cons_zero]; rfl)))
  | with_reducible refine s_gn ?_
  | with_reducible refine s_gsub ?_
  | with_reducible refine s_c ?_
  | with_reducible refine s_op ?_
  | with_reducible refine s_un ?_
  | with_reducible refine s_test ?_
  | with_reducible refine s_tB ?_
  | with_reducible refine s_and ?_
  | with_reducible refine s_or ?_
  | with_reducible refine s_not ?_
  | with_reducible refine s_andV ?_
  | with_reducible refine s_orV ?_
  | with_reducible refine s_notV ?_
  | with_reducible refine s_ifE ?_
  | with_reducible refine s_chain ?_
  | with_reducible refine s_nil ?_
  | with_reducible refine s_cons ?_
  | with_reducible refine s_cb ?_
  | with_reducible refine s_call ?_
  | with_reducible refine s_callZ ?_
  | with_reducible refine s_lst' ?_
  | with_reducible refine s_tup' ?_
  | with_reducible refine s_I0 ?_
  | with_reducible refine s_U ?_
  | with_reducible refine s_int1 ?_
  | with_reducible refine s_abs ?_
  | with_reducible refine s_max2 ?_
  | with_reducible refine s_min2 ?_
  | with_reducible refine s_ltS ?_
  | with_reducible refine s_sign ?_
  | with_reducible refine s_sl ?_
  | with_reducible refine s_noP ?_
  | with_reducible refine s_part ?_
  | with_reducible refine s_revL ?_
  | with_reducible refine s_lc ?_
  | with_reducible refine s_fr ?_
  | with_reducible refine s_iStr ?_
  | with_reducible refine s_iLst ?_
  | with_reducible refine s_iTup ?_
  | with_reducible refine s_iR1 ?_
  | with_reducible refine s_yes ?_
  | with_reducible refine s_dnew ?_
  | with_reducible refine s_bm ?_
  | with_reducible refine s_m1 ?_
  | with_reducible refine s_isStr ?_
  | with_reducible refine s_mkz ?_
  | with_reducible refine s_callX ?_
  | with_reducible refine s_methX ?_
  | with_reducible refine s_mkzX ?_
  | with_reducible refine s_raiseE ?_
  | with_reducible refine s_find ?_
  | with_reducible refine s_iR2 ?_
  | with_reducible refine s_par3 ?_
  | with_reducible refine s_smX ?_
  | with_reducible refine s_jn ?_
  | with_reducible refine s_js0 ?_
  | with_reducible refine s_js ?_
  | with_reducible refine s_fmt ?_
  | with_reducible refine s_fld ?_
  | with_reducible refine s_sfld ?_
  | with_reducible refine s_dget ?_
  | with_reducible refine s_din ?_
  | with_reducible refine s_dget2 ?_
  | with_reducible refine s_dput ?_
  | with_reducible refine s_repl ?_
  | with_reducible refine s_isN ?_
  | with_reducible refine s_tupF ?_
  | with_reducible refine s_bm0 ?_
  | with_reducible refine s_mk2 ?_
  | with_reducible refine s_meth ?_
  | with_reducible refine s_methZ ?_
  | with_reducible refine s_smeth ?_
  | with_reducible refine s_dc ?_
  | with_reducible refine s_keys ?_
  | ((with_reducible refine' s_fldE ?ga ?gb ?gc ?gd ?_); (case ga => walk_at "hp"); (case gb => assumption); (case gc => assumption); (case gd => rfl))
  | ((with_reducible refine' s_g2E ?ga ?ge ?_); (case ga => walk_at "sq"); (case ge => (simp only [List.set_cons_succ, List.set_cons_zero]; rfl)))
  | ((with_reducible refine' s_g2 ?ga ?_); (case ga => walk_at "sq"))
  | ((with_reducible refine' s_g3E ?ga ?ge ?_); (case ga => walk_at "sq"); (case ge => (simp only [List.set_cons_succ, List.set_cons_zero]; rfl)))
  | ((with_reducible refine' s_g3 ?ga ?_); (case ga => walk_at "sq"))
  | ((with_reducible refine' s_u3E ?ga ?ge ?_); (case ga => walk_at "sq"); (case ge => (simp only [List.set_cons_succ, List.set_cons_zero]; rfl)))
  | ((with_reducible refine' s_u3 ?ga ?_); (case ga => walk_at "sq"))
  | ((with_reducible refine' s_jsE ?ga ?_); (case ga => walk_at "side"))
  | ((with_reducible refine' s_fmtS ?ga ?_); (case ga => walk_at "side"))
  | ((with_reducible refine' s_fmtI ?ga ?_); (case ga => assumption))
  | ((with_reducible refine' s_dgetE ?ga ?gb ?_); (case ga => first | exact Rd.of (by walk_at "hp") | exact Or.inr ⟨_, by walk_at "hp"⟩); (case gb => assumption))
  | ((with_reducible refine' s_dinE ?ga ?_); (case ga => first | exact Rd.of (by walk_at "hp") | exact Or.inr ⟨_, by walk_at "hp"⟩))
  | ((with_reducible refine' s_dg1 ?ga ?_); (case ga => walk_at "hp"))
  | ((with_reducible refine' s_dg2 ?ga ?_); (case ga => walk_at "hp"))
  | ((with_reducible refine' s_dputE ?ga ?gb ?_); (case ga => walk_at "hp"); (case gb => omega))
  | ((with_reducible refine' s_keysE ?ga ?_); (case ga => walk_at "hp"))
  | ((with_reducible refine' s_tyD ?ga ?_); (case ga => walk_at "hp"))
  | ((with_reducible refine' s_methPE ?ga ?gb ?_); (case ga => walk_at "hp"); (case gb => rfl))
  | ((with_reducible refine' s_methE ?ga ?gb ?_); (case ga => walk_at "hp"); (case gb => rfl))
  | ((with_reducible refine' s_var ?ga ?_); (case ga => rfl))
  | ((with_reducible refine' s_I ?ga ?_); (case ga => walk_at "side"))
  | ((with_reducible refine' s_eq ?ga ?_); (case ga => first | rfl | assumption))
  | ((with_reducible refine' s_ne ?ga ?_); (case ga => first | rfl | assumption))
  | ((with_reducible refine' s_ixL ?ga ?gb ?_); (case ga => walk_at "sq"); (case gb => first | rfl | assumption))
  | ((with_reducible refine' s_ixT ?ga ?gb ?_); (case ga => walk_at "sq"); (case gb => first | rfl | assumption))
  | ((with_reducible refine' s_setL ?ga ?gb ?_); (case ga => walk_at "hp"); (case gb => first | rfl | assumption))
  | ((with_reducible refine' s_lenL ?ga ?_); (case ga => walk_at "sq"))
  | ((with_reducible refine' s_lenT ?ga ?_); (case ga => walk_at "sq"))
  | ((with_reducible refine' s_lenS ?ga ?_); (case ga => walk_at "side"))
  | ((with_reducible refine' s_addS ?ga ?_); (case ga => walk_at "side"))
  | ((with_reducible refine' s_slS ?ga ?_); (case ga => walk_at "side"))
  | ((with_reducible refine' s_ixS ?ga ?gb ?_); (case ga => walk_at "side"); (case gb => first | rfl | assumption))
  | ((with_reducible refine' s_sz ?ga ?_); (case ga => walk_at "side"))
  | ((with_reducible refine' s_tyL ?ga ?_); (case ga => walk_at "sq"))
  | ((with_reducible refine' s_app ?ga ?gb ?_); (case ga => walk_at "hp"); (case gb => exact sz2 (by first | omega | (simp; omega) | (simp; done))))
  | ((with_reducible refine' s_exL ?ga ?_); (case ga => walk_at "sq"))
  | ((with_reducible refine' s_exT ?ga ?_); (case ga => walk_at "sq"))
  | ((with_reducible refine' s_bd ?ga ?gb ?_); (case ga => omega); (case gb => omega))
  | ((with_reducible refine' s_isiS ?ga ?_); (case ga => assumption))
  | ((with_reducible refine' s_isiI ?ga ?_); (case ga => assumption))
  | ((with_reducible refine' s_isiB ?ga ?_); (case ga => assumption))
  | ((with_reducible refine' s_isiT ?ga ?_); (case ga => assumption))
  | ((with_reducible refine' s_par2E ?ge ?_); (case ge => (simp only [List.set_cons_succ, List.set_cons_zero]; rfl)))
  | ((with_reducible refine' s_par3E ?ge ?_); (case ge => (simp only [List.set_cons_succ, List.set_cons_zero]; rfl)))
  | (with_reducible refine ⟨_, rfl, ?_⟩)
  | (with_reducible refine ⟨_, _, rfl, ?_⟩)
  | (with_reducible refine L2.iteT ?_)
  | (with_reducible refine L2.iteF ?_)
  | (with_reducible refine ite_nf ?_)
  | (with_reducible refine ite_nt ?_))
local macro_rules | `(tactic| walk_at "go") => `(tactic| (repeat walk_at "go1"))
local macro_rules | `(tactic| walk_at "gos") => `(tactic| (repeat ((fail_if_success (with_reducible refine s_seqIf ?_)); walk_at "go1")))
abbrev N__law_cell : List Str := ["_law_script", "_law_k", "_law_mixed", "_law_number"]
theorem sc__law_cell : FnScope N__law_cell ["_law_script", "_law_k"] (defScope s__law_cell) := ⟨rfl, rfl, rfl, by decide +kernel, rfl, by decide +kernel, by decide +kernel⟩
abbrev N__law_heap : List Str := ["_law_number", "_law_digits"]
theorem sc__law_heap : FnScope N__law_heap ["_law_number"] (defScope s__law_heap) := ⟨rfl, rfl, rfl, by decide +kernel, rfl, by decide +kernel, by decide +kernel⟩
abbrev N_InvalidFactor__init_ : List Str := ["self", "value"]
theorem sc_InvalidFactor__init_ : FnScope N_InvalidFactor__init_ ["self", "value"] (defScope s_InvalidFactor__init_) := ⟨rfl, rfl, rfl, by decide +kernel, rfl, by decide +kernel, by decide +kernel⟩
abbrev N_InvalidName__init_ : List Str := ["self", "value"]
theorem sc_InvalidName__init_ : FnScope N_InvalidName__init_ ["self", "value"] (defScope s_InvalidName__init_) := ⟨rfl, rfl, rfl, by decide +kernel, rfl, by decide +kernel, by decide +kernel⟩
abbrev N_is_integer : List Str := ["value"]
theorem sc_is_integer : FnScope N_is_integer ["value"] (defScope s_is_integer) := ⟨rfl, rfl, rfl, by decide +kernel, rfl, by decide +kernel, by decide +kernel⟩
abbrev N_is_name : List Str := ["value", "sign"]
theorem sc_is_name : FnScope N_is_name ["value"] (defScope s_is_name) := ⟨rfl, rfl, rfl, by decide +kernel, rfl, by decide +kernel, by decide +kernel⟩
abbrev N_is_symbol : List Str := ["value"]
theorem sc_is_symbol : FnScope N_is_symbol ["value"] (defScope s_is_symbol) := ⟨rfl, rfl, rfl, by decide +kernel, rfl, by decide +kernel, by decide +kernel⟩
abbrev N_Form__repr_ : List Str := ["self"]
theorem sc_Form__repr_ : FnScope N_Form__repr_ ["self"] (defScope s_Form__repr_) := ⟨rfl, rfl, rfl, by decide +kernel, rfl, by decide +kernel, by decide +kernel⟩
abbrev N_InvalidValues__init_ : List Str := ["self", "value"]
theorem sc_InvalidValues__init_ : FnScope N_InvalidValues__init_ ["self", "value"] (defScope s_InvalidValues__init_) := ⟨rfl, rfl, rfl, by decide +kernel, rfl, by decide +kernel, by decide +kernel⟩
abbrev N_NotAForm__init_ : List Str := ["self", "value"]
theorem sc_NotAForm__init_ : FnScope N_NotAForm__init_ ["self", "value"] (defScope s_NotAForm__init_) := ⟨rfl, rfl, rfl, by decide +kernel, rfl, by decide +kernel, by decide +kernel⟩
abbrev N_is_pair : List Str := ["value"]
theorem sc_is_pair : FnScope N_is_pair ["value"] (defScope s_is_pair) := ⟨rfl, rfl, rfl, by decide +kernel, rfl, by decide +kernel, by decide +kernel⟩
abbrev N_is_values : List Str := ["value", "pair", "at"]
theorem sc_is_values : FnScope N_is_values ["value"] (defScope s_is_values) := ⟨rfl, rfl, rfl, by decide +kernel, rfl, by decide +kernel, by decide +kernel⟩
abbrev N_numbers_of : List Str := ["values", "symbol", "number"]
theorem sc_numbers_of : FnScope N_numbers_of ["values"] (defScope s_numbers_of) := ⟨rfl, rfl, rfl, by decide +kernel, rfl, by decide +kernel, by decide +kernel⟩
abbrev N_check_values : List Str := ["value", "symbols", "numbers", "symbol"]
theorem sc_check_values : FnScope N_check_values ["value", "symbols"] (defScope s_check_values) := ⟨rfl, rfl, rfl, by decide +kernel, rfl, by decide +kernel, by decide +kernel⟩
abbrev N_value_by : List Str := ["form", "numbers", "symbol", "factor"]
theorem sc_value_by : FnScope N_value_by ["form", "numbers"] (defScope s_value_by) := ⟨rfl, rfl, rfl, by decide +kernel, rfl, by decide +kernel, by decide +kernel⟩
abbrev N_Form_evaluate : List Str := ["self", "values"]
theorem sc_Form_evaluate : FnScope N_Form_evaluate ["self", "values"] (defScope s_Form_evaluate) := ⟨rfl, rfl, rfl, by decide +kernel, rfl, by decide +kernel, by decide +kernel⟩
abbrev N_check_form : List Str := ["value"]
theorem sc_check_form : FnScope N_check_form ["value"] (defScope s_check_form) := ⟨rfl, rfl, rfl, by decide +kernel, rfl, by decide +kernel, by decide +kernel⟩
abbrev N_Form__add_ : List Str := ["self", "other", "factors"]
theorem sc_Form__add_ : FnScope N_Form__add_ ["self", "other"] (defScope s_Form__add_) := ⟨rfl, rfl, rfl, by decide +kernel, rfl, by decide +kernel, by decide +kernel⟩
abbrev N_Form__mul_ : List Str := ["self", "other", "factors"]
theorem sc_Form__mul_ : FnScope N_Form__mul_ ["self", "other"] (defScope s_Form__mul_) := ⟨rfl, rfl, rfl, by decide +kernel, rfl, by decide +kernel, by decide +kernel⟩
abbrev N_Form__sub_ : List Str := ["self", "other", "factors"]
theorem sc_Form__sub_ : FnScope N_Form__sub_ ["self", "other"] (defScope s_Form__sub_) := ⟨rfl, rfl, rfl, by decide +kernel, rfl, by decide +kernel, by decide +kernel⟩
abbrev N__law_joined : List Str := ["_law_way", "_law_form", "_law_other"]
theorem sc__law_joined : FnScope N__law_joined ["_law_way", "_law_form", "_law_other"] (defScope s__law_joined) := ⟨rfl, rfl, rfl, by decide +kernel, rfl, by decide +kernel, by decide +kernel⟩
abbrev N__law_told : List Str := ["_law_act", "e", "_law_kinds", "_law_others"]
theorem sc__law_told : FnScope N__law_told ["_law_act"] (defScope s__law_told) := ⟨rfl, rfl, rfl, by decide +kernel, rfl, by decide +kernel, by decide +kernel⟩
abbrev N__law_keywords_right : List Str := ["_law_told_here", "_law_due"]
theorem sc__law_keywords_right : FnScope N__law_keywords_right [] (defScope s__law_keywords_right) := ⟨rfl, rfl, rfl, by decide +kernel, rfl, by decide +kernel, by decide +kernel⟩
abbrev N_Form__str_ : List Str := ["self"]
theorem sc_Form__str_ : FnScope N_Form__str_ ["self"] (defScope s_Form__str_) := ⟨rfl, rfl, rfl, by decide +kernel, rfl, by decide +kernel, by decide +kernel⟩
abbrev N_text_of : List Str := ["terms", "words", "symbol", "factor", "word"]
theorem sc_text_of : FnScope N_text_of ["terms"] (defScope s_text_of) := ⟨rfl, rfl, rfl, by decide +kernel, rfl, by decide +kernel, by decide +kernel⟩
abbrev N_Form__init_ : List Str := ["own_form", "factors", "symbol", "factor"]
theorem sc_Form__init_ : FnScope N_Form__init_ ["own_form", "factors"] (defScope s_Form__init_) := ⟨rfl, rfl, rfl, by decide +kernel, rfl, by decide +kernel, by decide +kernel⟩
abbrev N_term_of : List Str := ["part", "sign", "rest", "number", "star", "symbol", "digit"]
theorem sc_term_of : FnScope N_term_of ["part"] (defScope s_term_of) := ⟨rfl, rfl, rfl, by decide +kernel, rfl, by decide +kernel, by decide +kernel⟩
abbrev N_form_of : List Str := ["text", "factors", "part", "term", "form"]
theorem sc_form_of : FnScope N_form_of ["text"] (defScope s_form_of) := ⟨rfl, rfl, rfl, by decide +kernel, rfl, by decide +kernel, by decide +kernel⟩
abbrev N_Form_read : List Str := ["text", "form"]
theorem sc_Form_read : FnScope N_Form_read ["text"] (defScope s_Form_read) := ⟨rfl, rfl, rfl, by decide +kernel, rfl, by decide +kernel, by decide +kernel⟩
abbrev N__law_roll : List Str := ["_law_heap_here", "_law_many", "_law_digit", "_law_state"]
theorem sc__law_roll : FnScope N__law_roll ["_law_heap_here", "_law_many"] (defScope s__law_roll) := ⟨rfl, rfl, rfl, by decide +kernel, rfl, by decide +kernel, by decide +kernel⟩
abbrev N__law_pick : List Str := ["_law_heap_here", "_law_things"]
theorem sc__law_pick : FnScope N__law_pick ["_law_heap_here", "_law_things"] (defScope s__law_pick) := ⟨rfl, rfl, rfl, by decide +kernel, rfl, by decide +kernel, by decide +kernel⟩
abbrev N__law_name : List Str := ["_law_heap_here", "_law_words", "_law_way", "_law_letters", "_law_more", "_law_name_here", "_law_k"]
theorem sc__law_name : FnScope N__law_name ["_law_heap_here"] (defScope s__law_name) := ⟨rfl, rfl, rfl, by decide +kernel, rfl, by decide +kernel, by decide +kernel⟩
abbrev N__law_names : List Str := ["_law_heap_here", "_law_many", "_law_found", "_law_k", "_law_name_here", "_law_menu", "_law_j", "_law_each"]
theorem sc__law_names : FnScope N__law_names ["_law_heap_here", "_law_many"] (defScope s__law_names) := ⟨rfl, rfl, rfl, by decide +kernel, rfl, by decide +kernel, by decide +kernel⟩
abbrev N__law_odd_values : List Str := ["_law_heap_here", "_law_names_here", "_law_pairs", "_law_at", "_law_name_here", "_law_odd", "_law_menu"]
theorem sc__law_odd_values : FnScope N__law_odd_values ["_law_heap_here", "_law_names_here"] (defScope s__law_odd_values) := ⟨rfl, rfl, rfl, by decide +kernel, rfl, by decide +kernel, by decide +kernel⟩
abbrev N__law_text : List Str := ["_law_terms", "_law_line", "_law_symbol", "_law_factor", "_law_word"]
theorem sc__law_text : FnScope N__law_text ["_law_terms"] (defScope s__law_text) := ⟨rfl, rfl, rfl, by decide +kernel, rfl, by decide +kernel, by decide +kernel⟩
abbrev N__law_right : List Str := ["_law_heap_here", "_law_names_here", "_law_terms", "_law_form", "_law_way", "_law_menu", "_law_odd", "_law_values", "_law_good", "_law_name_here", "_law_factor"]
theorem sc__law_right : FnScope N__law_right ["_law_heap_here"] (defScope s__law_right) := ⟨rfl, rfl, rfl, by decide +kernel, rfl, by decide +kernel, by decide +kernel⟩
abbrev N_law : List Str := ["_law_script", "_law_k", "_law_heap_here", "_law_turn"]
theorem sc_law : FnScope N_law ["_law_script"] (defScope s_law) := ⟨rfl, rfl, rfl, by decide +kernel, rfl, by decide +kernel, by decide +kernel⟩
structure Txt (mg : Str → Option Value) : Prop where
  b_len : mg "len" = none
  b_isinstance : mg "isinstance" = none
  b_str : mg "str" = none
  b_int : mg "int" = none
  b_tuple : mg "tuple" = none
  b_bool : mg "bool" = none
  b_dict : mg "dict" = none
  b_range : mg "range" = none
  b_all : mg "all" = none
  b_sorted : mg "sorted" = none
  b_abs : mg "abs" = none
  b_max : mg "max" = none
  b_min : mg "min" = none
  b_sum : mg "sum" = none
  b_repr : mg "repr" = none
  b_ValueError : mg "ValueError" = none
  c_LETTERS : ∃ t, mg "LETTERS" = some (.str "abcdefghijklmnopqrstuvwxyz" t)
  c_DIGITS : ∃ t, mg "DIGITS" = some (.str "0123456789" t)
  c_MAX_LENGTH : ∃ t, mg "MAX_LENGTH" = some (.int 8 t)
  c_CELL : ∃ t, mg "CELL" = some (.str "@" t)
  c_VIEW : ∃ t, mg "VIEW" = some (.str "view" t)
structure EF (K : PySem.W.Frag) (mg : Str → Option Value) (C : Addr) (X_InputError : Addr) (X_InvalidName : Addr) (X_InvalidFactor : Addr) (X_InvalidValues : Addr) (X_NotAForm : Addr) (X_InvalidText : Addr) (X_StateError : Addr) (X_RunError : Addr) (X_LimitError : Addr) : Prop where
  g_InputError : mg "InputError" = some (.ref X_InputError)
  g_InvalidName : mg "InvalidName" = some (.ref X_InvalidName)
  g_InvalidFactor : mg "InvalidFactor" = some (.ref X_InvalidFactor)
  g_InvalidValues : mg "InvalidValues" = some (.ref X_InvalidValues)
  g_NotAForm : mg "NotAForm" = some (.ref X_NotAForm)
  g_InvalidText : mg "InvalidText" = some (.ref X_InvalidText)
  g_StateError : mg "StateError" = some (.ref X_StateError)
  g_RunError : mg "RunError" = some (.ref X_RunError)
  g_LimitError : mg "LimitError" = some (.ref X_LimitError)
  r_InvalidName : Er5 K X_InputError X_InvalidName X_InvalidFactor X_InvalidValues X_NotAForm X_InvalidText X_StateError X_RunError X_LimitError X_InvalidName 0
  r_InvalidFactor : Er5 K X_InputError X_InvalidName X_InvalidFactor X_InvalidValues X_NotAForm X_InvalidText X_StateError X_RunError X_LimitError X_InvalidFactor 1
  r_InvalidValues : Er5 K X_InputError X_InvalidName X_InvalidFactor X_InvalidValues X_NotAForm X_InvalidText X_StateError X_RunError X_LimitError X_InvalidValues 2
  r_NotAForm : Er5 K X_InputError X_InvalidName X_InvalidFactor X_InvalidValues X_NotAForm X_InvalidText X_StateError X_RunError X_LimitError X_NotAForm 3
  oA : ∀ T ∈ tysB, OwnT K C .Add T
  oS : ∀ T ∈ tysB, OwnT K C .Sub T
  oM : ∀ T ∈ tysB, OwnT K C .Mult T
  kI : PySem.W.kitOne K (.ref C) (.type "int") = some false
section
variable {P : Program} {w : World} {K : PySem.W.Frag} {mg : Str → Option Value} {base : Heap} {C X_InputError X_InvalidName X_InvalidFactor X_InvalidValues X_NotAForm X_InvalidText X_StateError X_RunError X_LimitError P__law_right P__law_keywords_right : Addr}
theorem ok__law_cell (T : Txt mg) (FC : FormC K mg C) (MU : OwnI K C .Mult) (NE : NeC K C) (EF : EF K mg C X_InputError X_InvalidName X_InvalidFactor X_InvalidValues X_NotAForm X_InvalidText X_StateError X_RunError X_LimitError) (D : At K mg "_law_cell" s__law_cell) :
    Has P w K mg base CX0 "_law_cell" s__law_cell ["_law_script", "_law_k"] 1 (G.spCell K) := by
  have nd := sc__law_cell.nd
  refine has_mk D sc__law_cell (fun vs H Q E h => ?len) (fun _ _ _ _ _ _ us hl => match us, hl with | [_, _], _ => rfl) (fun f cdv A outer s H vs Q E hr hgd h => ?bd)
  case len =>
    obtain ⟨a, ns, kk, rfl, _⟩ := h
    rfl
  case bd =>
    obtain ⟨a, ns, kk, rfl, hS, hn, h0, h1, k⟩ := h
    refine ⟨_, (pss_cons (ps_if (pt_cmpR op_lt (pv 1) (pe_callB (lenK K) rfl T.b_len (by decide +kernel) (pa_cons (pv 0) pa_nil)) (nomark _)) (pss_one (ps_ret (pe_callTy c_int1 rfl T.b_int (by decide +kernel) (pa_cons (pe_ix (ixL K) (pv 0) (pv 1) (fun _ _ => rfl)) pa_nil)))) pss_nil)
      (pss_cons (ps_set (i := 2) nd rfl (Or.inl rfl) (pe_op op_add pe_int (pe_op op_mul pe_int (pv 1))))
      (pss_cons (ps_for PassesOwn.never rfl (piL K (he := (pe_slice (slLK K) (pv 0) po_none (po_some pe_int)))) (pg_name (i := 3) nd rfl (Or.inl rfl))
      (pss_one (ps_set (i := 2) nd rfl (Or.inl rfl) (pe_op op_mod (pe_callTy c_int1 rfl T.b_int (by decide +kernel) (pa_cons (pe_op op_add (pe_op op_add (pe_op op_mul (pv 2) pe_int) (pe_callTy c_int1 rfl T.b_int (by decide +kernel) (pa_cons (pv 3) pa_nil))) (pe_op op_mul pe_int (pv 1))) pa_nil)) pe_int))))
      (pss_one (ps_ret (pv 2)))))), ?_⟩
    walk_at "go"
    refine ite_b (fun e => ?_) (fun e => ?_)
    · rw [decide_eq_true_eq] at e
      obtain ⟨v, hv, hm, _⟩ := atI_ofI h0 e
      obtain ⟨i, rfl⟩ := mem_ints hm
      walk_at "go"
      exact k _ _ (Same.refl _)
    · walk_at "go"
      refine s_slL hS fun q H1 hq r1 e1 => ?_
      walk_at "go"
      refine lc_of (walk_list (xs := cutV (ns.map V.int) none (some 4))) (fun i σ H2 => H2 = H1 ∧ ∃ (m : Int) (x : Option V), σ = [some (.ref a), some (.int kk), some (.int m), x] ∧ 0 ≤ m ∧ m < 1099511627776) ⟨rfl, _, _, rfl, by omega, by omega⟩ ?_ ?_ ?_
      · rintro i σ H2 _ ⟨rfl, _⟩
        exact SqL.of e1
      · rintro i x σ H2 H3 hi ⟨rfl, m, o, rfl, m0, m1⟩ ⟨rfl, hx⟩
        obtain ⟨z, rfl⟩ := mem_ints (mem_cut (List.mem_of_getElem? hx))
        walk_at "go"
        exact ⟨rfl, _, _, rfl, Int.emod_nonneg _ (by decide), Int.lt_trans (Int.emod_lt_of_pos _ (by decide)) (by decide)⟩
      · rintro σ H2 ⟨rfl, m, o, rfl, _⟩
        walk_at "go"
        exact k _ _ r1

theorem ok__law_heap (T : Txt mg) (FC : FormC K mg C) (MU : OwnI K C .Mult) (NE : NeC K C) (EF : EF K mg C X_InputError X_InvalidName X_InvalidFactor X_InvalidValues X_NotAForm X_InvalidText X_StateError X_RunError X_LimitError) (D : At K mg "_law_heap" s__law_heap) :
    Has P w K mg base CX0 "_law_heap" s__law_heap ["_law_number"] 1 spHeap := by
  have nd := sc__law_heap.nd
  refine has_mk D sc__law_heap (fun vs H Q E h => ?len) (fun _ _ _ _ _ _ us hl => match us, hl with | [_], _ => rfl) (fun f cdv A outer s H vs Q E hr hgd h => ?bd)
  case len =>
    obtain ⟨m, rfl, _⟩ := h
    rfl
  case bd =>
    obtain ⟨m, rfl, k⟩ := h
    refine ⟨_, (pss_cons (ps_set (i := 1) nd rfl (Or.inl rfl) (pe_ifExp (PW.pt (pw_or (pt_cmpR op_lt (pv 0) pe_int (nomark _)) (pw_or1 (pt_cmpR op_ge (pv 0) (pe_op op_pow pe_int pe_int) (nomark _))))) (pe_callB c_abs rfl T.b_abs (by decide +kernel) (pa_cons (pv 0) pa_nil)) pe_int))
      (pss_one (ps_ret (pe_lst (pa_cons (pe_op op_mod (pe_callTy c_int1 rfl T.b_int (by decide +kernel) (pa_cons (pe_op op_add (pe_op op_mul (pv 0) pe_int) pe_int) pa_nil)) pe_int) (pa_cons (pv 1) (pa_cons pe_int pa_nil))))))), ?_⟩
    walk_at "go"
    refine ite_b (fun e => ?_) (fun e => ?_)
    · walk_at "go"
      refine s_mk fun p H1 hp r e1 => ?_
      refine k p H1 hp r ⟨_, _, _, e1, Int.emod_nonneg _ (by decide), Int.emod_lt_of_pos _ (by decide), ?_⟩
      split <;> omega
    · walk_at "go"
      refine ite_b (fun e => ?_) (fun e => ?_)
      · walk_at "go"
        refine s_mk fun p H1 hp r e1 => ?_
        refine k p H1 hp r ⟨_, _, _, e1, Int.emod_nonneg _ (by decide), Int.emod_lt_of_pos _ (by decide), ?_⟩
        split <;> omega
      · walk_at "go"
        refine s_mk fun p H1 hp r e1 => ?_
        exact k p H1 hp r ⟨_, _, _, e1, Int.emod_nonneg _ (by decide), Int.emod_lt_of_pos _ (by decide), Int.le_refl 0⟩

theorem ok_InvalidFactor__init_ (T : Txt mg) (FC : FormC K mg C) (MU : OwnI K C .Mult) (NE : NeC K C) (EF : EF K mg C X_InputError X_InvalidName X_InvalidFactor X_InvalidValues X_NotAForm X_InvalidText X_StateError X_RunError X_LimitError) (D : AtE K mg "InvalidFactor" "value" X_InvalidFactor "InvalidFactor.__init__" s_InvalidFactor__init_) :
    HasE P w K mg base "InvalidFactor" "value" X_InvalidFactor 1 := by
  have nd := sc_InvalidFactor__init_.nd
  refine hasE_mk D sc_InvalidFactor__init_ rfl rfl (fun _ _ _ _ _ _ us hl => match us, hl with | [_, _], _ => rfl) (fun f cdv A outer s H vs Q E hr hgd h => ?bd)
  case bd =>
    obtain ⟨a, y, rfl, ha, k⟩ := h
    refine ⟨_, (pss_one (ps_ost (pv 0) (pv 1))), ?_⟩
    exact ⟨_, rfl, _, rfl, a, _, rfl, D.1.oe, D.1.no, .inl ⟨ha, fun dx h1 h2 => k dx h1 h2⟩⟩

theorem ok_InvalidName__init_ (T : Txt mg) (FC : FormC K mg C) (MU : OwnI K C .Mult) (NE : NeC K C) (EF : EF K mg C X_InputError X_InvalidName X_InvalidFactor X_InvalidValues X_NotAForm X_InvalidText X_StateError X_RunError X_LimitError) (D : AtE K mg "InvalidName" "value" X_InvalidName "InvalidName.__init__" s_InvalidName__init_) :
    HasE P w K mg base "InvalidName" "value" X_InvalidName 1 := by
  have nd := sc_InvalidName__init_.nd
  refine hasE_mk D sc_InvalidName__init_ rfl rfl (fun _ _ _ _ _ _ us hl => match us, hl with | [_, _], _ => rfl) (fun f cdv A outer s H vs Q E hr hgd h => ?bd)
  case bd =>
    obtain ⟨a, y, rfl, ha, k⟩ := h
    refine ⟨_, (pss_one (ps_ost (pv 0) (pv 1))), ?_⟩
    exact ⟨_, rfl, _, rfl, a, _, rfl, D.1.oe, D.1.no, .inl ⟨ha, fun dx h1 h2 => k dx h1 h2⟩⟩

theorem ok_is_integer (T : Txt mg) (FC : FormC K mg C) (MU : OwnI K C .Mult) (NE : NeC K C) (EF : EF K mg C X_InputError X_InvalidName X_InvalidFactor X_InvalidValues X_NotAForm X_InvalidText X_StateError X_RunError X_LimitError) (D : At K mg "is_integer" s_is_integer) :
    Has P w K mg base CX0 "is_integer" s_is_integer ["value"] 1 (spAsk 0 fun _ v => isI v) := by
  have nd := sc_is_integer.nd
  refine has_mk D sc_is_integer (fun vs H Q E h => ?len) (fun _ _ _ _ _ _ us hl => match us, hl with | [_], _ => rfl) (fun f cdv A outer s H vs Q E hr hgd h => ?bd)
  case len =>
    obtain ⟨v, Av, rfl, _⟩ := h
    rfl
  case bd =>
    obtain ⟨v, Av, rfl, t, k⟩ := h
    refine ⟨_, (pss_one (ps_ret (pe_and (pe_callB (isiK K) rfl T.b_isinstance (by decide +kernel) (pa_cons (pv 0) (pa_cons (pe_bltn (v := .ty "int") rfl T.b_int (by decide +kernel) rfl) pa_nil))) (pe_one (pe_not (pe_callB (isiK K) rfl T.b_isinstance (by decide +kernel) (pa_cons (pv 0) (pa_cons (pe_bltn (v := .ty "bool") rfl T.b_bool (by decide +kernel) rfl) pa_nil)))))))), ?_⟩
    walk_at "go"
    refine ite_b (fun e => ?_) (fun e => ?_)
    · walk_at "go"
      exact rtb (k _ (Same.refl _)) (by cases v <;> first | rfl | (simp [isI, isB] at e))
    · exact rtb (k _ (Same.refl _)) (by cases v <;> first | rfl | (simp [isI, isB] at e))

theorem ok_is_name (T : Txt mg) (FC : FormC K mg C) (MU : OwnI K C .Mult) (NE : NeC K C) (EF : EF K mg C X_InputError X_InvalidName X_InvalidFactor X_InvalidValues X_NotAForm X_InvalidText X_StateError X_RunError X_LimitError) (D : At K mg "is_name" s_is_name) :
    Has P w K mg base CX0 "is_name" s_is_name ["value"] 1 (spAsk 0 fun _ v => nameV v) := by
  have nd := sc_is_name.nd
  refine has_mk D sc_is_name (fun vs H Q E h => ?len) (fun _ _ _ _ _ _ us hl => match us, hl with | [_], _ => rfl) (fun f cdv A outer s H vs Q E hr hgd h => ?bd)
  case len =>
    obtain ⟨v, Av, rfl, _⟩ := h
    rfl
  case bd =>
    obtain ⟨v, Av, rfl, t, k⟩ := h
    refine ⟨_, (pss_cons (ps_if (PW.pt (pw_or (pt_not (pt_val (pe_callB (isiK K) rfl T.b_isinstance (by decide +kernel) (pa_cons (pv 0) (pa_cons (pe_bltn (v := .ty "str") rfl T.b_str (by decide +kernel) rfl) pa_nil))))) (pw_or (pt_not (pt_chain op_le op_le pe_int (pe_callB (lenK K) rfl T.b_len (by decide +kernel) (pa_cons (pv 0) pa_nil)) (pe_gI rfl T.c_MAX_LENGTH))) (pw_or1 (pt_cmpR op_eq (pv 0) (pe_gS rfl T.c_VIEW) (nomark _)))))) (pss_one (ps_ret pe_bl)) pss_nil)
      (pss_one (ps_ret (pe_and (pe_cmpR o_sign (pe_ix ix_str (pv 0) pe_int (fun _ _ => rfl)) (pe_gS rfl T.c_LETTERS) rfl) (pe_one (pe_callB (allK K) rfl T.b_all (by decide +kernel) (pa_cons (pe_lc (own := [("sign", 1)]) (g := gName 1) (tt := tYes) rfl nd (pi_str (pv 0)) (blkOk_by (N := N_is_name) (sc := defScope s_is_name) (own := [("sign", 1)]) (by decide +kernel)) (fun _ _ _ _ _ => (pg_name (i := 1) nd rfl (Or.inl rfl))) (fun _ _ _ _ _ => pts_nil) (fun _ _ _ _ _ => (pe_cmpR o_sign (pv 1) (pe_op o_addS (pe_gS rfl T.c_LETTERS) (pe_gS rfl T.c_DIGITS)) rfl))) pa_nil))))))), ?_⟩
    cases hs : isS v with
    | false =>
      walk_at "go"
      refine ite_t (by rw [hs]; rfl) ?_
      walk_at "go"
      exact rtb (k _ (Same.refl _)) (by cases v <;> first | rfl | cases hs)
    | true =>
      obtain ⟨z, rfl⟩ := isS_str hs
      have hz : z.length ≤ 100000 := t
      have k0 : ∀ {b : Bool} {H' : Hp}, nameS z = b → Same H H' → Q (.bl b) H' := fun e r => rtb (k _ r) e.symm
      walk_at "go"
      refine ite_f rfl ?_
      walk_at "go"
      refine ite_b (fun e1 => ?_) (fun e1 => ?_)
      · walk_at "go"
        refine ite_b (fun e2 => ?_) (fun e2 => ?_)
        · walk_at "go"
          exact k0 (by simp at e2; simp [nameS]; omega) (Same.refl _)
        · walk_at "go"
          refine ite_b (fun e3 => ?_) (fun e3 => ?_)
          · walk_at "go"
            exact k0 (by simp at e3; simp [nameS, e3]) (Same.refl _)
          · walk_at "go"
            obtain ⟨c, cs, hc⟩ := cons_of_len (z := z) (by simp at e1; omega)
            refine s_ixS (c := c) (sz1 (by omega)) (by rw [hc]; exact atI_0) ?_
            walk_at "go"
            refine ite_b (fun e4 => ?_) (fun e4 => ?_)
            · walk_at "go"
              refine lcP wx_str (sgV (letS ++ digS)) (fun _ _ => trivial) (by rw [strV_len]; omega) ?_ gm_name ?_
              · intro x H1 Q1 hx r q
                obtain ⟨c', rfl⟩ := mem_strV hx
                refine ⟨rfl, ?_⟩
                walk_at "go"
                exact q _ (Same.refl _)
              · intro D H' hD r hd
                walk_at "go"
                rw [sgV_map] at hd
                refine s_all hd ?_
                refine k0 ?_ r
                simp at e1 e2 e3 e4
                simp [nameS, e3, hc]
                intro _ _
                exact ⟨⟨by omega, by omega⟩, e4⟩
            · walk_at "go"
              exact k0 (by simp at e4; simp [nameS, hc]; intros; simp_all [letS]) (Same.refl _)
      · walk_at "go"
        exact k0 (by simp at e1; simp [nameS]; omega) (Same.refl _)

theorem ok_is_symbol (T : Txt mg) (FC : FormC K mg C) (MU : OwnI K C .Mult) (NE : NeC K C) (EF : EF K mg C X_InputError X_InvalidName X_InvalidFactor X_InvalidValues X_NotAForm X_InvalidText X_StateError X_RunError X_LimitError) (D : At K mg "is_symbol" s_is_symbol) (h_is_name : Has P w K mg base CX0 "is_name" s_is_name ["value"] 1 (spAsk 0 fun _ v => nameV v)) :
    Has P w K mg base CX0 "is_symbol" s_is_symbol ["value"] 2 (spAsk 0 fun _ v => symV v) := by
  have nd := sc_is_symbol.nd
  refine has_mk D sc_is_symbol (fun vs H Q E h => ?len) (fun _ _ _ _ _ _ us hl => match us, hl with | [_], _ => rfl) (fun f cdv A outer s H vs Q E hr hgd h => ?bd)
  case len =>
    obtain ⟨v, Av, rfl, _⟩ := h
    rfl
  case bd =>
    obtain ⟨v, Av, rfl, t, k⟩ := h
    refine ⟨_, (pss_one (ps_ret (pe_and (pe_callB (isiK K) rfl T.b_isinstance (by decide +kernel) (pa_cons (pv 0) (pa_cons (pe_bltn (v := .ty "str") rfl T.b_str (by decide +kernel) rfl) pa_nil))) (pe_one (pe_or (pe_cmpR op_eq (pv 0) (pe_gS rfl T.c_CELL) (nomark _)) (pe_one (peH h_is_name (hr.mono (by decide)) hgd rfl (pa_cons (pv 0) pa_nil)))))))), ?_⟩
    cases hs : isS v with
    | false =>
      walk_at "go"
      refine ite_f hs ?_
      exact rtb (k _ (Same.refl _)) (by cases v <;> first | rfl | cases hs)
    | true =>
      obtain ⟨z, rfl⟩ := isS_str hs
      walk_at "go"
      refine ite_t rfl ?_
      walk_at "go"
      refine ite_b (fun e => ?_) (fun e => ?_)
      · exact rtb (k _ (Same.refl _)) (by simp [symV] at e ⊢; exact Or.inl e)
      · walk_at "go"
        refine ⟨.str z, Av, rfl, t, fun H' r => ?_⟩
        exact rtb (k _ r) (by simp [symV, nameV] at e ⊢; simp [e])

theorem ok_Form__init__x (T : Txt mg) (FC : FormC K mg C) (MU : OwnI K C .Mult) (NE : NeC K C) (EF : EF K mg C X_InputError X_InvalidName X_InvalidFactor X_InvalidValues X_NotAForm X_InvalidText X_StateError X_RunError X_LimitError) (D : AtK K mg C "Form" "Form.__init__" s_Form__init_) (h_InvalidFactor__init_ : HasE P w K mg base "InvalidFactor" "value" X_InvalidFactor 1) (h_InvalidName__init_ : HasE P w K mg base "InvalidName" "value" X_InvalidName 1) (h_is_integer : Has P w K mg base CX0 "is_integer" s_is_integer ["value"] 1 (spAsk 0 fun _ v => isI v)) (h_is_symbol : Has P w K mg base CX0 "is_symbol" s_is_symbol ["value"] 2 (spAsk 0 fun _ v => symV v)) :
    HasKX P w K mg base C "Form" 3 (spMakeX X_InvalidName X_InvalidFactor) := by
  have nd := sc_Form__init_.nd
  refine hasKX_mk (sp := spInitX X_InvalidName X_InvalidFactor) D rfl sc_Form__init_ (fun f cdv A outer s H vs Q E hr hgd h => ?bd)
  case bd =>
    obtain ⟨x, d, ys, i0, y0, rfl, hd, ndy, hlen, hys, hbad, k⟩ := h
    refine ⟨_, (pss_cons (ps_lock (ps_for PassesOwn.leaving rfl (pi_keys (pv 1)) (pg_name (i := 2) nd rfl (Or.inl rfl))
      (pss_one (ps_if (pt_not (pt_val (peH h_is_symbol (hr.mono (by decide)) hgd rfl (pa_cons (pv 2) pa_nil)))) (pss_one (ps_raiseE rfl h_InvalidName__init_ (hr.mono (by decide)) hgd takesX rfl (pa_cons (pv 2) pa_nil))) pss_nil))))
      (pss_cons (ps_lock (ps_for PassesOwn.leaving rfl (pi_keys (pv 1)) (pg_name (i := 2) nd rfl (Or.inl rfl))
      (pss_one (ps_if (pt_not (pt_val (peH h_is_integer (hr.mono (by decide)) hgd rfl (pa_cons (pe_dget (hu_of hr) (pv 1) (pv 2) (fun _ _ => rfl)) pa_nil)))) (pss_one (ps_raiseE rfl h_InvalidFactor__init_ (hr.mono (by decide)) hgd takesX rfl (pa_cons (pe_dget (hu_of hr) (pv 1) (pv 2) (fun _ _ => rfl)) pa_nil))) pss_nil))))
      (pss_cons ps_never
      (pss_cons ps_never
      (pss_one ps_never))))), ?_⟩
    refine s_st (σ' := [some (.ref x), some (.ref d), none, none]) rfl ?_
    with_reducible refine s_seqJ (fun σ' H' => ∃ o1, σ' = [some (.ref x), some (.ref d), o1, none] ∧ Same H H' ∧ ∀ m < ys.length, ∀ p, ys[m]? = some p → (!symS p.1) = false) ?_ (fun N hN => ?_)
    rotate_left
    · refine s_lock hd fun od => ?_
      walk_at "go"
      refine ⟨d, od, rfl, .inl ⟨inrs ys, upd_same, ?_⟩⟩
      refine lc_of (walk_keys (kvs := inrs ys)) (fun i σ H2 => Same (upd H d (.frz od (.dK (inrs ys)))) H2 ∧ (∃ o1, σ = [some (.ref x), some (.ref d), o1, none]) ∧ ∀ m < i, ∀ p, ys[m]? = some p → (!symS p.1) = false) ⟨Same.refl _, ⟨_, rfl⟩, fun m hm => (Nat.not_lt_zero m hm).elim⟩ (fun i σ H2 _ h => h.1 _ _ upd_same) ?_ ?_
      · rintro i x1 σ H2 H3 hi ⟨r2, ⟨o1, rfl⟩, hm⟩ ⟨rfl, kk, v, hk, ex⟩
        obtain ⟨p, hp, rfl, rfl⟩ := inrs_at hk
        obtain rfl : x1 = .str p.1 := ex
        have hpl := (hys p (List.mem_of_getElem? hp)).1
        walk_at "go"
        refine ⟨_, fun _ => False, rfl, Th.str (by omega), fun H4 r4 => ?_⟩
        walk_at "go"
        refine ite_b (fun e => ?_) (fun e => ?_)
        · have e' : (!symS p.1) = true := e
          have fb := find_first hm hp e'
          unfold badK at hbad
          rw [fb] at hbad
          cases hbad
          walk_at "go"
          exact fun dd hdd => k dd _ (fun a o na ea => r4 _ _ (r2 _ _ (by rw [upd_ne (fun z => na (by rw [z]; exact List.mem_cons_self))]; exact ea))) hdd
        · have e' : (!symS p.1) = false := e
          walk_at "go"
          refine ⟨Same.trans r2 r4, ⟨_, rfl⟩, fun m hm' q hq => ?_⟩
          rcases Nat.lt_succ_iff_lt_or_eq.mp hm' with h1 | rfl
          · exact hm m h1 q hq
          · rw [hp] at hq
            cases hq
            exact e'
      · rintro σ H2 ⟨r2, ⟨o1, rfl⟩, hm⟩
        obtain ⟨l1, l2⟩ := lock_same hd r2
        exact ⟨l1, hN _ _ ⟨o1, rfl, l2, fun m h1 => hm m (by unfold inrs; rw [List.length_map]; exact h1)⟩⟩
    rintro σ1 H1 ⟨o1, rfl, r1, good⟩
    have hd1 := r1 _ _ hd
    have fn := find_no good
    unfold badK at hbad
    rw [fn] at hbad
    with_reducible refine s_seqJ (fun σ' H' => False) ?_ (fun N hN => ?_)
    rotate_left
    · refine s_lock hd1 fun od => ?_
      walk_at "go"
      refine ⟨d, od, rfl, .inl ⟨inrs ys, upd_same, ?_⟩⟩
      refine lc_of (walk_keys (kvs := inrs ys)) (fun i σ H2 => Same (upd H1 d (.frz od (.dK (inrs ys)))) H2 ∧ (∃ o1, σ = [some (.ref x), some (.ref d), o1, none]) ∧ ∀ m < i, ∀ p, ys[m]? = some p → (!isI p.2) = false) ⟨Same.refl _, ⟨_, rfl⟩, fun m hm => (Nat.not_lt_zero m hm).elim⟩ (fun i σ H2 _ h => h.1 _ _ upd_same) ?_ ?_
      · rintro i x1 σ H2 H3 hi ⟨r2, ⟨o2, rfl⟩, hm⟩ ⟨rfl, kk, v, hk, ex⟩
        obtain ⟨p, hp, rfl, rfl⟩ := inrs_at hk
        obtain rfl : x1 = .str p.1 := ex
        obtain ⟨hpl, th⟩ := hys p (List.mem_of_getElem? hp)
        have hfz : H3 d = some (.frz od (.dK (inrs ys))) := r2 _ _ upd_same
        have th2 : Th (fun a => a = d) H3 0 p.2 := th.stab fun a o na ea => r2 _ _ (by rw [upd_ne na]; exact r1 _ _ ea)
        walk_at "go"
        refine s_dgetV (.inr ⟨_, hfz⟩) ndy hp ?_
        walk_at "go"
        refine ⟨_, _, rfl, th2, fun H4 r4 => ?_⟩
        walk_at "go"
        have hfz4 := r4 _ _ hfz
        refine ite_b (fun e => ?_) (fun e => ?_)
        · have e' : (!isI p.2) = true := e
          have fb := find_first hm hp e'
          rw [fb] at hbad
          cases hbad
          walk_at "go"
          refine s_dgetV (.inr ⟨_, hfz4⟩) ndy hp ?_
          walk_at "go"
          exact fun dd hdd => k dd _ (fun a o na ea => r4 _ _ (r2 _ _ (by rw [upd_ne (fun z => na (by rw [z]; exact List.mem_cons_self))]; exact r1 _ _ ea))) hdd
        · have e' : (!isI p.2) = false := e
          walk_at "go"
          refine ⟨Same.trans r2 r4, ⟨_, rfl⟩, fun m hm' q hq => ?_⟩
          rcases Nat.lt_succ_iff_lt_or_eq.mp hm' with h1 | rfl
          · exact hm m h1 q hq
          · rw [hp] at hq
            cases hq
            exact e'
      · rintro σ H2 ⟨r2, ⟨o1, rfl⟩, hm⟩
        have fn2 := find_no (f := fun p : Str × V => !isI p.2) (l := ys) fun m h1 => hm m (by unfold inrs; rw [List.length_map]; exact h1)
        rw [fn2] at hbad
        cases hbad
    rintro σ2 H2 z
    exact z.elim

theorem ok_Form__repr_ (T : Txt mg) (FC : FormC K mg C) (MU : OwnI K C .Mult) (NE : NeC K C) (EF : EF K mg C X_InputError X_InvalidName X_InvalidFactor X_InvalidValues X_NotAForm X_InvalidText X_StateError X_RunError X_LimitError) (D : AtM K C "__repr__" "Form.__repr__" s_Form__repr_) :
    HasR P w K mg base C "__repr__" ["self"] 1 (spReprF C) := by
  have nd := sc_Form__repr_.nd
  refine hasR_mk D sc_Form__repr_ (fun vs H Q E h => ?len) (fun _ _ _ _ _ _ us hl => match us, hl with | [_], _ => rfl) (fun f cdv A outer s H vs Q E hr h => ?bd)
  case len =>
    obtain ⟨v, q, rfl, _⟩ := h
    rfl
  case bd =>
    obtain ⟨v, q, rfl, ⟨a, dx, t, y, xs, rfl, fi⟩, hl, k⟩ := h
    have fcls := FC.cls
    have fnt := FC.nt
    have fns := FC.ns
    have fnx := FC.nx
    have fins := fi.ins
    have h1 : (Str.ofString "Form(").length = 5 := by decide +kernel
    have h2 : (Str.ofString ")").length = 1 := by decide +kernel
    have h0 : Str.empty.length = 0 := rfl
    refine ⟨_, (pss_one (ps_ret (pe_joinedN (PJ.cons pe_str (PJ.cons (pe_fmt (fldK K (he := (pv 0)))) (PJ.cons pe_str PJ.nil)))))), ?_⟩
    walk_at "go"
    rw [emp_app]
    exact k

theorem ok_Form__repr__x (T : Txt mg) (FC : FormC K mg C) (MU : OwnI K C .Mult) (NE : NeC K C) (EF : EF K mg C X_InputError X_InvalidName X_InvalidFactor X_InvalidValues X_NotAForm X_InvalidText X_StateError X_RunError X_LimitError) (D : AtM K C "__repr__" "Form.__repr__" s_Form__repr_) :
    HasQ P w K mg base C "__repr__" ["self"] 1 (spReprF C) := by
  have nd := sc_Form__repr_.nd
  refine hasQ_mk D sc_Form__repr_ (fun vs H Q E h => ?len) (fun _ _ _ _ _ _ us hl => match us, hl with | [_], _ => rfl) (fun f cdv A outer s H vs Q E p hr h => ?bd)
  case len =>
    obtain ⟨v, q, rfl, _⟩ := h
    rfl
  case bd =>
    obtain ⟨v, q, rfl, ⟨a, dx, t, y, xs, rfl, fi⟩, hl, k⟩ := h
    have fcls := FC.cls
    have fnt := FC.nt
    have fns := FC.ns
    have fnx := FC.nx
    have fins := fi.ins
    have h1 : (Str.ofString "Form(").length = 5 := by decide +kernel
    have h2 : (Str.ofString ")").length = 1 := by decide +kernel
    have h0 : Str.empty.length = 0 := rfl
    refine ⟨_, (pss_one (ps_ret (pe_joinedN (PJ.cons pe_str (PJ.cons (pe_fmt (fldK K (he := (pv 0)))) (PJ.cons pe_str PJ.nil)))))), ?_⟩
    walk_at "go"
    rw [emp_app]
    exact k

theorem ok_InvalidValues__init_ (T : Txt mg) (FC : FormC K mg C) (MU : OwnI K C .Mult) (NE : NeC K C) (EF : EF K mg C X_InputError X_InvalidName X_InvalidFactor X_InvalidValues X_NotAForm X_InvalidText X_StateError X_RunError X_LimitError) (D : AtE K mg "InvalidValues" "value" X_InvalidValues "InvalidValues.__init__" s_InvalidValues__init_) :
    HasE P w K mg base "InvalidValues" "value" X_InvalidValues 1 := by
  have nd := sc_InvalidValues__init_.nd
  refine hasE_mk D sc_InvalidValues__init_ rfl rfl (fun _ _ _ _ _ _ us hl => match us, hl with | [_, _], _ => rfl) (fun f cdv A outer s H vs Q E hr hgd h => ?bd)
  case bd =>
    obtain ⟨a, y, rfl, ha, k⟩ := h
    refine ⟨_, (pss_one (ps_ost (pv 0) (pv 1))), ?_⟩
    exact ⟨_, rfl, _, rfl, a, _, rfl, D.1.oe, D.1.no, .inl ⟨ha, fun dx h1 h2 => k dx h1 h2⟩⟩

theorem ok_NotAForm__init_ (T : Txt mg) (FC : FormC K mg C) (MU : OwnI K C .Mult) (NE : NeC K C) (EF : EF K mg C X_InputError X_InvalidName X_InvalidFactor X_InvalidValues X_NotAForm X_InvalidText X_StateError X_RunError X_LimitError) (D : AtE K mg "NotAForm" "value" X_NotAForm "NotAForm.__init__" s_NotAForm__init_) :
    HasE P w K mg base "NotAForm" "value" X_NotAForm 1 := by
  have nd := sc_NotAForm__init_.nd
  refine hasE_mk D sc_NotAForm__init_ rfl rfl (fun _ _ _ _ _ _ us hl => match us, hl with | [_, _], _ => rfl) (fun f cdv A outer s H vs Q E hr hgd h => ?bd)
  case bd =>
    obtain ⟨a, y, rfl, ha, k⟩ := h
    refine ⟨_, (pss_one (ps_ost (pv 0) (pv 1))), ?_⟩
    exact ⟨_, rfl, _, rfl, a, _, rfl, D.1.oe, D.1.no, .inl ⟨ha, fun dx h1 h2 => k dx h1 h2⟩⟩

theorem ok_is_pair (T : Txt mg) (FC : FormC K mg C) (MU : OwnI K C .Mult) (NE : NeC K C) (EF : EF K mg C X_InputError X_InvalidName X_InvalidFactor X_InvalidValues X_NotAForm X_InvalidText X_StateError X_RunError X_LimitError) (D : At K mg "is_pair" s_is_pair) (h_is_integer : Has P w K mg base CX0 "is_integer" s_is_integer ["value"] 1 (spAsk 0 fun _ v => isI v)) (h_is_symbol : Has P w K mg base CX0 "is_symbol" s_is_symbol ["value"] 2 (spAsk 0 fun _ v => symV v)) :
    Has P w K mg base CX0 "is_pair" s_is_pair ["value"] 3 (spAsk 1 pairV) := by
  have nd := sc_is_pair.nd
  refine has_mk D sc_is_pair (fun vs H Q E h => ?len) (fun _ _ _ _ _ _ us hl => match us, hl with | [_], _ => rfl) (fun f cdv A outer s H vs Q E hr hgd h => ?bd)
  case len =>
    obtain ⟨v, Av, rfl, _⟩ := h
    rfl
  case bd =>
    obtain ⟨v, Av, rfl, t, k⟩ := h
    refine ⟨_, (pss_cons (ps_if (PW.pt (pw_or (pt_not (pt_val (pe_callB (isiK K) rfl T.b_isinstance (by decide +kernel) (pa_cons (pv 0) (pa_cons (pe_bltn (v := .ty "tuple") rfl T.b_tuple (by decide +kernel) rfl) pa_nil))))) (pw_or1 (pt_cmpR op_ne (pe_callB (lenK K) rfl T.b_len (by decide +kernel) (pa_cons (pv 0) pa_nil)) pe_int (nomark _))))) (pss_one (ps_ret pe_bl)) pss_nil)
      (pss_one (ps_ret (pe_and (peH h_is_symbol (hr.mono (by decide)) hgd rfl (pa_cons (pe_ix (ixT K) (pv 0) pe_int (fun _ _ => rfl)) pa_nil)) (pe_and (peH h_is_integer (hr.mono (by decide)) hgd rfl (pa_cons (pe_ix (ixT K) (pv 0) pe_int (fun _ _ => rfl)) pa_nil)) (pe_one (pe_cmpR op_ge (pe_ix (ixT K) (pv 0) pe_int (fun _ _ => rfl)) pe_int (nomark _)))))))), ?_⟩
    cases ht : tupOf H v with
    | none =>
      walk_at "go"
      refine ite_t (by rw [ht]; rfl) ?_
      walk_at "go"
      exact rtb (k _ (Same.refl _)) (pairV_none ht).symm
    | some xs =>
      obtain ⟨q, rfl, hq⟩ := tupOf_at ht
      obtain ⟨hl, ha⟩ := t.tup hq
      walk_at "go"
      refine ite_f (by rw [ht]; rfl) ?_
      walk_at "go"
      refine ite_b (fun e => ?_) (fun e => ?_)
      · walk_at "go"
        exact rtb (k _ (Same.refl _)) (pairV_len ht (fun z => by simp [z] at e)).symm
      · obtain ⟨a, b, rfl⟩ := two_of (xs := xs) (by simp at e; omega)
        have ta := ha a (by simp)
        have tb := ha b (by simp)
        walk_at "go"
        refine ⟨a, Av, rfl, ta, fun H1 r1 => ?_⟩
        walk_at "go"
        refine ite_b (fun (e1 : symV a = true) => ?_) (fun (e1 : symV a = false) => ?_)
        · walk_at "go"
          refine ⟨b, Av, rfl, Th.stab (Same.ag r1) tb, fun H2 r2 => ?_⟩
          walk_at "go"
          refine ite_b (fun e2 => ?_) (fun e2 => ?_)
          · obtain ⟨i, rfl⟩ := isI_int e2
            walk_at "go"
            exact rtb (k _ (r1.trans r2)) (by rw [pairV_of ht, e1]; rfl)
          · exact rtb (k _ (r1.trans r2)) (by rw [pairV_of ht, e1]; cases b <;> first | rfl | cases e2)
        · exact rtb (k _ r1) (by rw [pairV_of ht, e1]; rfl)

theorem ok_is_values (T : Txt mg) (FC : FormC K mg C) (MU : OwnI K C .Mult) (NE : NeC K C) (EF : EF K mg C X_InputError X_InvalidName X_InvalidFactor X_InvalidValues X_NotAForm X_InvalidText X_StateError X_RunError X_LimitError) (D : At K mg "is_values" s_is_values) (h_is_pair : Has P w K mg base CX0 "is_pair" s_is_pair ["value"] 3 (spAsk 1 pairV)) :
    Has P w K mg base CX0 "is_values" s_is_values ["value"] 4 (spAsk 2 valsV) := by
  have nd := sc_is_values.nd
  refine has_mk D sc_is_values (fun vs H Q E h => ?len) (fun _ _ _ _ _ _ us hl => match us, hl with | [_], _ => rfl) (fun f cdv A outer s H vs Q E hr hgd h => ?bd)
  case len =>
    obtain ⟨v, Av, rfl, _⟩ := h
    rfl
  case bd =>
    obtain ⟨v, Av, rfl, t, k⟩ := h
    refine ⟨_, (pss_cons (ps_if (PW.pt (pw_or (pt_not (pt_val (pe_callB (isiK K) rfl T.b_isinstance (by decide +kernel) (pa_cons (pv 0) (pa_cons (pe_bltn (v := .ty "tuple") rfl T.b_tuple (by decide +kernel) rfl) pa_nil))))) (pw_or1 (pt_not (pt_val (pe_callB (allK K) rfl T.b_all (by decide +kernel) (pa_cons (pe_lc (own := [("pair", 1)]) (g := gName 1) (tt := tYes) rfl nd (piT K (he := (pv 0))) (blkOk_by (N := N_is_values) (sc := defScope s_is_values) (own := [("pair", 1)]) (by decide +kernel)) (fun _ _ _ _ _ => (pg_name (i := 1) nd rfl (Or.inl rfl))) (fun _ _ _ _ _ => pts_nil) (fun _ _ _ _ _ => (peH h_is_pair (hr.mono (by decide)) hgd rfl (pa_cons (pv 1) pa_nil)))) pa_nil))))))) (pss_one (ps_ret pe_bl)) pss_nil)
      (pss_one (ps_ret (pe_callB (allK K) rfl T.b_all (by decide +kernel) (pa_cons (pe_lc (own := [("at", 2)]) (g := gName 2) (tt := tYes) rfl nd (pi_range1 rfl T.b_range (pa_cons (pe_op op_sub (pe_callB (lenK K) rfl T.b_len (by decide +kernel) (pa_cons (pv 0) pa_nil)) pe_int) pa_nil)) (blkOk_by (N := N_is_values) (sc := defScope s_is_values) (own := [("at", 2)]) (by decide +kernel)) (fun _ _ _ _ _ => (pg_name (i := 2) nd rfl (Or.inl rfl))) (fun _ _ _ _ _ => pts_nil) (fun _ _ _ _ _ => (pe_cmpR o_ltS (pe_ix (ixT K) (pe_ix (ixT K) (pv 0) (pv 2) (fun _ _ => rfl)) pe_int (fun _ _ => rfl)) (pe_ix (ixT K) (pe_ix (ixT K) (pv 0) (pe_op op_add (pv 2) pe_int) (fun _ _ => rfl)) pe_int (fun _ _ => rfl)) (nomark _)))) pa_nil))))), ?_⟩
    cases ht : tupOf H v with
    | none =>
      walk_at "go"
      refine ite_t (by rw [ht]; rfl) ?_
      walk_at "go"
      exact rtb (k _ (Same.refl _)) (valsV_none ht).symm
    | some xs =>
      obtain ⟨q, rfl, hq⟩ := tupOf_at ht
      obtain ⟨hl, ha⟩ := t.tup hq
      walk_at "go"
      refine ite_f (by rw [ht]; rfl) ?_
      walk_at "go"
      refine lcP (walk_tup (xs := xs)) (fun x => .bl (pairV H x)) (fun H1 r => SqT.of (r _ _ hq)) (by omega) ?_ gm_name ?_
      · intro x H1 Q1 hx r c
        refine ⟨rfl, ?_⟩
        walk_at "go"
        refine ⟨x, Av, rfl, Th.stab (Same.ag r) (ha x hx), fun H2 r2 => ?_⟩
        have e : pairV H1 x = pairV H x := pairV_stab r (ha x hx)
        rw [e]
        exact c _ r2
      · intro D1 H1 hD1 r1 hd1
        walk_at "go"
        refine s_all (bs := xs.map (pairV H)) (by rw [hd1, List.map_map]; rfl) ?_
        walk_at "go"
        refine ite_b (fun e => ?_) (fun e => ?_)
        · walk_at "go"
          refine rtb (k _ r1) ?_
          rw [valsV_some ht]
          rw [Bool.not_eq_true'] at e
          rw [List.all_map] at e
          have e' : xs.all (pairV H) = false := e
          rw [e']
          rfl
        · rw [Bool.not_eq_false', List.all_map] at e
          have e' : xs.all (pairV H) = true := e
          have ep := List.all_eq_true.mp e'
          walk_at "go"
          refine lcP (xs := rngV ((xs.length : Int) - 1).toNat) wx_rng (fun x => .bl (match x with | .int i => ltS ((xs.map (keyV H)).getD i.toNat Str.empty) ((xs.map (keyV H)).getD (i.toNat + 1) Str.empty) | _ => false)) (fun _ _ => trivial) (by simp [rngV]; omega) ?_ gm_name ?_
          · intro x H2 Q1 hx r c
            obtain ⟨i, hi, rfl⟩ := List.mem_map.mp hx
            rw [List.mem_range] at hi
            have i1 : i < xs.length := by omega
            have i2 : i + 1 < xs.length := by omega
            obtain ⟨q1, z1, c1, cs1, n1, e1, g1, _, _, y1⟩ := pairV_iff (ep _ (List.getElem_mem i1))
            obtain ⟨q2, z2, c2, cs2, n2, e2, g2, _, _, y2⟩ := pairV_iff (ep _ (List.getElem_mem i2))
            have x1 : atI xs ((i : Nat) : Int) = some (.ref q1) := by rw [atI_of (x := xs[i]) (by simp [i1]), e1]
            have x2 : atI xs (((i : Nat) : Int) + 1) = some (.ref q2) := by
              have := atI_of (xs := xs) (i := i + 1) (x := xs[i + 1]) (by simp [i2])
              rw [e2] at this
              exact this
            have r0 : Same H H2 := r1.trans r
            have h1 := r0 _ _ g1
            have h2 := r0 _ _ g2
            have h3 := r0 _ _ hq
            refine ⟨rfl, ?_⟩
            walk_at "go"
            refine rtb (c _ (Same.refl _)) ?_
            show decide (z1.cps.toList < z2.cps.toList) = ltS ((xs.map (keyV H)).getD i Str.empty) ((xs.map (keyV H)).getD (i + 1) Str.empty)
            have w1 : (xs.map (keyV H)).getD i Str.empty = z1 := by simp [List.getD, i1, y1]
            have w2 : (xs.map (keyV H)).getD (i + 1) Str.empty = z2 := by simp [List.getD, i2, y2]
            rw [w1, w2]
            rfl
          · intro D2 H2 hD2 r2 hd2
            walk_at "go"
            refine s_all (bs := (List.range (xs.length - 1)).map fun i => ltS ((xs.map (keyV H)).getD i Str.empty) ((xs.map (keyV H)).getD (i + 1) Str.empty)) ?_ ?_
            · rw [hd2]
              have : ((xs.length : Int) - 1).toNat = xs.length - 1 := by omega
              rw [this]
              unfold rngV
              rw [List.map_map, List.map_map]
              rfl
            · refine rtb (k _ (r1.trans r2)) ?_
              rw [valsV_some ht, e', ascS_range, List.all_map, List.length_map]
              rfl

theorem ok_numbers_of (T : Txt mg) (FC : FormC K mg C) (MU : OwnI K C .Mult) (NE : NeC K C) (EF : EF K mg C X_InputError X_InvalidName X_InvalidFactor X_InvalidValues X_NotAForm X_InvalidText X_StateError X_RunError X_LimitError) (D : At K mg "numbers_of" s_numbers_of) :
    Has P w K mg base CX0 "numbers_of" s_numbers_of ["values"] 1 (spNumbersOf K) := by
  have nd := sc_numbers_of.nd
  refine has_mk D sc_numbers_of (fun vs H Q E h => ?len) (fun _ _ _ _ _ _ us hl => match us, hl with | [_], _ => rfl) (fun f cdv A outer s H vs Q E hr hgd h => ?bd)
  case len =>
    obtain ⟨t, xs, r, rfl, _⟩ := h
    rfl
  case bd =>
    obtain ⟨t, xs, r, rfl, ht, hp, nd', hl, k⟩ := h
    refine ⟨_, (pss_one (ps_ret (pe_dc (own := [("symbol", 1), ("number", 2)]) (g := gTup K 2 (gCons (gName 1) (gCons (gName 2) gNil))) (tt := tYes) rfl nd (piT K (he := (pv 0))) (blkOk_by (N := N_numbers_of) (sc := defScope s_numbers_of) (own := [("symbol", 1), ("number", 2)]) (by decide +kernel)) (fun _ _ _ _ _ => (gT K (n := 2) (hc := rfl) (hg := (pgs_cons (pg_name (i := 1) nd rfl (Or.inl rfl)) (pgs_cons (pg_name (i := 2) nd rfl (Or.inl rfl)) pgs_nil))))) (fun _ _ _ _ _ => pts_nil) (fun _ _ _ _ _ => (pv 1)) (fun _ _ _ _ _ => (pv 2))))), ?_⟩
    walk_at "go"
    have hlen := hp.len
    refine dcR (walk_tup (xs := xs)) (kvR r) (by rw [kvR_len]; omega) (fun H1 r1 => Same.sqt r1 ht) yat_same (by omega) ?_ ?_
    · rintro i x H1 H2 p K1 K2 hk r1 ⟨rfl, hx⟩ c
      obtain ⟨q, t1, hq, rfl, hpt⟩ := hp.at hx
      obtain ⟨q', hq', rfl⟩ := kvR_at hk
      rw [hq] at hq'
      cases hq'
      refine s_g2 (SqT.of (r1 _ _ hpt)) ⟨rfl, ?_⟩
      walk_at "go"
      exact c _ (Same.refl _)
    · intro D H' hD r' e
      rw [kvR_self nd'] at e
      exact k D H' hD r' e

theorem ok_check_values (T : Txt mg) (FC : FormC K mg C) (MU : OwnI K C .Mult) (NE : NeC K C) (EF : EF K mg C X_InputError X_InvalidName X_InvalidFactor X_InvalidValues X_NotAForm X_InvalidText X_StateError X_RunError X_LimitError) (D : At K mg "check_values" s_check_values) (h_InvalidValues__init_ : HasE P w K mg base "InvalidValues" "value" X_InvalidValues 1) (h_is_values : Has P w K mg base CX0 "is_values" s_is_values ["value"] 4 (spAsk 2 valsV)) (h_numbers_of : Has P w K mg base CX0 "numbers_of" s_numbers_of ["values"] 1 (spNumbersOf K)) :
    HasX P w K mg base "check_values" s_check_values ["value", "symbols"] 5 (spCheckVX K X_InvalidValues) := by
  have nd := sc_check_values.nd
  refine hasX_mk D sc_check_values (fun vs H Q E h => ?len) (fun _ _ _ _ _ _ us hl => match us, hl with | [_, _], _ => rfl) (fun f cdv A outer s H vs Q E hr hgd h => ?bd)
  case len =>
    obtain ⟨v, y, zs, rfl, _⟩ := h
    rfl
  case bd =>
    obtain ⟨v, y, zs, rfl, hy, hl, h⟩ := h
    refine ⟨_, (pss_cons (ps_if (pt_not (pt_val (peH h_is_values (hr.mono (by decide)) hgd rfl (pa_cons (pv 0) pa_nil)))) (pss_one (ps_raiseE rfl h_InvalidValues__init_ (hr.mono (by decide)) hgd takesX rfl (pa_cons (pv 0) pa_nil))) pss_nil)
      (pss_cons (ps_set (i := 2) nd rfl (Or.inr rfl) (peH h_numbers_of (hr.mono (by decide)) hgd rfl (pa_cons (pv 0) pa_nil)))
      (pss_one (ps_if (pt_not (pt_val (pe_callB (allK K) rfl T.b_all (by decide +kernel) (pa_cons (pe_lc (own := [("symbol", 3)]) (g := gName 3) (tt := tYes) rfl nd (piT K (he := (pv 1))) (blkOk_by (N := N_check_values) (sc := defScope s_check_values) (own := [("symbol", 3)]) (by decide +kernel)) (fun _ _ _ _ _ => (pg_name (i := 3) nd rfl (Or.inl rfl))) (fun _ _ _ _ _ => pts_nil) (fun _ _ _ _ _ => (pe_cmp (pc_din (hu_of hr) (pv 3) (pv 2))))) pa_nil)))) (pss_one (ps_raiseE rfl h_InvalidValues__init_ (hr.mono (by decide)) hgd takesX rfl (pa_cons (pv 0) pa_nil))) pss_nil)))), ?_⟩
    refine s_st (σ' := [some v, some (.ref y), none, none]) rfl ?_
    walk_at "gos"
    rcases h with ⟨t, xs, r, rfl, va, hz, k⟩ | ⟨⟨A0, th, bad⟩, k⟩
    · walk_at "go"
      refine ⟨_, fun _ => False, rfl, va.th, fun H1 r1 => ?_⟩
      walk_at "go"
      refine ite_f (by rw [va.vals]; rfl) ?_
      walk_at "go"
      have va1 := va.same r1
      have hlr := va.len
      refine ⟨t, xs, r, rfl, SqT.of va1.tu, va1.prs, va.nodup, by omega, fun d H2 hd r2 e2 => ?_⟩
      have hy2 := Same.sqt (Same.trans r1 r2) hy
      walk_at "go"
      refine lcR (walk_tup (xs := zs.map V.str)) (fun i => zs[i]?.map fun _ => true) (fun _ v (b : Bool) => v = .bl b) tpR_eq (fun H1 r1 => Same.sqt r1 hy2) yat_same (by simp; omega) ?_ ?_
      · rintro i x H4 H5 K1 K2 hi r4 ⟨rfl, hx⟩ c1 c2
        rw [List.getElem?_map] at hx
        obtain ⟨z, hz1, rfl⟩ := Option.map_eq_some_iff.mp hx
        have e4 := r4 _ _ e2
        refine ⟨rfl, ?_⟩
        walk_at "go"
        rw [val_mem (hz z (List.mem_of_getElem? hz1))]
        exact c1 _ _ _ (by rw [hz1]; rfl) (Same.refl _) rfl
      · intro D H4 ys hD r4 e4 pr
        have e5 := paired_eq pr
        rw [List.length_map, range_map] at e5
        rw [e5] at e4
        walk_at "go"
        refine s_all e4 ?_
        walk_at "go"
        refine ite_f (by simp) ?_
        walk_at "go"
        exact k _ (Same.trans r1 (Same.trans r2 r4))
    · walk_at "go"
      refine ⟨_, A0, rfl, th, fun H1 r1 => ?_⟩
      walk_at "go"
      rcases bad with bad | ⟨t, xs, r, rfl, va, z0, hz0, nz⟩
      · refine ite_t (by rw [bad]; rfl) ?_
        walk_at "go"
        exact fun d hd => k d _ r1 hd
      · refine ite_f (by rw [va.vals]; rfl) ?_
        walk_at "go"
        have va1 := va.same r1
        have hlr := va.len
        refine ⟨t, xs, r, rfl, SqT.of va1.tu, va1.prs, va.nodup, by omega, fun d H2 hd r2 e2 => ?_⟩
        have hy2 := Same.sqt (Same.trans r1 r2) hy
        walk_at "go"
        refine lcR (walk_tup (xs := zs.map V.str)) (fun i => zs[i]?.map fun z => (valR r z).isSome) (fun _ v (b : Bool) => v = .bl b) tpR_eq (fun H1 r1 => Same.sqt r1 hy2) yat_same (by simp; omega) ?_ ?_
        · rintro i x H4 H5 K1 K2 hi r4 ⟨rfl, hx⟩ c1 c2
          rw [List.getElem?_map] at hx
          obtain ⟨z, hz1, rfl⟩ := Option.map_eq_some_iff.mp hx
          have e4 := r4 _ _ e2
          refine ⟨rfl, ?_⟩
          walk_at "go"
          exact c1 _ _ _ (by rw [hz1]; rfl) (Same.refl _) rfl
        · intro D H4 ys hD r4 e4 pr
          have e5 := paired_eq pr
          rw [List.length_map, range_map] at e5
          rw [e5] at e4
          walk_at "go"
          refine s_all e4 ?_
          walk_at "go"
          refine ite_t ?_ ?_
          · have : ((List.map (fun z => (valR r z).isSome) zs).all id) = false := by
              rw [List.all_map, List.all_eq_false]
              refine ⟨z0, hz0, ?_⟩
              show ¬ (valR r z0).isSome = true
              rw [val_none nz]
              simp
            simpa using this
          · walk_at "go"
            exact fun d hd => k d _ (Same.trans r1 (Same.trans r2 r4)) hd

theorem ok_value_by (T : Txt mg) (FC : FormC K mg C) (MU : OwnI K C .Mult) (NE : NeC K C) (EF : EF K mg C X_InputError X_InvalidName X_InvalidFactor X_InvalidValues X_NotAForm X_InvalidText X_StateError X_RunError X_LimitError) (D : At K mg "value_by" s_value_by) :
    Has P w K mg base CX0 "value_by" s_value_by ["form", "numbers"] 1 (spValueBy C) := by
  have nd := sc_value_by.nd
  refine has_mk D sc_value_by (fun vs H Q E h => ?len) (fun _ _ _ _ _ _ us hl => match us, hl with | [_, _], _ => rfl) (fun f cdv A outer s H vs Q E hr hgd h => ?bd)
  case len =>
    obtain ⟨v, d, q, r, rfl, _⟩ := h
    rfl
  case bd =>
    obtain ⟨v, d, q, r, rfl, ⟨a, dx, t, y, xs, rfl, fi⟩, hd, hk, hb, k⟩ := h
    have fcls := FC.cls
    have fnt := FC.nt
    have fns := FC.ns
    have fnx := FC.nx
    have fins := fi.ins
    have hT : SqT K H t xs := fi.ft.sqt
    refine ⟨_, (pss_one (ps_ret (pe_callB (sumK K) rfl T.b_sum (by decide +kernel) (pa_cons (pe_lc (own := [("symbol", 2), ("factor", 3)]) (g := gTup K 2 (gCons (gName 2) (gCons (gName 3) gNil))) (tt := tYes) rfl nd (piT K (he := (fldK K (he := (pv 0))))) (blkOk_by (N := N_value_by) (sc := defScope s_value_by) (own := [("symbol", 2), ("factor", 3)]) (by decide +kernel)) (fun _ _ _ _ _ => (gT K (n := 2) (hc := rfl) (hg := (pgs_cons (pg_name (i := 2) nd rfl (Or.inl rfl)) (pgs_cons (pg_name (i := 3) nd rfl (Or.inl rfl)) pgs_nil))))) (fun _ _ _ _ _ => pts_nil) (fun _ _ _ _ _ => (pe_op op_mulB (pv 3) (pe_dget (hu_of hr) (pv 1) (pv 2) (fun _ _ => rfl))))) pa_nil)))), ?_⟩
    walk_at "go"
    have hlen := fi.prs.len
    have hl := fi.rb.len
    refine lcR (walk_tup (xs := xs)) (fun i => q[i]?.map fun p => p.2 * fac r p.1) (fun _ v (b : Int) => v = .int b) tpR_eq (fun H1 r1 => Same.sqt r1 hT) yat_same (by omega) ?_ ?_
    · rintro i x H1 H2 K1 K2 hi r1 ⟨rfl, hx⟩ c1 c2
      obtain ⟨p, t1, hq, rfl, hpt⟩ := fi.prs.at hx
      have hpq := List.mem_of_getElem? hq
      have hd1 := r1 _ _ hd
      have hv := val_mem (hk p.1 (mem_keys hpq))
      have hcm : CMulB p.2 (fac r p.1) := ⟨fi.rb.bd p hpq, hb _⟩
      refine s_g2 (SqT.of (r1 _ _ hpt)) ⟨rfl, ?_⟩
      walk_at "go"
      exact c1 _ _ _ (by rw [hq]; rfl) (Same.refl _) rfl
    · intro D H' ys hD r' e pr
      have e2 := paired_eq pr
      rw [hlen, range_map] at e2
      rw [e2] at e
      walk_at "go"
      refine s_sumE (SqL.of e) ?_
      exact k _ r'

theorem ok_Form_evaluate (T : Txt mg) (FC : FormC K mg C) (MU : OwnI K C .Mult) (NE : NeC K C) (EF : EF K mg C X_InputError X_InvalidName X_InvalidFactor X_InvalidValues X_NotAForm X_InvalidText X_StateError X_RunError X_LimitError) (D : AtM K C "evaluate" "Form.evaluate" s_Form_evaluate) (h_check_values : HasX P w K mg base "check_values" s_check_values ["value", "symbols"] 5 (spCheckVX K X_InvalidValues)) (h_numbers_of : Has P w K mg base CX0 "numbers_of" s_numbers_of ["values"] 1 (spNumbersOf K)) (h_value_by : Has P w K mg base CX0 "value_by" s_value_by ["form", "numbers"] 1 (spValueBy C)) :
    HasMX P w K mg base C "evaluate" s_Form_evaluate ["self", "values"] 6 (spEvalX C X_InvalidValues) := by
  have nd := sc_Form_evaluate.nd
  refine hasMX_mk D sc_Form_evaluate (fun vs H Q E h => ?len) (fun _ _ _ _ _ _ us hl => match us, hl with | [_, _], _ => rfl) (fun f cdv A outer s H vs Q E hr hgd h => ?bd)
  case len =>
    obtain ⟨x, v, q, rfl, _⟩ := h
    rfl
  case bd =>
    obtain ⟨x, v, q, rfl, ⟨a, dx, t0, y, xs0, rfl, fi⟩, h⟩ := h
    have fcls := FC.cls
    have fnt := FC.nt
    have fns := FC.ns
    have fnx := FC.nx
    have fins := fi.ins
    have hlq := fi.rb.len
    refine ⟨_, (pss_cons (ps_expr (peHX h_check_values passX (hr.mono (by decide)) hgd rfl (pa_cons (pv 1) (pa_cons (fldK K (he := (pv 0))) pa_nil))))
      (pss_one (ps_ret (peH h_value_by (hr.mono (by decide)) hgd rfl (pa_cons (pv 0) (pa_cons (peH h_numbers_of (hr.mono (by decide)) hgd rfl (pa_cons (pv 1) pa_nil)) pa_nil)))))), ?_⟩
    walk_at "go"
    refine ⟨v, y, keysR q, rfl, SqT.of fi.sy, by unfold keysR; simp; omega, ?_⟩
    rcases h with ⟨t, xs, r, rfl, va, hk, k⟩ | ⟨bad, k⟩
    · refine .inl ⟨t, xs, r, rfl, va, hk, fun H1 r1 => ?_⟩
      have va1 := va.same r1
      have hlr := va.len
      walk_at "go"
      refine ⟨t, xs, r, rfl, SqT.of va1.tu, va1.prs, va.nodup, by omega, fun d H2 hd r2 e2 => ?_⟩
      have r12 := Same.trans r1 r2
      walk_at "go"
      exact ⟨_, d, q, r, rfl, ⟨a, dx, t0, y, xs0, rfl, fi.same r12⟩, e2, hk, va.bd, fun H3 r3 => k H3 (Same.trans r12 r3)⟩
    · exact .inr ⟨bad, k⟩

theorem ok_check_form (T : Txt mg) (FC : FormC K mg C) (MU : OwnI K C .Mult) (NE : NeC K C) (EF : EF K mg C X_InputError X_InvalidName X_InvalidFactor X_InvalidValues X_NotAForm X_InvalidText X_StateError X_RunError X_LimitError) (D : At K mg "check_form" s_check_form) (h_NotAForm__init_ : HasE P w K mg base "NotAForm" "value" X_NotAForm 1) :
    HasX P w K mg base "check_form" s_check_form ["value"] 3 (spCheckFX X_NotAForm) := by
  have nd := sc_check_form.nd
  refine hasX_mk D sc_check_form (fun vs H Q E h => ?len) (fun _ _ _ _ _ _ us hl => match us, hl with | [_], _ => rfl) (fun f cdv A outer s H vs Q E hr hgd h => ?bd)
  case len =>
    obtain ⟨v, A0, rfl, _⟩ := h
    rfl
  case bd =>
    obtain ⟨v, A0, rfl, t, k⟩ := h
    refine ⟨_, (pss_one (ps_if (pt_not (pt_val (pe_callB (isiK K) rfl T.b_isinstance (by decide +kernel) (pa_cons (pv 0) (pa_cons (pe_glob (v := .ref C) rfl FC.at_ rfl) pa_nil))))) (pss_one (ps_raiseE rfl h_NotAForm__init_ (hr.mono (by decide)) hgd takesX rfl (pa_cons (pv 0) pa_nil))) pss_nil)), ?_⟩
    walk_at "go"
    refine s_isNo NE (fun T hT => (EF.oA T hT).sub) t ?_
    walk_at "go"
    exact fun d hd => k d _ (Same.refl _) hd

theorem ok_Form__add_ (T : Txt mg) (FC : FormC K mg C) (MU : OwnI K C .Mult) (NE : NeC K C) (EF : EF K mg C X_InputError X_InvalidName X_InvalidFactor X_InvalidValues X_NotAForm X_InvalidText X_StateError X_RunError X_LimitError) (D : AtM K C "__add__" "Form.__add__" s_Form__add_) (h_check_form : HasX P w K mg base "check_form" s_check_form ["value"] 3 (spCheckFX X_NotAForm)) :
    HasMX P w K mg base C "__add__" s_Form__add_ ["self", "other"] 4 (spOpX C X_NotAForm) := by
  have nd := sc_Form__add_.nd
  refine hasMX_mk D sc_Form__add_ (fun vs H Q E h => ?len) (fun _ _ _ _ _ _ us hl => match us, hl with | [_, _], _ => rfl) (fun f cdv A outer s H vs Q E hr hgd h => ?bd)
  case len =>
    obtain ⟨x, v, A0, q, rfl, _⟩ := h
    rfl
  case bd =>
    obtain ⟨x, v, A0, q, rfl, fa, t, k⟩ := h
    refine ⟨_, (pss_cons (ps_expr (peHX h_check_form passX (hr.mono (by decide)) hgd rfl (pa_cons (pv 1) pa_nil)))
      (pss_cons ps_never
      (pss_one ps_never))), ?_⟩
    walk_at "go"
    exact ⟨v, A0, rfl, t, k⟩

theorem ok_is_integer_x (T : Txt mg) (FC : FormC K mg C) (MU : OwnI K C .Mult) (NE : NeC K C) (EF : EF K mg C X_InputError X_InvalidName X_InvalidFactor X_InvalidValues X_NotAForm X_InvalidText X_StateError X_RunError X_LimitError) (D : At K mg "is_integer" s_is_integer) :
    Has P w K mg base CX0 "is_integer" s_is_integer ["value"] 1 (spIsInt C) := by
  have nd := sc_is_integer.nd
  refine has_mk D sc_is_integer (fun vs H Q E h => ?len) (fun _ _ _ _ _ _ us hl => match us, hl with | [_], _ => rfl) (fun f cdv A outer s H vs Q E hr hgd h => ?bd)
  case len =>
    obtain ⟨v, rfl, _⟩ := h
    rfl
  case bd =>
    obtain ⟨v, rfl, ni, k⟩ := h
    refine ⟨_, (pss_one (ps_ret (pe_and (pe_callB (isiK K) rfl T.b_isinstance (by decide +kernel) (pa_cons (pv 0) (pa_cons (pe_bltn (v := .ty "int") rfl T.b_int (by decide +kernel) rfl) pa_nil))) (pe_one (pe_not (pe_callB (isiK K) rfl T.b_isinstance (by decide +kernel) (pa_cons (pv 0) (pa_cons (pe_bltn (v := .ty "bool") rfl T.b_bool (by decide +kernel) rfl) pa_nil)))))))), ?_⟩
    rcases ni with ⟨A0, t, e0⟩ | ⟨q, fa⟩
    · walk_at "go"
      refine ite_b (fun e => ?_) (fun e => ?_)
      · walk_at "go"
        exact rtb (k _ (Same.refl _)) (by cases v <;> first | rfl | (simp [isI, isB] at e e0))
      · exact rtb (k _ (Same.refl _)) (by cases v <;> first | rfl | (simp [isI, isB] at e e0))
    · walk_at "go"
      refine s_isF FC EF.kI fa ?_
      walk_at "go"
      exact k _ (Same.refl _)

theorem ok_Form__mul_ (T : Txt mg) (FC : FormC K mg C) (MU : OwnI K C .Mult) (NE : NeC K C) (EF : EF K mg C X_InputError X_InvalidName X_InvalidFactor X_InvalidValues X_NotAForm X_InvalidText X_StateError X_RunError X_LimitError) (D : AtM K C "__mul__" "Form.__mul__" s_Form__mul_) (h_InvalidFactor__init_ : HasE P w K mg base "InvalidFactor" "value" X_InvalidFactor 1) (h_is_integer_x : Has P w K mg base CX0 "is_integer" s_is_integer ["value"] 1 (spIsInt C)) :
    HasMX P w K mg base C "__mul__" s_Form__mul_ ["self", "other"] 3 (spMulX C X_InvalidFactor) := by
  have nd := sc_Form__mul_.nd
  refine hasMX_mk D sc_Form__mul_ (fun vs H Q E h => ?len) (fun _ _ _ _ _ _ us hl => match us, hl with | [_, _], _ => rfl) (fun f cdv A outer s H vs Q E hr hgd h => ?bd)
  case len =>
    obtain ⟨x, v, q, rfl, _⟩ := h
    rfl
  case bd =>
    obtain ⟨x, v, q, rfl, fa, t, k⟩ := h
    refine ⟨_, (pss_cons (ps_if (pt_not (pt_val (peH h_is_integer_x (hr.mono (by decide)) hgd rfl (pa_cons (pv 1) pa_nil)))) (pss_one (ps_raiseE rfl h_InvalidFactor__init_ (hr.mono (by decide)) hgd takesX rfl (pa_cons (pv 1) pa_nil))) pss_nil)
      (pss_cons ps_never
      (pss_one ps_never))), ?_⟩
    walk_at "go"
    refine ⟨v, rfl, t, fun H1 r1 => ?_⟩
    walk_at "go"
    exact fun d hd => k d _ r1 hd

theorem ok_Form__sub_ (T : Txt mg) (FC : FormC K mg C) (MU : OwnI K C .Mult) (NE : NeC K C) (EF : EF K mg C X_InputError X_InvalidName X_InvalidFactor X_InvalidValues X_NotAForm X_InvalidText X_StateError X_RunError X_LimitError) (D : AtM K C "__sub__" "Form.__sub__" s_Form__sub_) (h_check_form : HasX P w K mg base "check_form" s_check_form ["value"] 3 (spCheckFX X_NotAForm)) :
    HasMX P w K mg base C "__sub__" s_Form__sub_ ["self", "other"] 4 (spOpX C X_NotAForm) := by
  have nd := sc_Form__sub_.nd
  refine hasMX_mk D sc_Form__sub_ (fun vs H Q E h => ?len) (fun _ _ _ _ _ _ us hl => match us, hl with | [_, _], _ => rfl) (fun f cdv A outer s H vs Q E hr hgd h => ?bd)
  case len =>
    obtain ⟨x, v, A0, q, rfl, _⟩ := h
    rfl
  case bd =>
    obtain ⟨x, v, A0, q, rfl, fa, t, k⟩ := h
    refine ⟨_, (pss_cons (ps_expr (peHX h_check_form passX (hr.mono (by decide)) hgd rfl (pa_cons (pv 1) pa_nil)))
      (pss_cons ps_never
      (pss_one ps_never))), ?_⟩
    walk_at "go"
    exact ⟨v, A0, rfl, t, k⟩

theorem ok__law_joined (T : Txt mg) (FC : FormC K mg C) (MU : OwnI K C .Mult) (NE : NeC K C) (EF : EF K mg C X_InputError X_InvalidName X_InvalidFactor X_InvalidValues X_NotAForm X_InvalidText X_StateError X_RunError X_LimitError) (D : At K mg "_law_joined" s__law_joined) (h_Form__add_ : HasMX P w K mg base C "__add__" s_Form__add_ ["self", "other"] 4 (spOpX C X_NotAForm)) (h_Form__mul_ : HasMX P w K mg base C "__mul__" s_Form__mul_ ["self", "other"] 3 (spMulX C X_InvalidFactor)) (h_Form__sub_ : HasMX P w K mg base C "__sub__" s_Form__sub_ ["self", "other"] 4 (spOpX C X_NotAForm)) :
    HasX P w K mg base "_law_joined" s__law_joined ["_law_way", "_law_form", "_law_other"] 5 (spJoinX C X_NotAForm X_InvalidFactor) := by
  have nd := sc__law_joined.nd
  refine hasX_mk D sc__law_joined (fun vs H Q E h => ?len) (fun _ _ _ _ _ _ us hl => match us, hl with | [_, _, _], _ => rfl) (fun f cdv A outer s H vs Q E hr hgd h => ?bd)
  case len =>
    obtain ⟨w, x, v, q, rfl, _⟩ := h
    rfl
  case bd =>
    obtain ⟨w, x, v, q, rfl, w0, w3, fa, h⟩ := h
    have fa' := fa
    obtain ⟨a, dx, t, y, xs, rfl, fi⟩ := fa'
    refine ⟨_, (pss_cons (ps_if (pt_cmpR op_eq (pv 0) pe_int (nomark _)) (pss_one (ps_ret (pe_op (opHTX (op := .Add) K h_Form__add_ passX FC.sf (hr.mono (by decide)) hgd) (pv 1) (pv 2)))) pss_nil)
      (pss_one (ps_ret (pe_ifExp (pt_cmpR op_eq (pv 0) pe_int (nomark _)) (pe_op (opHTX (op := .Sub) K h_Form__sub_ passX FC.sf (hr.mono (by decide)) hgd) (pv 1) (pv 2)) (pe_op (opHTX (op := .Mult) K h_Form__mul_ passX FC.sf (hr.mono (by decide)) hgd) (pv 1) (pv 2)))))), ?_⟩
    walk_at "go"
    refine ite_b (fun e => ?_) (fun e => ?_)
    · have e0 : w = 0 := by simpa using e
      rcases h with ⟨_, ⟨A0, th⟩, k⟩ | ⟨e2, _⟩
      · walk_at "go"
        obtain ⟨T, m, kt⟩ := th.kind K
        exact ⟨a, dx, _, rfl, fi.ins, .inl ⟨T, kt, EF.oA T m⟩, _, v, A0, q, rfl, fa, th, k⟩
      · omega
    · have e0 : ¬ w = 0 := by simpa using e
      walk_at "go"
      refine ite_b (fun e => ?_) (fun e => ?_)
      · have e1 : w = 1 := by simpa using e
        rcases h with ⟨_, ⟨A0, th⟩, k⟩ | ⟨e2, _⟩
        · walk_at "go"
          obtain ⟨T, m, kt⟩ := th.kind K
          exact ⟨a, dx, _, rfl, fi.ins, .inl ⟨T, kt, EF.oS T m⟩, _, v, A0, q, rfl, fa, th, k⟩
        · omega
      · have e1 : ¬ w = 1 := by simpa using e
        rcases h with ⟨e2, _⟩ | ⟨_, ni, k⟩
        · omega
        · walk_at "go"
          refine ⟨a, dx, _, rfl, fi.ins, ?_, _, v, q, rfl, fa, ni, k⟩
          rcases ni with ⟨A0, th, _⟩ | ⟨q2, fb⟩
          · obtain ⟨T, m, kt⟩ := th.kind K
            exact .inl ⟨T, kt, EF.oM T m⟩
          · obtain ⟨b, dy, t2, y2, xs2, rfl, fj⟩ := fb
            exact .inr ⟨b, dy, _, rfl, fj.ins⟩

theorem gives_told {X : Cx} {k : Nat} {q : Str} (T : Txt X.mg) (EF : EF X.K X.mg C X_InputError X_InvalidName X_InvalidFactor X_InvalidValues X_NotAForm X_InvalidText X_StateError X_RunError X_LimitError) (h_Form__repr__x : HasQ X.prog X.w X.K X.mg X.base C "__repr__" ["self"] 1 (spReprF C)) (hrk : 4 ≤ k) : Gives X N__law_told "_law_told" s__law_told "_law_act" q k (TT5 X.K C X_InputError X_InvalidName X_InvalidFactor X_InvalidValues X_NotAForm X_InvalidText X_StateError X_RunError X_LimitError) := by
  intro g f c' cdg s H Q tl hr hgd act hc htt
  have nd := sc__law_told.nd
  refine ⟨_, pss_one (ps_try_as (X := (cxOf CX0 X.prog X.w X.K X.mg X.base N__law_told "_law_told" (defScope s__law_told) g cdg X.A X.stack s H E0).nox) (i := 1) (c := .ref X_InputError)
    (tb := fun W D σ H => σ[0]? = some (some (.ref f)) ∧ H c' = some (LamX.CodeO c' q) ∧ ∀ Q0, tl (fun cls d H' => W cls d σ H') H Q0)
    rfl rfl nd rfl rfl ⟨rfl, by decide, .inl EF.g_InputError⟩ L2.takes0 (fun W pn xe tk po => ?body) (fun a oe cls d pn hz hf => (pss_cons (ps_set (i := 2) nd rfl (Or.inl rfl) (pe_lst (pa_cons (pe_callB (call_isX X.K hz hf) rfl T.b_isinstance (by decide +kernel) (pa_cons (pv 1) (pa_cons (pe_glob (v := .ref X_InvalidName) rfl EF.g_InvalidName rfl) pa_nil))) (pa_cons (pe_callB (call_isX X.K hz hf) rfl T.b_isinstance (by decide +kernel) (pa_cons (pv 1) (pa_cons (pe_glob (v := .ref X_InvalidFactor) rfl EF.g_InvalidFactor rfl) pa_nil))) (pa_cons (pe_callB (call_isX X.K hz hf) rfl T.b_isinstance (by decide +kernel) (pa_cons (pv 1) (pa_cons (pe_glob (v := .ref X_InvalidValues) rfl EF.g_InvalidValues rfl) pa_nil))) pa_nil)))))
      (pss_cons (ps_set (i := 2) nd rfl (Or.inl rfl) (pe_op op_cat (pv 2) (pe_lst (pa_cons (pe_callB (call_isX X.K hz hf) rfl T.b_isinstance (by decide +kernel) (pa_cons (pv 1) (pa_cons (pe_glob (v := .ref X_NotAForm) rfl EF.g_NotAForm rfl) pa_nil))) (pa_cons (pe_callB (call_isX X.K hz hf) rfl T.b_isinstance (by decide +kernel) (pa_cons (pv 1) (pa_cons (pe_glob (v := .ref X_InvalidText) rfl EF.g_InvalidText rfl) pa_nil))) pa_nil)))))
      (pss_cons (ps_set (i := 3) nd rfl (Or.inl rfl) (pe_lst (pa_cons (pe_callB (call_isX X.K hz hf) rfl T.b_isinstance (by decide +kernel) (pa_cons (pv 1) (pa_cons (pe_glob (v := .ref X_StateError) rfl EF.g_StateError rfl) pa_nil))) (pa_cons (pe_callB (call_isX X.K hz hf) rfl T.b_isinstance (by decide +kernel) (pa_cons (pv 1) (pa_cons (pe_glob (v := .ref X_RunError) rfl EF.g_RunError rfl) pa_nil))) (pa_cons (pe_callB (call_isX X.K hz hf) rfl T.b_isinstance (by decide +kernel) (pa_cons (pv 1) (pa_cons (pe_glob (v := .ref X_LimitError) rfl EF.g_LimitError rfl) pa_nil))) pa_nil)))))
      (pss_cons (ps_if (PW.pt (pw_or (pt_cmpR op_ne (cntK X.K (ho := (pv 2)) (ha := (pa_cons pe_bl pa_nil))) pe_int (nomark _)) (pw_or (pt_cmpR (inQ X.K) pe_bl (pv 3) rfl) (pw_or1 (pt_not (pt_val (pe_callB (call_isX X.K hz hf) rfl T.b_isinstance (by decide +kernel) (pa_cons (pv 1) (pa_cons (pe_bltn (v := .ty "ValueError") rfl T.b_ValueError (by decide +kernel) rfl) pa_nil))))))))) (pss_one (ps_ret (pe_lst (pa_cons pe_str (pa_cons pe_str pa_nil))))) pss_nil)
      (pss_one (ps_ret (pe_lst (pa_cons (pe_ix (ixL X.K) (pe_lst (pa_cons pe_str (pa_cons pe_str (pa_cons pe_str (pa_cons pe_str (pa_cons pe_str pa_nil)))))) (idxK X.K (ho := (pv 2)) (ha := (pa_cons pe_bl pa_nil))) (fun _ _ => rfl)) (pa_cons (pe_callB (callG X.K (HasQ.rpb (p := (a, oe)) h_Form__repr__x ⟨(hr.mono (show 1 + 3 ≤ k from hrk)).dp, (hr.mono (show 1 + 3 ≤ k from hrk)).un⟩ List.mem_cons_self) hgd) rfl T.b_repr (by decide +kernel) (pa_cons (pe_xfG X.K hz hf (pv 1)) pa_nil)) pa_nil))))))))))), ?_⟩
  case body =>
    constructor
    intro pins s' σ H' D I h'
    obtain ⟨h1, h2, h3⟩ := h'
    have hp := fun p1 p2 => act W pn xe p1 p2 tk
    exact PSs.run (pss_one (ps_ret (pe_lst (pa_cons pe_str (pa_cons (hp _ _) pa_nil))))) pins s' σ H' D I ⟨h1, h2, h3 _⟩
  refine ⟨rfl, hc, fun Q0 => htt _ Q0 fun cls d H' w => ?_⟩
  obtain ⟨D, dd, y, z, i, rfl, rfl, hx, er, ek, xf, no, rp, hz, kq⟩ := w
  refine ⟨true, er.exm, fun _ a ha => ?_, fun e => nomatch e⟩
  refine s_st (σ' := [some (.ref f), some (.ref a), none, none]) rfl ?_
  have lt := er.lt
  walk_at "go"
  refine s_isXR hx ek er.k0 ?_
  walk_at "go"
  refine s_isXR hx ek er.k1 ?_
  walk_at "go"
  refine s_isXR hx ek er.k2 ?_
  walk_at "go"
  refine s_mk fun l1 H1 hl1 r1 e1 => ?_
  have hx1 := r1 _ _ hx
  walk_at "go"
  refine s_isXR hx1 ek er.k3 ?_
  walk_at "go"
  refine s_isXR hx1 ek er.k4 ?_
  walk_at "go"
  refine s_mk fun l2 H2 hl2 r2 e2 => ?_
  have hx2 := r2 _ _ hx1
  have e12 := r2 _ _ e1
  walk_at "go"
  refine s_cat e12 e2 (sz1 (by simp)) fun l3 H3 hl3 r3 e3 => ?_
  have hx3 := r3 _ _ hx2
  have e3 : H3 l3 = some (.lst ((bsK i).map V.bl)) := e3
  clear e12 e2 e1
  walk_at "go"
  refine s_isXR hx3 ek er.s0 ?_
  walk_at "go"
  refine s_isXR hx3 ek er.s1 ?_
  walk_at "go"
  refine s_isXR hx3 ek er.s2 ?_
  walk_at "go"
  refine s_mk fun l4 H4 hl4 r4 e4 => ?_
  have hx4 := r4 _ _ hx3
  have e34 := r4 _ _ e3
  walk_at "go"
  refine s_cntB e34 (bsK_count lt) ?_
  walk_at "go"
  refine ite_f rfl ?_
  walk_at "go"
  refine s_in (SqL.of e4) rfl rfl ?_
  walk_at "go"
  refine ite_f rfl ?_
  walk_at "go"
  refine s_isXT hx4 ek er.ve ?_
  walk_at "go"
  refine s_mk fun l5 H5 hl5 r5 e5 => ?_
  have e35 := r5 _ _ e34
  have hx5 := r5 _ _ hx4
  walk_at "go"
  refine s_idxB e35 lt ?_
  walk_at "go"
  refine s_ixL (SqL.of e5) (kindL_at lt) ?_
  walk_at "go"
  refine s_xf0 ⟨_, rfl, D, dd, _, _, rfl, rfl, xf, no, rfl, hx5, rfl, ?_⟩
  walk_at "go"
  have rr : Same H' H5 := (r1.trans r2).trans (r3.trans (r4.trans r5))
  refine s_reprG (rp.same rr) ?_
  walk_at "go"
  refine s_mk fun l6 H6 hl6 r6 e6 => ?_
  exact kq l6 H6 (rr.free hl6) (rr.trans r6) e6

theorem ok__law_keywords_right (T : Txt mg) (FC : FormC K mg C) (MU : OwnI K C .Mult) (NE : NeC K C) (EF : EF K mg C X_InputError X_InvalidName X_InvalidFactor X_InvalidValues X_NotAForm X_InvalidText X_StateError X_RunError X_LimitError) (D : At K mg "_law_keywords_right" s__law_keywords_right) (TB__law_keywords_right : ∃ c, CodeIs K mg "_law_keywords_right" s__law_keywords_right c ∧ TabB base mg c P__law_keywords_right) (h_Form__init__x : HasKX P w K mg base C "Form" 3 (spMakeX X_InvalidName X_InvalidFactor)) (h_Form__repr_ : HasR P w K mg base C "__repr__" ["self"] 1 (spReprF C)) (h_Form__repr__x : HasQ P w K mg base C "__repr__" ["self"] 1 (spReprF C)) (h_InvalidFactor__init_ : HasE P w K mg base "InvalidFactor" "value" X_InvalidFactor 1) (h_InvalidName__init_ : HasE P w K mg base "InvalidName" "value" X_InvalidName 1) (h_InvalidValues__init_ : HasE P w K mg base "InvalidValues" "value" X_InvalidValues 1) (h_NotAForm__init_ : HasE P w K mg base "NotAForm" "value" X_NotAForm 1) (h__law_told : At K mg "_law_told" s__law_told) :
    Has P w K mg base CX0 "_law_keywords_right" s__law_keywords_right [] 10 (spKw5 P__law_keywords_right) := by
  have nd := sc__law_keywords_right.nd
  obtain ⟨cT, TC, TB⟩ := TB__law_keywords_right
  refine hasL_mk D TC sc__law_keywords_right (fun vs H Q E h => ?len) (fun _ _ _ _ _ _ us hl => match us, hl with | [], _ => rfl) (fun f A outer s H vs Q E hr hgd h => ?bd)
  case len =>
    obtain ⟨TS, rfl, _⟩ := h
    rfl
  case bd =>
    obtain ⟨TS, rfl, hT, hmT, huT, k⟩ := h
    refine ⟨_, (pss_cons (ps_set (i := 0) nd rfl (Or.inl rfl) (pe_lst (pa_cons (pe_lamG (k := 6) (c := cT) (P := P__law_keywords_right) (T := TS) (t := fun E' => _) h__law_told rfl sc__law_told (fun _ _ _ _ _ _ us hl => match us, hl with | [_], _ => rfl) (gives_told T EF h_Form__repr__x (by decide)) TB rfl hmT huT (hr.mono (by decide)) hgd (lamS_by (show lamSB (defScope s__law_keywords_right) _ = true by decide +kernel)) rfl (fun _ _ _ _ _ => rfl) (fun A outer s H E' f c' hr hgd => (peMkZX (ks := ["a", "view", "Cap"]) h_Form__init__x passL2 (hr.mono (by decide)) hgd rfl (pk_cons pe_int (pk_cons pe_int (pk_cons pe_int pk_nil))))) rfl) pa_nil)))
      (pss_cons (ps_expr (appendK K (ho := (pv 0)) (ha := (pa_cons (pe_lamG (k := 6) (c := cT) (P := P__law_keywords_right) (T := TS) (t := fun E' => _) h__law_told rfl sc__law_told (fun _ _ _ _ _ _ us hl => match us, hl with | [_], _ => rfl) (gives_told T EF h_Form__repr__x (by decide)) TB rfl hmT huT (hr.mono (by decide)) hgd (lamS_by (show lamSB (defScope s__law_keywords_right) _ = true by decide +kernel)) rfl (fun _ _ _ _ _ => rfl) (fun A outer s H E' f c' hr hgd => (peMkZX (ks := ["a", "Cap", "view"]) h_Form__init__x passL2 (hr.mono (by decide)) hgd rfl (pk_cons pe_non (pk_cons pe_int (pk_cons pe_int pk_nil))))) rfl) pa_nil))))
      (pss_cons (ps_expr (appendK K (ho := (pv 0)) (ha := (pa_cons (pe_lamG (k := 6) (c := cT) (P := P__law_keywords_right) (T := TS) (t := fun E' => _) h__law_told rfl sc__law_told (fun _ _ _ _ _ _ us hl => match us, hl with | [_], _ => rfl) (gives_told T EF h_Form__repr__x (by decide)) TB rfl hmT huT (hr.mono (by decide)) hgd (lamS_by (show lamSB (defScope s__law_keywords_right) _ = true by decide +kernel)) rfl (fun _ _ _ _ _ => rfl) (fun A outer s H E' f c' hr hgd => (peMkZX (ks := ["abcdefghi", "b"]) h_Form__init__x passL2 (hr.mono (by decide)) hgd rfl (pk_cons pe_int (pk_cons pe_bl pk_nil)))) rfl) pa_nil))))
      (pss_cons (ps_expr (appendK K (ho := (pv 0)) (ha := (pa_cons (pe_lamG (k := 6) (c := cT) (P := P__law_keywords_right) (T := TS) (t := fun E' => _) h__law_told rfl sc__law_told (fun _ _ _ _ _ _ us hl => match us, hl with | [_], _ => rfl) (gives_told T EF h_Form__repr__x (by decide)) TB rfl hmT huT (hr.mono (by decide)) hgd (lamS_by (show lamSB (defScope s__law_keywords_right) _ = true by decide +kernel)) rfl (fun _ _ _ _ _ => rfl) (fun A outer s H E' f c' hr hgd => (peMkZX (ks := ["a_b"]) h_Form__init__x passL2 (hr.mono (by decide)) hgd rfl (pk_cons pe_str pk_nil))) rfl) pa_nil))))
      (pss_cons (ps_expr (appendK K (ho := (pv 0)) (ha := (pa_cons (pe_lamG (k := 6) (c := cT) (P := P__law_keywords_right) (T := TS) (t := fun E' => _) h__law_told rfl sc__law_told (fun _ _ _ _ _ _ us hl => match us, hl with | [_], _ => rfl) (gives_told T EF h_Form__repr__x (by decide)) TB rfl hmT huT (hr.mono (by decide)) hgd (lamS_by (show lamSB (defScope s__law_keywords_right) _ = true by decide +kernel)) rfl (fun _ _ _ _ _ => rfl) (fun A outer s H E' f c' hr hgd => (peMkZX (ks := ["a", "b", "c"]) h_Form__init__x passL2 (hr.mono (by decide)) hgd rfl (pk_cons pe_int (pk_cons pe_bl (pk_cons pe_non pk_nil))))) rfl) pa_nil))))
      (pss_cons (ps_expr (appendK K (ho := (pv 0)) (ha := (pa_cons (pe_lamG (k := 6) (c := cT) (P := P__law_keywords_right) (T := TS) (t := fun E' => _) h__law_told rfl sc__law_told (fun _ _ _ _ _ _ us hl => match us, hl with | [_], _ => rfl) (gives_told T EF h_Form__repr__x (by decide)) TB rfl hmT huT (hr.mono (by decide)) hgd (lamS_by (show lamSB (defScope s__law_keywords_right) _ = true by decide +kernel)) rfl (fun _ _ _ _ _ => rfl) (fun A outer s H E' f c' hr hgd => (peMkZX (ks := ["cap", "head"]) h_Form__init__x passL2 (hr.mono (by decide)) hgd rfl (pk_cons pe_str (pk_cons (pe_tup (pa_cons pe_int pa_nil)) pk_nil)))) rfl) pa_nil))))
      (pss_cons (ps_expr (appendK K (ho := (pv 0)) (ha := (pa_cons (pe_lamG (k := 6) (c := cT) (P := P__law_keywords_right) (T := TS) (t := fun E' => _) h__law_told rfl sc__law_told (fun _ _ _ _ _ _ us hl => match us, hl with | [_], _ => rfl) (gives_told T EF h_Form__repr__x (by decide)) TB rfl hmT huT (hr.mono (by decide)) hgd (lamS_by (show lamSB (defScope s__law_keywords_right) _ = true by decide +kernel)) rfl (fun _ _ _ _ _ => rfl) (fun A outer s H E' f c' hr hgd => (peMkZX (ks := ["head"]) h_Form__init__x passL2 (hr.mono (by decide)) hgd rfl (pk_cons pe_bl pk_nil))) rfl) pa_nil))))
      (pss_cons (ps_set (i := 1) nd rfl (Or.inl rfl) (pe_lst (pa_cons (pe_lst (pa_cons pe_str (pa_cons pe_str pa_nil))) (pa_cons (pe_lst (pa_cons pe_str (pa_cons pe_str pa_nil))) (pa_cons (pe_lst (pa_cons pe_str (pa_cons pe_str pa_nil))) (pa_cons (pe_lst (pa_cons pe_str (pa_cons pe_str pa_nil))) (pa_cons (pe_lst (pa_cons pe_str (pa_cons pe_str pa_nil))) pa_nil)))))))
      (pss_one (ps_ret (pe_cmpR (eqPK K (hu := hr.units)) (pv 0) (pe_op op_cat (pv 1) (pe_lst (pa_cons (pe_lst (pa_cons pe_str (pa_cons pe_str pa_nil))) (pa_cons (pe_lst (pa_cons pe_str (pa_cons pe_str pa_nil))) pa_nil)))) (nomark _)))))))))))), ?_⟩
    have T0 := hT
    refine s_st (σ' := [none, none]) rfl ?_
    walk_at "go"
    refine s_lam T0 fun A1 ex1 T1 E1 Q1 hE1 => ?_
    walk_at "go"
    refine kwX (i := 0) (y := .str "view") (z := "'view'") hE1 rfl EF.r_InvalidName h_InvalidName__init_.1.exK h_InvalidName__init_.1.xf h_InvalidName__init_.1.no (by decide +kernel) (by decide +kernel) (by decide) (by intro p hp; simp only [List.zip_cons_cons, List.zip_nil_right, List.mem_cons, List.not_mem_nil, or_false] at hp; rcases hp with rfl | rfl | rfl <;> exact ⟨by decide, fun _ _ _ _ => by first | trivial | (show _ ≤ _; decide)⟩) (by kernel_rfl) (fun H' => rp_lit (.str _) (by decide +kernel)) (by decide) fun l1 B1 hl1 rl1 el1 => ?_
    walk_at "go"
    refine s_mk fun L C1 hL rL eL => ?_
    have t1 : TL C1 L _ := TL.one eL (rL _ _ el1) (fun z => by rw [z] at el1; rw [hL] at el1; cases el1)
    have T1 := tabs_same rL (tabs_same rl1 T1)
    have x1 := ext_then ex1 (ext_same (Same.trans rl1 rL))
    have nL : ∀ o, H L = some o → (∀ ps, o ≠ .tbl ps) → False := fun o e n => by
      have := ext_then ex1 (ext_same rl1) _ _ e n
      rw [hL] at this
      cases this
    clear hE1 el1 eL rL
    obtain ⟨ls1, eL1, _⟩ := id t1
    walk_at "go"
    refine s_lam T1 fun A2 ex2 T2 E2 Q2 hE2 => ?_
    have t1' := TL.ext ex2 t1
    walk_at "go"
    refine kwX (i := 0) (y := .str "Cap") (z := "'Cap'") hE2 rfl EF.r_InvalidName h_InvalidName__init_.1.exK h_InvalidName__init_.1.xf h_InvalidName__init_.1.no (by decide +kernel) (by decide +kernel) (by decide) (by intro p hp; simp only [List.zip_cons_cons, List.zip_nil_right, List.mem_cons, List.not_mem_nil, or_false] at hp; rcases hp with rfl | rfl | rfl <;> exact ⟨by decide, fun _ _ _ _ => by first | trivial | (show _ ≤ _; decide)⟩) (by kernel_rfl) (fun H' => rp_lit (.str _) (by decide +kernel)) (by decide) fun l2 B2 hl2 rl2 el2 => ?_
    have t1'' := TL.same rl2 t1'
    walk_at "go"
    refine s_appTL t1'' (by simp) (fun z => by obtain ⟨_, e0, _⟩ := t1'; rw [z, e0] at hl2; cases hl2) el2 fun C2 hC2 t2 => ?_
    have T2 := tabs_but t1'' hC2 (tabs_same rl2 T2)
    have x2 := ext_but nL hC2 (ext_then x1 (ext_then ex2 (ext_same rl2)))
    clear hE2 el2 t1 t1' t1''
    obtain ⟨ls2, eL2, _⟩ := id t2
    walk_at "go"
    refine s_lam T2 fun A3 ex3 T3 E3 Q3 hE3 => ?_
    have t2' := TL.ext ex3 t2
    walk_at "go"
    refine kwX (i := 0) (y := .str "abcdefghi") (z := "'abcdefghi'") hE3 rfl EF.r_InvalidName h_InvalidName__init_.1.exK h_InvalidName__init_.1.xf h_InvalidName__init_.1.no (by decide +kernel) (by decide +kernel) (by decide) (by intro p hp; simp only [List.zip_cons_cons, List.zip_nil_right, List.mem_cons, List.not_mem_nil, or_false] at hp; rcases hp with rfl | rfl <;> exact ⟨by decide, fun _ _ _ _ => by first | trivial | (show _ ≤ _; decide)⟩) (by kernel_rfl) (fun H' => rp_lit (.str _) (by decide +kernel)) (by decide) fun l3 B3 hl3 rl3 el3 => ?_
    have t2'' := TL.same rl3 t2'
    walk_at "go"
    refine s_appTL t2'' (by simp) (fun z => by obtain ⟨_, e0, _⟩ := t2'; rw [z, e0] at hl3; cases hl3) el3 fun C3 hC3 t3 => ?_
    have T3 := tabs_but t2'' hC3 (tabs_same rl3 T3)
    have x3 := ext_but nL hC3 (ext_then x2 (ext_then ex3 (ext_same rl3)))
    clear hE3 el3 t2 t2' t2''
    obtain ⟨ls3, eL3, _⟩ := id t3
    walk_at "go"
    refine s_lam T3 fun A4 ex4 T4 E4 Q4 hE4 => ?_
    have t3' := TL.ext ex4 t3
    walk_at "go"
    refine kwX (i := 0) (y := .str "a_b") (z := "'a_b'") hE4 rfl EF.r_InvalidName h_InvalidName__init_.1.exK h_InvalidName__init_.1.xf h_InvalidName__init_.1.no (by decide +kernel) (by decide +kernel) (by decide) (by intro p hp; simp only [List.zip_cons_cons, List.zip_nil_right, List.mem_cons, List.not_mem_nil, or_false] at hp; rcases hp with rfl <;> exact ⟨by decide, fun _ _ _ _ => by first | trivial | (show _ ≤ _; decide)⟩) (by kernel_rfl) (fun H' => rp_lit (.str _) (by decide +kernel)) (by decide) fun l4 B4 hl4 rl4 el4 => ?_
    have t3'' := TL.same rl4 t3'
    walk_at "go"
    refine s_appTL t3'' (by simp) (fun z => by obtain ⟨_, e0, _⟩ := t3'; rw [z, e0] at hl4; cases hl4) el4 fun C4 hC4 t4 => ?_
    have T4 := tabs_but t3'' hC4 (tabs_same rl4 T4)
    have x4 := ext_but nL hC4 (ext_then x3 (ext_then ex4 (ext_same rl4)))
    clear hE4 el4 t3 t3' t3''
    obtain ⟨ls4, eL4, _⟩ := id t4
    walk_at "go"
    refine s_lam T4 fun A5 ex5 T5 E5 Q5 hE5 => ?_
    have t4' := TL.ext ex5 t4
    walk_at "go"
    refine kwX (i := 1) (y := .bl true) (z := "True") hE5 rfl EF.r_InvalidFactor h_InvalidFactor__init_.1.exK h_InvalidFactor__init_.1.xf h_InvalidFactor__init_.1.no (by decide +kernel) (by decide +kernel) (by decide) (by intro p hp; simp only [List.zip_cons_cons, List.zip_nil_right, List.mem_cons, List.not_mem_nil, or_false] at hp; rcases hp with rfl | rfl | rfl <;> exact ⟨by decide, fun _ _ _ _ => by first | trivial | (show _ ≤ _; decide)⟩) (by kernel_rfl) (fun H' => rp_lit (.bl _) (by decide +kernel)) (by decide) fun l5 B5 hl5 rl5 el5 => ?_
    have t4'' := TL.same rl5 t4'
    walk_at "go"
    refine s_appTL t4'' (by simp) (fun z => by obtain ⟨_, e0, _⟩ := t4'; rw [z, e0] at hl5; cases hl5) el5 fun C5 hC5 t5 => ?_
    have T5 := tabs_but t4'' hC5 (tabs_same rl5 T5)
    have x5 := ext_but nL hC5 (ext_then x4 (ext_then ex5 (ext_same rl5)))
    clear hE5 el5 t4 t4' t4''
    obtain ⟨ls5, eL5, _⟩ := id t5
    walk_at "go"
    refine s_lam T5 fun A6 ex6 T6 E6 Q6 hE6 => ?_
    have t5' := TL.ext ex6 t5
    walk_at "go"
    refine s_mk fun tq Bq htq rq eq_ => ?_
    walk_at "go"
    have hy5 : ∀ p ∈ [(Str.ofString "cap", V.str "1"), (Str.ofString "head", V.ref tq)], p.1.length ≤ 100 ∧ ∀ (A : Addr → Prop) (H' : Hp), Same Bq H' → (∀ a, A a → Bq a = none) → Th A H' 0 p.2 := by
      intro p hp
      simp only [List.mem_cons, List.not_mem_nil, or_false] at hp
      rcases hp with rfl | rfl
      · exact ⟨by decide, fun _ _ _ _ => (show (Str.ofString "1").length ≤ 100000 by decide)⟩
      · refine ⟨show (Str.ofString "head").length ≤ 100 by decide, fun A H' sm na => ⟨fun z => ?_, .inr (.inr ⟨_, sm _ _ eq_⟩)⟩⟩
        have := na _ z
        rw [eq_] at this
        cases this
    have ho5 : ∀ p ∈ [(Str.ofString "cap", V.str "1"), (Str.ofString "head", V.ref tq)], (p.1 == "own_form") = false := by
      intro p hp
      simp only [List.mem_cons, List.not_mem_nil, or_false] at hp
      rcases hp with rfl | rfl
      · show (Str.ofString "cap" == "own_form") = false
        decide +kernel
      · show (Str.ofString "head" == "own_form") = false
        decide +kernel
    refine kwX (i := 1) (y := .str "1") (z := "'1'") hE6 rfl EF.r_InvalidFactor h_InvalidFactor__init_.1.exK h_InvalidFactor__init_.1.xf h_InvalidFactor__init_.1.no ho5 (show [Str.ofString "cap", Str.ofString "head"].Nodup by decide +kernel) (show 2 ≤ 100 by decide) hy5 (by kernel_rfl) (fun H' => rp_lit (.str _) (by decide +kernel)) (by decide) fun l6 B6 hl6 rl6 el6 => ?_
    have rl6 := Same.trans rq rl6
    have hl6 := rq.free hl6
    have t5'' := TL.same rl6 t5'
    walk_at "go"
    refine s_appTL t5'' (by simp) (fun z => by obtain ⟨_, e0, _⟩ := t5'; rw [z, e0] at hl6; cases hl6) el6 fun C6 hC6 t6 => ?_
    have T6 := tabs_but t5'' hC6 (tabs_same rl6 T6)
    have x6 := ext_but nL hC6 (ext_then x5 (ext_then ex6 (ext_same rl6)))
    clear hE6 el6 t5 t5' t5''
    obtain ⟨ls6, eL6, _⟩ := id t6
    walk_at "go"
    refine s_lam T6 fun A7 ex7 T7 E7 Q7 hE7 => ?_
    have t6' := TL.ext ex7 t6
    walk_at "go"
    refine kwX (i := 1) (y := .bl false) (z := "False") hE7 rfl EF.r_InvalidFactor h_InvalidFactor__init_.1.exK h_InvalidFactor__init_.1.xf h_InvalidFactor__init_.1.no (by decide +kernel) (by decide +kernel) (by decide) (by intro p hp; simp only [List.zip_cons_cons, List.zip_nil_right, List.mem_cons, List.not_mem_nil, or_false] at hp; rcases hp with rfl <;> exact ⟨by decide, fun _ _ _ _ => by first | trivial | (show _ ≤ _; decide)⟩) (by kernel_rfl) (fun H' => rp_lit (.bl _) (by decide +kernel)) (by decide) fun l7 B7 hl7 rl7 el7 => ?_
    have t6'' := TL.same rl7 t6'
    walk_at "go"
    refine s_appTL t6'' (by simp) (fun z => by obtain ⟨_, e0, _⟩ := t6'; rw [z, e0] at hl7; cases hl7) el7 fun C7 hC7 t7 => ?_
    have T7 := tabs_but t6'' hC7 (tabs_same rl7 T7)
    have x7 := ext_but nL hC7 (ext_then x6 (ext_then ex7 (ext_same rl7)))
    clear hE7 el7 t6 t6' t6''
    walk_at "go"
    refine s_mk fun u1 U1 hu1 ru1 eu1 => ?_
    walk_at "go"
    refine s_mk fun u2 U2 hu2 ru2 eu2 => ?_
    walk_at "go"
    refine s_mk fun u3 U3 hu3 ru3 eu3 => ?_
    walk_at "go"
    refine s_mk fun u4 U4 hu4 ru4 eu4 => ?_
    walk_at "go"
    refine s_mk fun u5 U5 hu5 ru5 eu5 => ?_
    walk_at "go"
    refine s_mk fun du Ud hdu rdu edu => ?_
    walk_at "go"
    refine s_mk fun u6 U6 hu6 ru6 eu6 => ?_
    walk_at "go"
    refine s_mk fun u7 U7 hu7 ru7 eu7 => ?_
    walk_at "go"
    refine s_mk fun dv Ue hdv rdv edv => ?_
    walk_at "go"
    refine s_cat (show Ue du = _ by walk_at "hp") edv (sz1 (by simp)) fun dm Uf hdm rdm edm => ?_
    have sF : Hide (Same C7 Uf) := ⟨by walk_at "sm"⟩
    have tF : TL Uf L ([("name", "'view'"), ("name", "'Cap'"), ("name", "'abcdefghi'"), ("name", "'a_b'"), ("factor", "True"), ("factor", "'1'"), ("factor", "False")]) := TL.same sF.get t7
    walk_at "go"
    refine ⟨.list (List.map two [("name", "'view'"), ("name", "'Cap'"), ("name", "'abcdefghi'"), ("name", "'a_b'"), ("factor", "True"), ("factor", "'1'"), ("factor", "False")]), .list (List.map two [("name", "'view'"), ("name", "'Cap'"), ("name", "'abcdefghi'"), ("name", "'a_b'"), ("factor", "True"), ("factor", "'1'"), ("factor", "False")]), TL.dp tF, .lst (SqL.of edm) ?_, rfl, rfl, ?_, ?_⟩
    · have two_dp : ∀ {u : Addr} {k z : Str}, Uf u = some (.lst [.str k, .str z]) → Dp K Uf (.ref u) (two (k, z)) := fun h => .lst (SqL.of h) (.cons (.str _) (.cons (.str _) .nil))
      exact .cons (two_dp (by walk_at "hp")) (.cons (two_dp (by walk_at "hp")) (.cons (two_dp (by walk_at "hp")) (.cons (two_dp (by walk_at "hp")) (.cons (two_dp (by walk_at "hp")) (.cons (two_dp (by walk_at "hp")) (.cons (two_dp (by walk_at "hp")) .nil))))))
    · simp [PyData.depth, PyData.depthAll, two]
    · rw [PySem.SeqAt.eqv_refl_plain _ rfl]
      walk_at "go"
      exact k _ (ext_then x7 (ext_same sF.get)) (tabs_same sF.get T7)

theorem ok_Form__str_ (T : Txt mg) (FC : FormC K mg C) (MU : OwnI K C .Mult) (NE : NeC K C) (EF : EF K mg C X_InputError X_InvalidName X_InvalidFactor X_InvalidValues X_NotAForm X_InvalidText X_StateError X_RunError X_LimitError) (D : AtM K C "__str__" "Form.__str__" s_Form__str_) :
    HasM P w K mg base C "__str__" s_Form__str_ ["self"] 1 (spStr C) := by
  have nd := sc_Form__str_.nd
  refine hasM_mk D sc_Form__str_ (fun vs H Q E h => ?len) (fun _ _ _ _ _ _ us hl => match us, hl with | [_], _ => rfl) (fun f cdv A outer s H vs Q E hr hgd h => ?bd)
  case len =>
    obtain ⟨v, q, rfl, _⟩ := h
    rfl
  case bd =>
    obtain ⟨v, q, rfl, ⟨a, dx, t, y, xs, rfl, fi⟩, hl, k⟩ := h
    have fcls := FC.cls
    have fnt := FC.nt
    have fns := FC.ns
    have fnx := FC.nx
    have fins := fi.ins
    refine ⟨_, (pss_one (ps_ret (pe_joined1 (pe_fmt (fldK K (he := (pv 0))))))), ?_⟩
    walk_at "go"
    exact k

theorem ok_text_of (T : Txt mg) (FC : FormC K mg C) (MU : OwnI K C .Mult) (NE : NeC K C) (EF : EF K mg C X_InputError X_InvalidName X_InvalidFactor X_InvalidValues X_NotAForm X_InvalidText X_StateError X_RunError X_LimitError) (D : At K mg "text_of" s_text_of) :
    Has P w K mg base CX0 "text_of" s_text_of ["terms"] 1 (spTextOf K) := by
  have nd := sc_text_of.nd
  refine has_mk D sc_text_of (fun vs H Q E h => ?len) (fun _ _ _ _ _ _ us hl => match us, hl with | [_], _ => rfl) (fun f cdv A outer s H vs Q E hr hgd h => ?bd)
  case len =>
    obtain ⟨t, xs, q, rfl, _⟩ := h
    rfl
  case bd =>
    obtain ⟨t, xs, q, rfl, ht, hp, rb, k⟩ := h
    refine ⟨_, (pss_cons (ps_set (i := 1) nd rfl (Or.inl rfl) (pe_lst pa_nil))
      (pss_cons (ps_for PassesOwn.never rfl (piT K (he := (pv 0))) (gT K (n := 2) (hc := rfl) (hg := (pgs_cons (pg_name (i := 2) nd rfl (Or.inl rfl)) (pgs_cons (pg_name (i := 3) nd rfl (Or.inl rfl)) pgs_nil))))
      (pss_cons (ps_set (i := 4) nd rfl (Or.inl rfl) (pe_ifExp (pt_cmpR op_eq (pe_callB c_abs rfl T.b_abs (by decide +kernel) (pa_cons (pv 3) pa_nil)) pe_int (nomark _)) (pv 2) (pe_joinedN (PJ.cons (pe_fmt (pe_callB c_abs rfl T.b_abs (by decide +kernel) (pa_cons (pv 3) pa_nil))) (PJ.cons pe_str (PJ.cons (pe_fmt (pv 2)) PJ.nil))))))
      (pss_one (ps_if (pt_cmpR (eqDK K (hu := hr.units)) (pv 1) (pe_lst pa_nil) (nomark _)) (pss_one (ps_expr (appendK K (ho := (pv 1)) (ha := (pa_cons (pe_ifExp (pt_cmpR op_lt (pv 3) pe_int (nomark _)) (pe_joinedN (PJ.cons pe_str (PJ.cons (pe_fmt (pv 4)) PJ.nil))) (pv 4)) pa_nil))))) (pss_one (ps_expr (appendK K (ho := (pv 1)) (ha := (pa_cons (pe_ifExp (pt_cmpR op_lt (pv 3) pe_int (nomark _)) (pe_joinedN (PJ.cons pe_str (PJ.cons (pe_fmt (pv 4)) PJ.nil))) (pe_joinedN (PJ.cons pe_str (PJ.cons (pe_fmt (pv 4)) PJ.nil)))) pa_nil)))))))))
      (pss_one (ps_ret (pe_ifExp (pt_cmpR (neDK K (hu := hr.units)) (pv 1) (pe_lst pa_nil) (nomark _)) (joinK K (ho := pe_str) (he := (pv 1))) pe_str))))), ?_⟩
    walk_at "go"
    refine s_mk fun w0 H1 hw r1 e1 => ?_
    walk_at "go"
    have ht1 := Same.sqt r1 ht
    walk_at "go"
    have hlen := hp.len
    have hq1 := rb.len
    refine lc_of (walk_tup (xs := xs)) (fun i σ H2 => Same H H2 ∧ ∃ o1 o2 o3, σ = [some (.ref t), some (.ref w0), o1, o2, o3] ∧ H2 w0 = some (.lst ((wordsR (q.take i)).map V.str))) ⟨r1, _, _, _, rfl, e1⟩ (fun i σ H2 _ h => Same.sqt h.1 ht) ?_ ?_
    · rintro i x σ H2 H3 hi ⟨r2, o1, o2, o3, rfl, hw2⟩ ⟨rfl, hx⟩
      obtain ⟨p, t1, hq, rfl, hpt⟩ := hp.at hx
      have hpt2 := r2 _ _ hpt
      have hpq : p ∈ q := List.mem_of_getElem? hq
      have hsy := rb.sym p hpq
      have hbd := rb.bd p hpq
      have hl1 := (sym_len hsy).2
      have hl2 := len_abs hbd
      have hl3 := bd_abs hbd
      have hl4 := len_word hsy hbd
      have hls : (Str.ofString "*").length = 1 := by decide +kernel
      have hlm : (Str.ofString "-").length = 1 := by decide +kernel
      have hl5 : (Str.ofString " - ").length = 3 := by decide +kernel
      have hl6 : (Str.ofString " + ").length = 3 := by decide +kernel
      have hle : Str.empty.length = 0 := rfl
      have has : ∀ z ∈ wordsR (q.take i), asc z := asc_words fun p hp => rb.sym p (List.mem_of_mem_take hp)
      have htk := take_snoc hq
      have hkl : (wordsR (q.take i)).length ≤ 1000 := by rw [words_len, List.length_take]; omega
      refine s_g2 (SqT.of hpt2) ?_
      have fin : ∀ (H5 : Hp) (z : Str), Same H3 H5 → z = (if q.take i = [] then partR p else tailR p) → H5 w0 = some (.lst ((wordsR (q.take i)).map V.str)) → Same H (upd H5 w0 (.lst ((wordsR (q.take i)).map V.str ++ [V.str z]))) ∧ ∃ o1 o2 o3, [some (V.ref t), some (V.ref w0), some (V.str p.1), some (V.int p.2), some (V.str (wordR p))] = [some (V.ref t), some (V.ref w0), o1, o2, o3] ∧ upd H5 w0 (.lst ((wordsR (q.take i)).map V.str ++ [V.str z])) w0 = some (.lst ((wordsR (q.take (i + 1))).map V.str)) := by
        intro H5 z r5 ez h5
        refine ⟨fun a o e => ?_, _, _, _, rfl, ?_⟩
        · rw [upd_ne (ne_of_none e hw)]
          exact r5 _ _ (r2 _ _ e)
        · rw [upd_same, htk, words_snoc, ez, List.map_append]
          rfl
      with_reducible refine s_seqJ (fun σ' H' => σ' = [some (.ref t), some (.ref w0), some (.str p.1), some (.int p.2), some (.str (wordR p))] ∧ H' = H3) ?_ (fun N hN => ?_)
      · rintro σ' H' ⟨rfl, rfl⟩
        walk_at "go"
        refine s_mk fun w1 H4 hw4 r4 e4 => ?_
        have hw5 : H4 w0 = some (.lst ((wordsR (q.take i)).map V.str)) := by walk_at "hp"
        refine s_eqNil hw5 e4 has ?_
        walk_at "go"
        refine ite_b (fun e => ?_) (fun e => ?_)
        · have e' : q.take i = [] := words_nil.mp (by simpa using e)
          walk_at "go"
          refine ite_b (fun e2 => ?_) (fun e2 => ?_)
          · walk_at "go"
            exact fin _ _ r4 (by rw [emp_app, if_pos e', partR, if_pos (by simpa using e2)]) hw5
          · walk_at "go"
            exact fin _ _ r4 (by rw [if_pos e', partR, if_neg (by simpa using e2)]) hw5
        · have e' : ¬ q.take i = [] := fun z => by simp [words_nil.mpr z] at e
          walk_at "go"
          refine ite_b (fun e2 => ?_) (fun e2 => ?_)
          · walk_at "go"
            exact fin _ _ r4 (by rw [emp_app, if_neg e', tailR, if_pos (by simpa using e2)]) hw5
          · walk_at "go"
            exact fin _ _ r4 (by rw [emp_app, if_neg e', tailR, if_neg (by simpa using e2)]) hw5
      · walk_at "go"
        refine ite_b (fun e => ?_) (fun e => ?_)
        · walk_at "go"
          refine hN _ _ ⟨?_, rfl⟩
          have e' : absI p.2 = 1 := by simpa [absI] using e
          simp [wordR, e']
        · walk_at "go"
          refine hN _ _ ⟨?_, rfl⟩
          have e' : ¬ absI p.2 = 1 := by simpa [absI] using e
          rw [emp_app]
          simp [wordR, e']
          rfl
    · rintro σ H2 ⟨r2, o1, o2, o3, rfl, hw2⟩
      have eq : q.take xs.length = q := List.take_of_length_le (by omega)
      rw [eq] at hw2
      walk_at "go"
      refine s_mk fun w1 H4 hw4 r4 e4 => ?_
      have hw5 : H4 w0 = some (.lst ((wordsR q).map V.str)) := by walk_at "hp"
      refine s_neNil hw5 e4 (asc_words rb.sym) ?_
      walk_at "go"
      refine ite_b (fun e => ?_) (fun e => ?_)
      · have e' : ¬ q = [] := fun z => by simp [words_nil.mpr z] at e
        walk_at "go"
        have hsw := sum_words rb
        refine s_join hw5 ?_ ?_
        · have h0 : (Str.ofString "").length = 0 := by decide +kernel
          rw [h0]
          omega
        · have et : textR q = Txt.join "" (wordsR q) := by rw [textR, if_neg e']
          have := k H4 (Same.trans r2 r4)
          rw [et] at this
          exact this
      · have e' : q = [] := words_nil.mp (by simpa using e)
        walk_at "go"
        have := k H4 (Same.trans r2 r4)
        rw [e', text_nil] at this
        exact this

theorem ok_Form__init_ (T : Txt mg) (FC : FormC K mg C) (MU : OwnI K C .Mult) (NE : NeC K C) (EF : EF K mg C X_InputError X_InvalidName X_InvalidFactor X_InvalidValues X_NotAForm X_InvalidText X_StateError X_RunError X_LimitError) (D : AtK K mg C "Form" "Form.__init__" s_Form__init_) (h_is_integer : Has P w K mg base CX0 "is_integer" s_is_integer ["value"] 1 (spAsk 0 fun _ v => isI v)) (h_is_symbol : Has P w K mg base CX0 "is_symbol" s_is_symbol ["value"] 2 (spAsk 0 fun _ v => symV v)) (h_text_of : Has P w K mg base CX0 "text_of" s_text_of ["terms"] 1 (spTextOf K)) :
    HasK P w K mg base C "Form" 3 (spMake C) := by
  have nd := sc_Form__init_.nd
  refine hasK_mk (sp := spInit C) D rfl sc_Form__init_ (fun f cdv A outer s H vs Q E hr hgd h => ?bd)
  case bd =>
    obtain ⟨a, dx, d, r, rfl, ha, hd, nr, rb, k⟩ := h
    have fcls := FC.cls
    have fnt := FC.nt
    have fns := FC.ns
    have fnx := FC.nx
    refine ⟨_, (pss_cons (ps_lock (ps_for PassesOwn.never rfl (pi_keys (pv 1)) (pg_name (i := 2) nd rfl (Or.inl rfl))
      (pss_one (ps_if (pt_not (pt_val (peH h_is_symbol (hr.mono (by decide)) hgd rfl (pa_cons (pv 2) pa_nil)))) (pss_one ps_never) pss_nil))))
      (pss_cons (ps_lock (ps_for PassesOwn.never rfl (pi_keys (pv 1)) (pg_name (i := 2) nd rfl (Or.inl rfl))
      (pss_one (ps_if (pt_not (pt_val (peH h_is_integer (hr.mono (by decide)) hgd rfl (pa_cons (pe_dget (hu_of hr) (pv 1) (pv 2) (fun _ _ => rfl)) pa_nil)))) (pss_one ps_never) pss_nil))))
      (pss_cons (sfldK K (ha := (pv 0)) (hv := (pe_callTy (tupFK K) rfl T.b_tuple (by decide +kernel) (pa_cons (pe_callB (sortSIK K) rfl T.b_sorted (by decide +kernel) (pa_cons (pe_lock (pe_lc (own := [("symbol", 2)]) (g := gName 2) rfl nd (pi_keys (pv 1)) (blkOk_by (N := N_Form__init_) (sc := defScope s_Form__init_) (own := [("symbol", 2)]) (by decide +kernel)) (fun _ _ _ _ _ => (pg_name (i := 2) nd rfl (Or.inl rfl))) (fun _ _ _ _ _ => (pts_one (pt_cmpR op_ne (pe_dget (hu_of hr) (pv 1) (pv 2) (fun _ _ => rfl)) pe_int (nomark _)))) (fun _ _ _ _ _ => (pe_tup (pa_cons (pv 2) (pa_cons (pe_dget (hu_of hr) (pv 1) (pv 2) (fun _ _ => rfl)) pa_nil)))))) pa_nil)) pa_nil))))
      (pss_cons (sfldK K (ha := (pv 0)) (hv := (pe_callTy (tupOfK K) rfl T.b_tuple (by decide +kernel) (pa_cons (pe_lc (own := [("symbol", 2), ("factor", 3)]) (g := gTup K 2 (gCons (gName 2) (gCons (gName 3) gNil))) (tt := tYes) rfl nd (piT K (he := (fldK K (he := (pv 0))))) (blkOk_by (N := N_Form__init_) (sc := defScope s_Form__init_) (own := [("symbol", 2), ("factor", 3)]) (by decide +kernel)) (fun _ _ _ _ _ => (gT K (n := 2) (hc := rfl) (hg := (pgs_cons (pg_name (i := 2) nd rfl (Or.inl rfl)) (pgs_cons (pg_name (i := 3) nd rfl (Or.inl rfl)) pgs_nil))))) (fun _ _ _ _ _ => pts_nil) (fun _ _ _ _ _ => (pv 2))) pa_nil))))
      (pss_one (sfldK K (ha := (pv 0)) (hv := (peH h_text_of (hr.mono (by decide)) hgd rfl (pa_cons (fldK K (he := (pv 0))) pa_nil))))))))), ?_⟩
    with_reducible refine s_seqJ (fun σ' H' => ∃ o1, σ' = [some (.ref a), some (.ref d), o1, none] ∧ Same H H') ?_ (fun N hN => ?_)
    rotate_left
    · refine s_lock hd fun od => ?_
      walk_at "go"
      refine ⟨d, od, rfl, .inl ⟨kvR r, upd_same, ?_⟩⟩
      refine lc_of (walk_keys (kvs := kvR r)) (fun i σ H2 => Same (upd H d (.frz od (.dK (kvR r)))) H2 ∧ ∃ o1, σ = [some (.ref a), some (.ref d), o1, none]) ⟨Same.refl _, _, rfl⟩ (fun i σ H2 _ h => h.1 _ _ upd_same) ?_ ?_
      · rintro i x σ H2 H3 hi ⟨r2, o1, rfl⟩ ⟨rfl, kk, v, hk, ex⟩
        obtain ⟨p, hp, e⟩ := kvR_at hk
        cases e
        obtain rfl : x = .str p.1 := ex
        have hpr := List.mem_of_getElem? hp
        have hl := (sym_len (rb.sym p hpr)).2
        have hv : valR r p.1 = some p.2 := by rw [val_mem (mem_keys hpr), fac_mem nr hpr]
        have hfz : H3 d = some (.frz od (.dK (kvR r))) := r2 _ _ upd_same
        walk_at "go"
        refine ⟨_, fun _ => False, rfl, Th.str (by omega), fun H4 r4 => ?_⟩
        walk_at "go"
        refine ite_f (by show (!symV (.str p.1)) = false; have := rb.sym p hpr; unfold symS at this; simp [symV, this]) ?_
        walk_at "go"
        exact ⟨Same.trans r2 r4, _, rfl⟩
      · rintro σ H2 ⟨r2, o1, rfl⟩
        obtain ⟨l1, l2⟩ := lock_same hd r2
        exact ⟨l1, hN _ _ ⟨o1, rfl, l2⟩⟩
    rintro σ1 H1 ⟨o1, rfl, r1⟩
    have hd1 := r1 _ _ hd
    have ha1 := r1 _ _ ha
    with_reducible refine s_seqJ (fun σ' H' => ∃ o1, σ' = [some (.ref a), some (.ref d), o1, none] ∧ Same H H') ?_ (fun N hN => ?_)
    rotate_left
    · refine s_lock hd1 fun od => ?_
      walk_at "go"
      refine ⟨d, od, rfl, .inl ⟨kvR r, upd_same, ?_⟩⟩
      refine lc_of (walk_keys (kvs := kvR r)) (fun i σ H2 => Same (upd H1 d (.frz od (.dK (kvR r)))) H2 ∧ ∃ o1, σ = [some (.ref a), some (.ref d), o1, none]) ⟨Same.refl _, _, rfl⟩ (fun i σ H2 _ h => h.1 _ _ upd_same) ?_ ?_
      · rintro i x σ H2 H3 hi ⟨r2, o1, rfl⟩ ⟨rfl, kk, v, hk, ex⟩
        obtain ⟨p, hp, e⟩ := kvR_at hk
        cases e
        obtain rfl : x = .str p.1 := ex
        have hpr := List.mem_of_getElem? hp
        have hl := (sym_len (rb.sym p hpr)).2
        have hv : valR r p.1 = some p.2 := by rw [val_mem (mem_keys hpr), fac_mem nr hpr]
        have hfz : H3 d = some (.frz od (.dK (kvR r))) := r2 _ _ upd_same
        walk_at "go"
        refine ⟨_, fun _ => False, rfl, Th.int, fun H4 r4 => ?_⟩
        walk_at "go"
        refine ite_f rfl ?_
        walk_at "go"
        exact ⟨Same.trans r2 r4, _, rfl⟩
      · rintro σ H2 ⟨r2, o1, rfl⟩
        obtain ⟨l1, l2⟩ := lock_same hd1 r2
        exact ⟨l1, hN _ _ ⟨o1, rfl, Same.trans r1 l2⟩⟩
    rintro σ2 H2 ⟨o2, rfl, r2⟩
    have hd2 := r2 _ _ hd
    have ha2 := r2 _ _ ha
    have nad : a ≠ d := fun z => by rw [z, hd] at ha; cases ha
    have hrl := rb.len
    with_reducible refine s_seqJ (fun σ' H' => ∃ o1 t xs q, σ' = [some (.ref a), some (.ref d), o1, none] ∧ CanOf r q ∧ Rx [a] H H' ∧ H' a = some (.ins C dx [("terms", .ref t)]) ∧ FT H' t xs ∧ PrsL H' xs q) ?_ (fun N hN => ?_)
    rotate_left
    · walk_at "go"
      refine s_lockE hd2 fun od => ?_
      walk_at "go"
      refine ⟨d, od, rfl, .inl ⟨kvR r, upd_same, ?_⟩⟩
      refine lcR (walk_keys (kvs := kvR r)) (fun i => r[i]?.bind fun p => if p.2 ≠ 0 then some p else none) PrR tpR_pr (fun H3 r3 => r3 _ _ upd_same) (fun i H1 x H2 y => y.1 ▸ Same.refl _) (by rw [kvR_len]; omega) ?_ ?_
      · rintro i x H3 H4 K1 K2 hi r3 ⟨rfl, kk, v, hk, ex⟩ c1 c2
        obtain ⟨p, hp, e⟩ := kvR_at hk
        cases e
        obtain rfl : x = .str p.1 := ex
        have hpr := List.mem_of_getElem? hp
        have hv : valR r p.1 = some p.2 := by rw [val_mem (mem_keys hpr), fac_mem nr hpr]
        have hfz : H4 d = some (.frz od (.dK (kvR r))) := r3 _ _ upd_same
        refine ⟨rfl, ?_⟩
        walk_at "go"
        refine ite_b (fun e => ?_) (fun e => ?_)
        · have e' : p.2 ≠ 0 := by simpa using e
          walk_at "go"
          refine s_mk fun t0 H5 ht0 r5 e5 => ?_
          exact c1 _ _ p (by rw [hp]; simp [e']) r5 ⟨t0, rfl, e5⟩
        · have e' : p.2 = 0 := by simpa using e
          exact c2 _ (by rw [hp]; simp [e']) (Same.refl _)
      · intro D H3 ys hD r3 e3 pr
        obtain ⟨l1, l2⟩ := lock_same hd2 r3
        refine ⟨l1, ?_⟩
        have hDd : D ≠ d := fun z => by rw [z, upd_same] at hD; cases hD
        have tp : Tp H3 (upd H3 d (.dK (kvR r))) := fun b ys eb => by
          have : b ≠ d := fun z => by rw [z, l1] at eb; cases eb
          rw [upd_ne this]
          exact eb
        have pr2 := (PrsL.of_paired pr).tp tp
        have e4 : (upd H3 d (.dK (kvR r))) D = some (.lst ys) := by rw [upd_ne hDd]; exact e3
        rw [kvR_len, range_get] at pr2
        generalize upd H3 d (.dK (kvR r)) = H4 at l2 pr2 e4
        walk_at "go"
        refine s_sortSI (SqL.of e4) pr2 fun l H5 zs q hl r5 e5 pr5 so pe => ?_
        walk_at "go"
        refine s_tupFE (SqL.of e5) fun t H6 ht r6 ft6 => ?_
        have ha6 : H6 a = some (.ins C dx []) := by walk_at "hp"
        walk_at "go"
        refine s_sfldE ha6 fcls fnt (by decide) ?_
        rw [fm_filter] at pe
        exact hN _ _ ⟨_, t, zs, q, rfl, can_of_sorted nr so pe, Rx.step (Rx.same (Same.trans r2 l2)) (Same.trans r5 r6), upd_same, ft6.ins ha6, (pr5.same r6).tp (Tp.ins ha6)⟩
    rintro σ3 H3 ⟨o3, t, xs, q, rfl, cq, r3, ha3, ft3, pr3⟩
    have rbq := rb.can cq nr
    have hlq := rbq.len
    have hlx := pr3.len
    with_reducible refine s_seqJ (fun σ' H' => ∃ o1 y, σ' = [some (.ref a), some (.ref d), o1, none] ∧ Rx [a] H H' ∧ H' a = some (.ins C dx [("terms", .ref t), ("symbols", .ref y)]) ∧ FT H' t xs ∧ PrsL H' xs q ∧ H' y = some (.tup ((keysR q).map V.str))) ?_ (fun N hN => ?_)
    rotate_left
    · have hT3 : SqT K H3 t xs := ft3.sqt
      walk_at "go"
      refine lcR (walk_tup (xs := xs)) (fun i => q[i]?.map fun p => p.1) (fun _ v (b : Str) => v = .str b) tpR_eq (fun H1 r1 => Same.sqt r1 hT3) yat_same (by omega) ?_ ?_
      · rintro i x H4 H5 K1 K2 hi r4 ⟨rfl, hx⟩ c1 c2
        obtain ⟨p, t1, hq, rfl, hpt⟩ := pr3.at hx
        refine s_g2 (SqT.of (r4 _ _ hpt)) ⟨rfl, ?_⟩
        walk_at "go"
        exact c1 _ _ _ (by rw [hq]; rfl) (Same.refl _) rfl
      · intro D H4 ys hD r4 e4 pr
        have e2 := paired_eq pr
        rw [hlx, range_map] at e2
        rw [e2] at e4
        walk_at "go"
        refine s_tupL (SqL.of e4) fun y H5 hy r5 e5 => ?_
        have ha5 : H5 a = some (.ins C dx [("terms", .ref t)]) := by walk_at "hp"
        walk_at "go"
        refine s_sfldE ha5 fcls fns (by simp) ?_
        have ny : y ≠ a := fun z => by rw [z, ha5] at e5; cases e5
        have r35 : Same H3 H5 := Same.trans r4 r5
        exact hN _ _ ⟨_, y, rfl, Rx.step r3 r35, upd_same, (ft3.same r35).ins ha5, (pr3.same r35).tp (Tp.ins ha5), by rw [upd_ne ny]; exact e5⟩
    rintro σ4 H4 ⟨o4, y, rfl, r4, ha4, ft4, pr4, hy4⟩
    walk_at "go"
    refine ⟨t, xs, q, rfl, ft4.sqt, pr4, rbq, fun H5 r5 => ?_⟩
    have ha5 := r5 _ _ ha4
    walk_at "go"
    refine s_sfldE ha5 fcls fnx (by simp) ?_
    have ny : y ≠ a := fun z => by rw [z, ha4] at hy4; cases hy4
    exact k q _ cq (Rx.step r4 r5) ⟨a, dx, t, y, xs, rfl, upd_same, (ft4.same r5).ins ha5, (pr4.same r5).tp (Tp.ins ha5), by rw [upd_ne ny]; exact r5 _ _ hy4, cq.can, rbq⟩

theorem ok_term_of (T : Txt mg) (FC : FormC K mg C) (MU : OwnI K C .Mult) (NE : NeC K C) (EF : EF K mg C X_InputError X_InvalidName X_InvalidFactor X_InvalidValues X_NotAForm X_InvalidText X_StateError X_RunError X_LimitError) (D : At K mg "term_of" s_term_of) (h_is_symbol : Has P w K mg base CX0 "is_symbol" s_is_symbol ["value"] 2 (spAsk 0 fun _ v => symV v)) :
    Has P w K mg base CX0 "term_of" s_term_of ["part"] 3 spTermOf := by
  have nd := sc_term_of.nd
  refine has_mk D sc_term_of (fun vs H Q E h => ?len) (fun _ _ _ _ _ _ us hl => match us, hl with | [_], _ => rfl) (fun f cdv A outer s H vs Q E hr hgd h => ?bd)
  case len =>
    obtain ⟨z, rfl, _⟩ := h
    rfl
  case bd =>
    obtain ⟨z, rfl, hl, k0, k1⟩ := h
    refine ⟨_, (pss_cons (ps_asg (pe_ifExp (pt_cmpR op_eq (pe_slice sl_str (pv 0) po_none (po_some pe_int)) pe_str (nomark _)) (pe_tup (pa_cons (pe_op op_sub pe_int pe_int) (pa_cons (pe_slice sl_str (pv 0) (po_some pe_int) po_none) pa_nil))) (pe_tup (pa_cons pe_int (pa_cons (pv 0) pa_nil)))) (gT K (n := 2) (hc := rfl) (hg := (pgs_cons (pg_name (i := 1) nd rfl (Or.inl rfl)) (pgs_cons (pg_name (i := 2) nd rfl (Or.inl rfl)) pgs_nil)))))
      (pss_cons (ps_asg (pe_partN (pv 2) pe_str) (gT K (n := 3) (hc := rfl) (hg := (pgs_cons (pg_name (i := 3) nd rfl (Or.inl rfl)) (pgs_cons (pg_name (i := 4) nd rfl (Or.inl rfl)) (pgs_cons (pg_name (i := 5) nd rfl (Or.inl rfl)) pgs_nil))))))
      (pss_cons (ps_if (pt_cmpR op_eq (pv 4) pe_str (nomark _)) (pss_one (ps_par (i := 3) (j := 5) (by rfl) nd rfl rfl (by decide) rfl rfl (pa_cons pe_str (pa_cons (pv 2) pa_nil)) (by rfl))) pss_nil)
      (pss_cons (ps_if (PW.pt (pw_or (pt_not (pt_val (peH h_is_symbol (hr.mono (by decide)) hgd rfl (pa_cons (pv 5) pa_nil)))) (pw_or (pt_cmpR op_eq (pv 3) pe_str (nomark _)) (pw_or1 (pt_not (pt_val (pe_callB (allK K) rfl T.b_all (by decide +kernel) (pa_cons (pe_lc (own := [("digit", 6)]) (g := gName 6) (tt := tYes) rfl nd (pi_str (pv 3)) (blkOk_by (N := N_term_of) (sc := defScope s_term_of) (own := [("digit", 6)]) (by decide +kernel)) (fun _ _ _ _ _ => (pg_name (i := 6) nd rfl (Or.inl rfl))) (fun _ _ _ _ _ => pts_nil) (fun _ _ _ _ _ => (pe_cmpR o_sign (pv 6) (pe_gS rfl T.c_DIGITS) rfl))) pa_nil)))))))) (pss_one (ps_ret pe_non)) pss_nil)
      (pss_one (ps_ret (pe_tup (pa_cons (pv 5) (pa_cons (pe_op op_mul (pv 1) (pe_callTy c_intS rfl T.b_int (by decide +kernel) (pa_cons (pv 3) pa_nil))) pa_nil))))))))), ?_⟩
    have hls := len_sign z
    have hlc := len_cut z none (some 1)
    have hlc2 := len_cut z (some 1) none
    with_reducible refine s_seqJ (fun σ' H' => σ' = [some (.str z), some (.int (signF z).1), some (.str (signF z).2), none, none, none, none] ∧ Same H H') ?_ (fun N hN => ?_)
    rotate_left
    · walk_at "go"
      refine ite_b (fun e => ?_) (fun e => ?_)
      · have e' : cutS z none (some 1) = "-" := by simpa using e
        walk_at "go"
        refine s_mk fun t1 H1 ht1 r1 e1 => ?_
        walk_at "go"
        refine hN _ _ ⟨?_, r1⟩
        unfold signF
        rw [if_pos e']
        rfl
      · have e' : ¬ cutS z none (some 1) = "-" := by simpa using e
        walk_at "go"
        refine s_mk fun t1 H1 ht1 r1 e1 => ?_
        walk_at "go"
        refine hN _ _ ⟨?_, r1⟩
        unfold signF
        rw [if_neg e']
        rfl
    rintro σ1 H1 ⟨rfl, r1⟩
    obtain ⟨hn1, hn2⟩ := len_numF (signF z).2 (by omega)
    with_reducible refine s_seqJ (fun σ' H' => σ' = [some (.str z), some (.int (signF z).1), some (.str (signF z).2), some (.str (Txt.partition (signF z).2 "*").1), some (.str (Txt.partition (signF z).2 "*").2.1), some (.str (Txt.partition (signF z).2 "*").2.2), none] ∧ Same H H') ?_ (fun N hN => ?_)
    rotate_left
    · walk_at "go"
      refine s_partE (by decide +kernel) (sz1 (by omega)) fun t2 H2 ht2 r2 e2 => ?_
      walk_at "go"
      exact hN _ _ ⟨rfl, Same.trans r1 r2⟩
    rintro σ2 H2 ⟨rfl, r2⟩
    with_reducible refine s_seqJ (fun σ' H' => σ' = [some (.str z), some (.int (signF z).1), some (.str (signF z).2), some (.str (numF (signF z).2).1), some (.str (Txt.partition (signF z).2 "*").2.1), some (.str (numF (signF z).2).2), none] ∧ Same H H') ?_ (fun N hN => ?_)
    rotate_left
    · walk_at "go"
      refine ite_b (fun e => ?_) (fun e => ?_)
      · have e' : (Txt.partition (signF z).2 "*").2.1 = "" := by simpa using e
        walk_at "go"
        refine hN _ _ ⟨?_, r2⟩
        unfold numF
        rw [if_pos e']
        all_goals rfl
      · have e' : ¬ (Txt.partition (signF z).2 "*").2.1 = "" := by simpa using e
        walk_at "go"
        refine hN _ _ ⟨?_, r2⟩
        unfold numF
        rw [if_neg e']
    rintro σ3 H3 ⟨rfl, r3⟩
    have none_of : ∀ H', Same H3 H' → ¬ (symS (numF (signF z).2).2 = true ∧ (numF (signF z).2).1 ≠ "" ∧ digF (numF (signF z).2).1 = true) → Q .non H' := fun H' r c => k0 (by unfold termF; rw [if_neg c]) H' (Same.trans r3 r)
    walk_at "go"
    refine ⟨_, fun _ => False, rfl, Th.str (by omega), fun H4 r4 => ?_⟩
    walk_at "go"
    refine ite_b (fun e => ?_) (fun e => ?_)
    · have e1 : ¬ symS (numF (signF z).2).2 = true := by simpa [symV_S] using e
      walk_at "go"
      exact none_of _ r4 fun c => e1 c.1
    have e1 : symS (numF (signF z).2).2 = true := by simpa [symV_S] using e
    walk_at "go"
    refine ite_b (fun e => ?_) (fun e => ?_)
    · have e2 : (numF (signF z).2).1 = "" := by simpa using e
      walk_at "go"
      exact none_of _ r4 fun c => c.2.1 e2
    have e2 : ¬ (numF (signF z).2).1 = "" := by simpa using e
    walk_at "go"
    refine lcP wx_str (sgV digS) (fun _ _ => trivial) (by rw [strV_len]; omega) ?_ gm_name ?_
    · intro x H5 Q1 hx r q
      obtain ⟨c', rfl⟩ := mem_strV hx
      refine ⟨rfl, ?_⟩
      walk_at "go"
      exact q _ (Same.refl _)
    · intro D H5 hD r5 hd
      rw [sgV_map] at hd
      walk_at "go"
      refine s_all hd ?_
      have ed : (((numF (signF z).2).1.cps.toList.map fun c => decide (c ∈ digS.cps.toList)).all id) = digF (numF (signF z).2).1 := by
        unfold digF
        rw [List.all_map]
        rfl
      rw [ed]
      walk_at "go"
      refine ite_b (fun e => ?_) (fun e => ?_)
      · have e3 : ¬ digF (numF (signF z).2).1 = true := by simpa using e
        walk_at "go"
        exact none_of _ (Same.trans r4 r5) fun c => e3 c.2.2
      have e3 : digF (numF (signF z).2).1 = true := by simpa using e
      walk_at "go"
      refine s_intS e3 e2 (by omega) ?_
      have hcm : CMul (signF z).1 (NumText.digitsVal (TL.tl (numF (signF z).2).1) : Nat) := by
        refine .inl ?_
        unfold signF
        split
        · show -2 ^ 64 < (0 - 1 : Int) ∧ (0 - 1 : Int) < 2 ^ 64
          decide
        · show -2 ^ 64 < (1 : Int) ∧ (1 : Int) < 2 ^ 64
          decide
      walk_at "go"
      refine s_mk fun t6 H6 ht6 r6 e6 => ?_
      have r36 := Same.trans r3 (Same.trans r4 (Same.trans r5 r6))
      have hn : H t6 = none := Same.free (Same.trans r3 (Same.trans r4 r5)) ht6
      exact k1 _ (by unfold termF; rw [if_pos ⟨e1, e2, e3⟩]) t6 H6 hn r36 e6

theorem ok_form_of (T : Txt mg) (FC : FormC K mg C) (MU : OwnI K C .Mult) (NE : NeC K C) (EF : EF K mg C X_InputError X_InvalidName X_InvalidFactor X_InvalidValues X_NotAForm X_InvalidText X_StateError X_RunError X_LimitError) (D : At K mg "form_of" s_form_of) (h_Form__init_ : HasK P w K mg base C "Form" 3 (spMake C)) (h_term_of : Has P w K mg base CX0 "term_of" s_term_of ["part"] 3 spTermOf) :
    Has P w K mg base CX0 "form_of" s_form_of ["text"] 5 (spFormOf C) := by
  have nd := sc_form_of.nd
  refine has_mk D sc_form_of (fun vs H Q E h => ?len) (fun _ _ _ _ _ _ us hl => match us, hl with | [_], _ => rfl) (fun f cdv A outer s H vs Q E hr hgd h => ?bd)
  case len =>
    obtain ⟨z, rfl, _⟩ := h
    rfl
  case bd =>
    obtain ⟨z, rfl, hl, k0, k1⟩ := h
    have fcls := FC.cls
    have fnt := FC.nt
    have fns := FC.ns
    have fnx := FC.nx
    obtain ⟨hpl, hpp⟩ := parts_ok hl
    have th : Th (fun _ => False) H 0 (.str z) := Th.str (by omega)
    have kn : rawF z = none → ∀ H', Same H H' → Q .non H' := fun e => k0 fun q cq rb z' => by
      have := rawF_text cq rb.sym
      rw [z', e] at this
      cases this
    refine ⟨_, (pss_cons (ps_if (pt_not (pt_val (pe_callB (isiK K) rfl T.b_isinstance (by decide +kernel) (pa_cons (pv 0) (pa_cons (pe_bltn (v := .ty "str") rfl T.b_str (by decide +kernel) rfl) pa_nil))))) (pss_one (ps_ret pe_non)) pss_nil)
      (pss_cons (ps_set (i := 1) nd rfl (Or.inl rfl) pe_dnewK)
      (pss_cons (ps_for PassesOwn.never rfl (piL K (he := (pe_ifC (pv 0) (pe_lst pa_nil) (pet_splitN (CwR.pet_replC (pv 0)) pe_str)))) (pg_name (i := 2) nd rfl (Or.inl rfl))
      (pss_cons (ps_set (i := 3) nd rfl (Or.inl rfl) (peH h_term_of (hr.mono (by decide)) hgd rfl (pa_cons (pv 2) pa_nil)))
      (pss_cons (ps_if (pt_cmpR op_isN1 (pv 3) pe_non (nomark _)) (pss_one (ps_ret pe_non)) pss_nil)
      (pss_one (ps_dput (hu_of hr) (pv 1) (pe_ix (ixT K) (pv 3) pe_int (fun _ _ => rfl)) (pe_ix (ixT K) (pv 3) pe_int (fun _ _ => rfl)) rfl)))))
      (pss_cons (ps_set (i := 4) nd rfl (Or.inl rfl) (peMk h_Form__init_ (hr.mono (by decide)) hgd rfl (pv 1)))
      (pss_one (ps_ret (pe_ifExp (pt_cmpR op_eq (fldK K (he := (pv 4))) (pv 0) (nomark _)) (pv 4) pe_non))))))), ?_⟩
    walk_at "go"
    refine ite_f rfl ?_
    walk_at "go"
    refine s_mk fun d H1 hd r1 e1 => ?_
    with_reducible refine s_gn ?_
    with_reducible refine s_seq ?_
    with_reducible refine s_fr ?_
    refine s_iLstJ (fun a H2 => Same H1 H2 ∧ H2 a = some (.lst ((partsF z).map V.str))) (fun a H2 h => ⟨⟨_, SqL.of h.2⟩, ?_⟩) (fun N hN => ?_)
    rotate_left
    · walk_at "go"
      refine ite_b (fun e => ?_) (fun e => ?_)
      · have e' : z = "0" := by simpa using e
        walk_at "go"
        refine s_mk fun a H2 ha r2 e2 => ?_
        refine hN _ _ ⟨r2, ?_⟩
        unfold partsF
        rw [if_pos e']
        exact e2
      · have e' : ¬ z = "0" := by simpa using e
        walk_at "go"
        refine s_replE ?_ ?_
        · have : (Str.ofString " + -").length = 4 := by decide +kernel
          rw [this]
          omega
        walk_at "go"
        have hrl := repl_len z
        refine s_splitE (by decide +kernel) (sz1 (by omega)) fun a H2 ha r2 e2 => ?_
        refine hN _ _ ⟨r2, ?_⟩
        unfold partsF
        rw [if_neg e']
        exact e2
    · obtain ⟨r12, e2⟩ := h
      have r02 := Same.trans r1 r12
      have hda : a ≠ d := fun w => by
        have h1 := r12 _ _ e1
        rw [← w, e2] at h1
        cases h1
      refine lc_of (walk_list (xs := (partsF z).map V.str)) (fun i σ H3 => Same H H3 ∧ (∃ o1 o2, σ = [some (.str z), some (.ref d), o1, o2, none]) ∧ H3 a = some (.lst ((partsF z).map V.str)) ∧ ∃ acc : Row, ((partsF z).take i).foldlM stepF [] = some acc ∧ H3 d = some (.dK (kvR acc)) ∧ acc.length ≤ i ∧ (keysR acc).Nodup ∧ ∀ x ∈ keysR acc, symS x = true ∧ bd (fac acc x)) ⟨r02, ⟨_, _, rfl⟩, e2, [], rfl, r12 _ _ e1, Nat.le_refl _, nodup_nilR, fun x hx => (List.not_mem_nil hx).elim⟩ (fun i σ H3 _ h => SqL.of h.2.2.1) ?_ ?_
      · rintro i x σ H3 H4 hi ⟨r3, ⟨o1, o2, rfl⟩, e3, acc, ea, ed, la, na, oa⟩ ⟨rfl, hx⟩
        rw [List.getElem?_map] at hx
        obtain ⟨p, hp, rfl⟩ := Option.map_eq_some_iff.mp hx
        have hp1 := hpp p (List.mem_of_getElem? hp)
        rw [List.length_map] at hi
        walk_at "go"
        refine ⟨p, rfl, hp1, fun en H5 r5 => ?_, fun t et t5 H5 ht5 r5 e5 => ?_⟩
        · walk_at "go"
          exact kn (by rw [rawF_fold]; exact foldF_none hp ea en) _ (Same.trans r3 r5)
        · walk_at "go"
          have ed5 := r5 _ _ ed
          have e35 := r5 _ _ e3
          obtain ⟨ts, tb⟩ := termF_ok et hp1
          have hla : acc.length ≤ 1000 := by omega
          refine ite_f rfl ?_
          walk_at "go"
          refine ⟨fun b o e => ?_, ⟨_, _, rfl⟩, ?_, putR acc t.1 t.2, ?_, upd_same, ?_, nodup_put na, ?_⟩
          · rw [upd_ne (ne_of_none e hd)]
            exact r5 _ _ (r3 _ _ e)
          · rw [upd_ne hda]
            exact e35
          · rw [foldF_snoc hp ea]
            unfold stepF
            rw [et]
            rfl
          · have := len_put acc t.1 t.2
            omega
          · intro x hx
            rw [keysR_put] at hx
            rw [fac_put]
            by_cases ex : x = t.1
            · rw [if_pos ex, ex]
              exact ⟨ts, tb⟩
            · rw [if_neg ex]
              split at hx
              · exact oa x hx
              · rcases List.mem_append.mp hx with hx | hx
                · exact oa x hx
                · exact absurd (by simpa using hx) ex
      · rintro σ H3 ⟨r3, ⟨o1, o2, rfl⟩, e3, acc, ea, ed, la, na, oa⟩
        rw [List.length_map] at ea la
        rw [List.take_of_length_le (Nat.le_refl _)] at ea
        have rba : RowB acc := ⟨by omega, fun p hp => (oa p.1 (mem_keys hp)).1, fun p hp => by
          have := (oa p.1 (mem_keys hp)).2
          rw [fac_mem na hp] at this
          exact this⟩
        walk_at "go"
        refine s_make ed na rba fun x q H4 cq r4 fa => ?_
        have r34 := Same.trans r3 r4
        have fa' := fa
        obtain ⟨a4, dx4, t4, y4, xs4, eq4, fi⟩ := fa
        cases eq4
        have fins := fi.ins
        walk_at "go"
        refine ite_b (fun e => ?_) (fun e => ?_)
        · walk_at "go"
          exact k1 _ q _ r34 fa' (by simpa using e)
        · walk_at "go"
          refine k0 (fun q' cq' rb' ez => ?_) _ r34
          have h1 := rawF_text cq' rb'.sym
          rw [ez, rawF_fold, ea] at h1
          cases h1
          have h2 := cq.uniq cq'.self
          rw [h2] at e
          simp [ez] at e

theorem ok_Form_read (T : Txt mg) (FC : FormC K mg C) (MU : OwnI K C .Mult) (NE : NeC K C) (EF : EF K mg C X_InputError X_InvalidName X_InvalidFactor X_InvalidValues X_NotAForm X_InvalidText X_StateError X_RunError X_LimitError) (D : AtS K C "read" "Form.read" s_Form_read) (h_form_of : Has P w K mg base CX0 "form_of" s_form_of ["text"] 5 (spFormOf C)) :
    HasS P w K mg base C "read" s_Form_read ["text"] 6 (spRead C) := by
  have nd := sc_Form_read.nd
  refine hasS_mk D sc_Form_read (fun vs H Q E h => ?len) (fun _ _ _ _ _ _ us hl => match us, hl with | [_], _ => rfl) (fun f cdv A outer s H vs Q E hr hgd h => ?bd)
  case len =>
    obtain ⟨q, rfl, _⟩ := h
    rfl
  case bd =>
    obtain ⟨q, rfl, cq, rb, hl, k⟩ := h
    refine ⟨_, (pss_cons (ps_set (i := 1) nd rfl (Or.inl rfl) (peH h_form_of (hr.mono (by decide)) hgd rfl (pa_cons (pv 0) pa_nil)))
      (pss_cons (ps_if (pt_cmpR op_isN1 (pv 1) pe_non (nomark _)) (pss_one ps_never) pss_nil)
      (pss_one (ps_ret (pv 1))))), ?_⟩
    walk_at "go"
    refine ⟨textR q, rfl, hl, fun no => (no q cq rb rfl).elim, fun v q' H1 r1 fa et => ?_⟩
    have eq : q' = q := by
      obtain ⟨a, dx, t, y, xs, _, fi⟩ := id fa
      have h1 := rawF_text fi.can fi.rb.sym
      rw [et, rawF_text cq rb.sym] at h1
      cases h1
      rfl
    subst eq
    obtain ⟨a, dx, t, y, xs, rfl, fi⟩ := id fa
    walk_at "go"
    refine ite_f rfl ?_
    walk_at "go"
    exact k _ H1 r1 fa

theorem ok__law_roll (T : Txt mg) (FC : FormC K mg C) (MU : OwnI K C .Mult) (NE : NeC K C) (EF : EF K mg C X_InputError X_InvalidName X_InvalidFactor X_InvalidValues X_NotAForm X_InvalidText X_StateError X_RunError X_LimitError) (D : At K mg "_law_roll" s__law_roll) :
    Has P w K mg base CX0 "_law_roll" s__law_roll ["_law_heap_here", "_law_many"] 1 spRoll := by
  have nd := sc__law_roll.nd
  refine has_mk D sc__law_roll (fun vs H Q E h => ?len) (fun _ _ _ _ _ _ us hl => match us, hl with | [_, _], _ => rfl) (fun f cdv A outer s H vs Q E hr hgd h => ?bd)
  case len =>
    obtain ⟨p, n, rfl, _⟩ := h
    rfl
  case bd =>
    obtain ⟨p, n, rfl, ⟨s0, d0, c0, hp, h1, h2, h3⟩, hn, hn2, k⟩ := h
    refine ⟨_, (pss_cons (ps_asg (pe_op op_add (pe_ix (ixL K) (pv 0) pe_int (fun _ _ => rfl)) pe_int) (pg_sub (pv 0) pe_int set_list))
      (pss_cons (ps_if (pt_cmpR op_gt (pe_ix (ixL K) (pv 0) pe_int (fun _ _ => rfl)) pe_int (nomark _)) (pss_cons (ps_set (i := 2) nd rfl (Or.inl rfl) (pe_op op_mod (pe_callTy c_int1 rfl T.b_int (by decide +kernel) (pa_cons (pe_ix (ixL K) (pv 0) pe_int (fun _ _ => rfl)) pa_nil)) (pv 1)))
      (pss_cons (ps_asg (pe_op op_fdiv (pe_ix (ixL K) (pv 0) pe_int (fun _ _ => rfl)) (pv 1)) (pg_sub (pv 0) pe_int set_list))
      (pss_one (ps_ret (pv 2))))) pss_nil)
      (pss_cons (ps_set (i := 3) nd rfl (Or.inl rfl) (pe_callTy c_int1 rfl T.b_int (by decide +kernel) (pa_cons (pe_ix (ixL K) (pv 0) pe_int (fun _ _ => rfl)) pa_nil)))
      (pss_cons (ps_asg (pe_op op_mod (pe_callTy c_int1 rfl T.b_int (by decide +kernel) (pa_cons (pe_op op_add (pe_op op_mul (pv 3) (pe_op op_add (pe_op op_mod (pv 3) pe_int) pe_int)) (pe_op op_mul pe_int (pe_ix (ixL K) (pv 0) pe_int (fun _ _ => rfl)))) pa_nil)) pe_int) (pg_sub (pv 0) pe_int set_list))
      (pss_one (ps_ret (pe_op op_mod (pe_callTy c_int1 rfl T.b_int (by decide +kernel) (pa_cons (pe_op op_fdiv (pe_ix (ixL K) (pv 0) pe_int (fun _ _ => rfl)) pe_int) pa_nil)) (pv 1)))))))), ?_⟩
    have m : p ∈ [p] := List.mem_cons_self
    walk_at "go"
    refine ite2 (fun hd => ?_) (fun hd => ?_)
    · walk_at "go"
      exact k _ _ (Int.emod_nonneg _ (by omega)) (Int.emod_lt_of_pos _ hn) ((Rx.put m).trans (Rx.put m)) ⟨s0, d0 / n, c0 + 1, upd_same, h1, h2, Int.ediv_nonneg h3 (by omega)⟩
    · walk_at "go"
      exact k _ _ (Int.emod_nonneg _ (by omega)) (Int.emod_lt_of_pos _ hn) ((Rx.put m).trans (Rx.put m)) ⟨_, d0, c0 + 1, upd_same, Int.emod_nonneg _ (by decide), Int.emod_lt_of_pos _ (by decide), h3⟩

theorem ok__law_pick (T : Txt mg) (FC : FormC K mg C) (MU : OwnI K C .Mult) (NE : NeC K C) (EF : EF K mg C X_InputError X_InvalidName X_InvalidFactor X_InvalidValues X_NotAForm X_InvalidText X_StateError X_RunError X_LimitError) (D : At K mg "_law_pick" s__law_pick) (h__law_roll : Has P w K mg base CX0 "_law_roll" s__law_roll ["_law_heap_here", "_law_many"] 1 spRoll) :
    Has P w K mg base CX0 "_law_pick" s__law_pick ["_law_heap_here", "_law_things"] 2 (spPick K) := by
  have nd := sc__law_pick.nd
  refine has_mk D sc__law_pick (fun vs H Q E h => ?len) (fun _ _ _ _ _ _ us hl => match us, hl with | [_, _], _ => rfl) (fun f cdv A outer s H vs Q E hr hgd h => ?bd)
  case len =>
    obtain ⟨p, x, rfl, _⟩ := h
    rfl
  case bd =>
    obtain ⟨p, x, rfl, d, h⟩ := h
    refine ⟨_, (pss_one (ps_ret (pe_ix (ixQ K) (pv 1) (peH h__law_roll (hr.mono (by decide)) hgd rfl (pa_cons (pv 0) (pa_cons (pe_callB (lenK K) rfl T.b_len (by decide +kernel) (pa_cons (pv 1) pa_nil)) pa_nil))) (fun _ _ => rfl)))), ?_⟩
    rcases h with ⟨q, xs, rfl, ne, hS, n0, n1, k⟩ | ⟨z, rfl, n0, n1, k⟩
    · have hl : 0 < xs.length := List.length_pos_iff.mpr n0
      walk_at "go"
      refine ⟨p, _, rfl, d, by omega, by omega, fun i H1 i0 i1 r1 d1 => ?_⟩
      obtain ⟨v, hv, hm, _⟩ := atI_ofI i0 i1
      exact .inl (s_ixL (r1.sql (by simpa using ne) hS) hv (k v H1 hm r1 d1))
    · walk_at "go"
      refine ⟨p, _, rfl, d, by omega, by omega, fun i H1 i0 i1 r1 d1 => ?_⟩
      obtain ⟨v, hv, hm, _⟩ := atI_ofI (xs := z.cps.toList) i0 (by rw [Array.length_toList]; exact i1)
      exact .inr (.inr (s_ixS (sz1 (by omega)) hv (k v H1 hm r1 d1)))

theorem ok__law_name (T : Txt mg) (FC : FormC K mg C) (MU : OwnI K C .Mult) (NE : NeC K C) (EF : EF K mg C X_InputError X_InvalidName X_InvalidFactor X_InvalidValues X_NotAForm X_InvalidText X_StateError X_RunError X_LimitError) (D : At K mg "_law_name" s__law_name) (h__law_pick : Has P w K mg base CX0 "_law_pick" s__law_pick ["_law_heap_here", "_law_things"] 2 (spPick K)) (h__law_roll : Has P w K mg base CX0 "_law_roll" s__law_roll ["_law_heap_here", "_law_many"] 1 spRoll) :
    Has P w K mg base CX0 "_law_name" s__law_name ["_law_heap_here"] 3 spNameN := by
  have nd := sc__law_name.nd
  refine has_mk D sc__law_name (fun vs H Q E h => ?len) (fun _ _ _ _ _ _ us hl => match us, hl with | [_], _ => rfl) (fun f cdv A outer s H vs Q E hr hgd h => ?bd)
  case len =>
    obtain ⟨p, rfl, _⟩ := h
    rfl
  case bd =>
    obtain ⟨p, rfl, d, k⟩ := h
    refine ⟨_, (pss_cons (ps_set (i := 1) nd rfl (Or.inl rfl) (pe_lst (pa_cons pe_str (pa_cons pe_str (pa_cons pe_str (pa_cons pe_str (pa_cons pe_str (pa_cons pe_str (pa_cons pe_str (pa_cons pe_str (pa_cons pe_str (pa_cons pe_str (pa_cons pe_str (pa_cons pe_str (pa_cons pe_str (pa_cons pe_str (pa_cons pe_str pa_nil)))))))))))))))))
      (pss_cons (ps_set (i := 2) nd rfl (Or.inl rfl) (peH h__law_roll (hr.mono (by decide)) hgd rfl (pa_cons (pv 0) (pa_cons pe_int pa_nil))))
      (pss_cons (ps_if (pt_cmpR op_eq (pv 2) pe_int (nomark _)) (pss_one (ps_ret (peH h__law_pick (hr.mono (by decide)) hgd rfl (pa_cons (pv 0) (pa_cons (pv 1) pa_nil))))) pss_nil)
      (pss_cons (ps_set (i := 3) nd rfl (Or.inr rfl) pe_str)
      (pss_cons (ps_setLc (i := 4) (own := [("_law_k", 6)]) (g := gName 6) (tt := tYes) rfl nd rfl rfl (sw_true rfl rfl rfl (by decide +kernel)) (pi_range1 rfl T.b_range (pa_cons (pe_ix (ixL K) (pe_lst (pa_cons pe_int (pa_cons pe_int (pa_cons pe_int (pa_cons pe_int pa_nil))))) (peH h__law_roll (hr.mono (by decide)) hgd rfl (pa_cons (pv 0) (pa_cons pe_int pa_nil))) (fun _ _ => rfl)) pa_nil)) (blkOk_by (N := N__law_name) (sc := defScope s__law_name) (own := [("_law_k", 6)]) (by decide +kernel)) (fun _ _ _ _ _ => (pg_name (i := 6) nd rfl (Or.inl rfl))) (fun _ _ _ _ _ => pts_nil) (fun _ _ _ _ _ => (peH h__law_pick (hr.mono (by decide)) hgd rfl (pa_cons (pv 0) (pa_cons (pe_op o_addS (pv 3) pe_str) pa_nil)))))
      (pss_cons (ps_set (i := 5) nd rfl (Or.inl rfl) (pe_op o_addS (peH h__law_pick (hr.mono (by decide)) hgd rfl (pa_cons (pv 0) (pa_cons (pv 3) pa_nil))) (joinK K (ho := pe_str) (he := (pv 4)))))
      (pss_one (ps_ret (pe_ifExp (pt_cmpR op_ne (pv 5) pe_str (nomark _)) (pv 5) pe_str))))))))), ?_⟩
    walk_at "go"
    refine s_mk fun w H1 hw r1 e1 => ?_
    have n1 : w ≠ p := d.ne hw
    walk_at "go"
    refine ⟨p, 4, rfl, by walk_at "dr", by decide, by decide, fun i H2 i0 i4 r2 d2 => ?_⟩
    walk_at "go"
    refine ite_b (fun e => ?_) (fun e => ?_)
    · walk_at "go"
      refine ⟨p, _, rfl, d2, .inl ⟨w, _, rfl, n1, SqL.of (by walk_at "hp"), by simp, by decide, fun v H3 hv r3 d3 => ?_⟩⟩
      have : ∃ z : Str, v = .str z ∧ nameS z = true := by
        simp only [List.mem_cons, List.not_mem_nil, or_false] at hv
        rcases hv with rfl | rfl | rfl | rfl | rfl | rfl | rfl | rfl | rfl | rfl | rfl | rfl | rfl | rfl | rfl <;> exact ⟨_, rfl, by decide +kernel⟩
      obtain ⟨z, rfl, hn⟩ := this
      exact k z H3 hn (by walk_at "rx") d3
    · walk_at "go"
      refine s_mk fun q H3 hq r3 e3 => ?_
      have n3 : q ≠ p := d2.ne hq
      walk_at "go"
      refine ⟨p, 4, rfl, by walk_at "dr", by decide, by decide, fun j H4 j0 j4 r4 d4 => ?_⟩
      have hj : ∃ m : Nat, atI [V.int 0, V.int 1, V.int 3, V.int 7] j = some (.int m) ∧ m ≤ 7 := by
        have : j = 0 ∨ j = 1 ∨ j = 2 ∨ j = 3 := by omega
        rcases this with rfl | rfl | rfl | rfl
        · exact ⟨0, rfl, by omega⟩
        · exact ⟨1, rfl, by omega⟩
        · exact ⟨3, rfl, by omega⟩
        · exact ⟨7, rfl, by omega⟩
      obtain ⟨m, hj, hm⟩ := hj
      walk_at "go"
      refine lcD (p := p) (Ft.val (P := fun v => ∃ c : Nat, v = .str ⟨#[c]⟩ ∧ c ∈ (letS ++ digS).cps.toList)) (xs := rngV m) wx_rng d4 (fun _ _ => trivial) (by simp [rngV]; omega) ?_ gm_name ?_
      · intro x H5 Q1 hx r5 d5 c
        refine ⟨rfl, ?_⟩
        walk_at "go"
        refine ⟨p, _, rfl, d5, .inr ⟨_, rfl, by decide +kernel, by decide +kernel, fun v H6 hv r6 d6 => ?_⟩⟩
        exact c _ _ r6 d6 ⟨v, rfl, hv⟩
      · intro D H5 ys hD r5 d5 hd hy hP
        obtain ⟨cs, rfl, hcs, hca⟩ := signs_ofP hP
        have hlen : cs.length = m := by rw [hcs, hy]; simp [rngV]
        have nD : D ≠ p := d4.ne hD
        walk_at "go"
        refine ⟨p, _, rfl, d5, .inr ⟨_, rfl, by decide +kernel, by decide +kernel, fun v H6 hv r6 d6 => ?_⟩⟩
        walk_at "go"
        refine s_join (by walk_at "hp") (by rw [sum_ones, List.length_map]; show _ + _ * 0 ≤ _; omega) ?_
        have hl : (Txt.join (Str.ofString "") (cs.map fun c => (⟨#[c]⟩ : Str))).length = m := by rw [len_join, sum_ones, hlen]
        have h1 : (⟨#[v]⟩ : Str).length = 1 := rfl
        walk_at "go"
        refine ite_b (fun e => ?_) (fun e => ?_)
        · walk_at "go"
          refine k _ _ (name_of (c := v) (cs := cs) (by rw [TL.tl_append]; exact congrArg (List.cons v) (join_signs cs)) (by omega) hv hca (by simpa using e)) (by walk_at "rx") d6
        · walk_at "go"
          exact k _ _ (by decide +kernel) (by walk_at "rx") d6

theorem ok__law_names (T : Txt mg) (FC : FormC K mg C) (MU : OwnI K C .Mult) (NE : NeC K C) (EF : EF K mg C X_InputError X_InvalidName X_InvalidFactor X_InvalidValues X_NotAForm X_InvalidText X_StateError X_RunError X_LimitError) (D : At K mg "_law_names" s__law_names) (h__law_name : Has P w K mg base CX0 "_law_name" s__law_name ["_law_heap_here"] 3 spNameN) (h__law_pick : Has P w K mg base CX0 "_law_pick" s__law_pick ["_law_heap_here", "_law_things"] 2 (spPick K)) (h__law_roll : Has P w K mg base CX0 "_law_roll" s__law_roll ["_law_heap_here", "_law_many"] 1 spRoll) :
    Has P w K mg base CX0 "_law_names" s__law_names ["_law_heap_here", "_law_many"] 4 spNamesN := by
  have nd := sc__law_names.nd
  refine has_mk D sc__law_names (fun vs H Q E h => ?len) (fun _ _ _ _ _ _ us hl => match us, hl with | [_, _], _ => rfl) (fun f cdv A outer s H vs Q E hr hgd h => ?bd)
  case len =>
    obtain ⟨p, n, rfl, _⟩ := h
    rfl
  case bd =>
    obtain ⟨p, n, rfl, d, n1, n8, k⟩ := h
    refine ⟨_, (pss_cons (ps_set (i := 2) nd rfl (Or.inr rfl) (pe_lst pa_nil))
      (pss_cons (ps_for PassesOwn.never rfl (pi_range1 rfl T.b_range (pa_cons (pv 1) pa_nil)) (pg_name (i := 3) nd rfl (Or.inl rfl))
      (pss_cons (ps_set (i := 4) nd rfl (Or.inr rfl) (peH h__law_name (hr.mono (by decide)) hgd rfl (pa_cons (pv 0) pa_nil)))
      (pss_cons (ps_if (PW.pt (pw_and (pt_cmpR (neDK K (hu := hr.units)) (pv 2) (pe_lst pa_nil) (nomark _)) (pw_and1 (pt_cmpR op_eq (peH h__law_roll (hr.mono (by decide)) hgd rfl (pa_cons (pv 0) (pa_cons pe_int pa_nil))) pe_int (nomark _))))) (pss_one (ps_set (i := 4) nd rfl (Or.inr rfl) (pe_op o_addS (pe_slice sl_str (peH h__law_pick (hr.mono (by decide)) hgd rfl (pa_cons (pv 0) (pa_cons (pv 2) pa_nil))) po_none (po_some pe_int)) (peH h__law_pick (hr.mono (by decide)) hgd rfl (pa_cons (pv 0) (pa_cons pe_str pa_nil)))))) pss_nil)
      (pss_cons (ps_set (i := 5) nd rfl (Or.inl rfl) (pe_op op_cat (pe_lst (pa_cons (pv 4) pa_nil)) (pe_lc (own := [("_law_j", 6)]) (g := gName 6) (tt := tYes) rfl nd (pi_range1 rfl T.b_range (pa_cons (pv 1) pa_nil)) (blkOk_by (N := N__law_names) (sc := defScope s__law_names) (own := [("_law_j", 6)]) (by decide +kernel)) (fun _ _ _ _ _ => (pg_name (i := 6) nd rfl (Or.inl rfl))) (fun _ _ _ _ _ => pts_nil) (fun _ _ _ _ _ => (pe_op o_addS (pe_slice sl_str (pv 4) po_none (po_some pe_int)) (pe_callTy c_strI rfl T.b_str (by decide +kernel) (pa_cons (pv 6) pa_nil)))))))
      (pss_one (ps_expr (appendK K (ho := (pv 2)) (ha := (pa_cons (pe_ix (ixL K) (pe_lc (own := [("_law_each", 7)]) (g := gName 7) rfl nd (piL K (he := (pv 5))) (blkOk_by (N := N__law_names) (sc := defScope s__law_names) (own := [("_law_each", 7)]) (by decide +kernel)) (fun _ _ _ _ _ => (pg_name (i := 7) nd rfl (Or.inl rfl))) (fun _ _ _ _ _ => (pts_one (pt_cmpR (ninQ K) (pv 7) (pv 2) rfl))) (fun _ _ _ _ _ => (pv 7))) pe_int (fun _ _ => rfl)) pa_nil)))))))))
      (pss_one (ps_ret (pv 2))))), ?_⟩
    walk_at "go"
    refine s_mk fun f0 H1 hf r1 e1 => ?_
    have nf : f0 ≠ p := d.ne hf
    walk_at "go"
    refine lc_of (wx_rng (n := n.toNat)) (fun i σ H2 => Rx [p] H H2 ∧ Dr p H2 ∧ ∃ (zs : List Str) (o1 o2 o3 : Option V), σ = [some (.ref p), some (.int n), some (.ref f0), o1, o2, o3, none, none] ∧ H2 f0 = some (.lst (zs.map V.str)) ∧ zs.length = i ∧ (∀ z ∈ zs, nameS z = true) ∧ zs.Nodup) ⟨by walk_at "rx", by walk_at "dr", [], _, _, _, rfl, e1, rfl, by simp, List.nodup_nil⟩ (fun _ _ _ _ _ => trivial) ?_ ?_
    · rintro i x σ H2 H3 hi ⟨r2, d2, zs, o1, o2, o3, rfl, hz, hzl, hza, hnd⟩ ⟨rfl, hx⟩
      have hi' : i < n.toNat := by simpa [rngV] using hi
      walk_at "gos"
      refine ⟨p, rfl, d2, fun nm H4 hnm r4 d4 => ?_⟩
      walk_at "gos"
      with_reducible refine s_seqJ (fun σ' H' => ∃ nm : Str, σ' = [some (.ref p), some (.int n), some (.ref f0), some x, some (.str nm), o3, none, none] ∧ nameS nm = true ∧ Rx [p] H3 H' ∧ Dr p H') ?_ (fun N hN => ?_)
      · rintro σ' H5 ⟨nm, rfl, hnm, r5, d5⟩
        have hz5 : H5 f0 = some (.lst (zs.map V.str)) := by walk_at "hp"
        have l1 := (name_nm hnm).len
        walk_at "go"
        refine s_mk fun q1 H6 hq1 r6 e6 => ?_
        walk_at "go"
        refine lcP wx_rng (fun x => match x with | .int j => .str (cutS nm none (some 6) ++ Str.ofString (toString j)) | _ => .non) (fun _ _ => trivial) (by simp [rngV]; omega) ?_ gm_name ?_
        · intro y H7 Q1 hy r7 c
          obtain ⟨j, hj, rfl⟩ := List.mem_map.mp hy
          rw [List.mem_range] at hj
          have hts := tsS j (by omega)
          have hc6 := len_cut_to nm 6
          refine ⟨rfl, ?_⟩
          walk_at "go"
          refine s_strI (small_log (by omega) (by omega)) ?_
          refine s_addS (sz1 ?_) ?_
          · have : (cutS nm none (some 6)).length ≤ 6 := hc6
            omega
          exact c _ (Same.refl _)
        · intro D H7 hD r7 hd
          have hmenu : (rngV n.toNat).map (fun x => match x with | .int j => V.str (cutS nm none (some 6) ++ Str.ofString (toString j)) | _ => .non) = ((List.range n.toNat).map fun (j : Nat) => cutS nm none (some 6) ++ Str.ofString (toString (j : Int))).map V.str := by
            unfold rngV
            rw [List.map_map, List.map_map]
            rfl
          rw [hmenu] at hd
          have q16 : H7 q1 = some (.lst [V.str nm]) := by walk_at "hp"
          refine s_cat q16 hd (sz1 (by simp; omega)) fun m0 H8 hm0 r8 e8 => ?_
          have e8' : H8 m0 = some (.lst ((nm :: (List.range n.toNat).map fun (j : Nat) => cutS nm none (some 6) ++ Str.ofString (toString (j : Int))).map V.str)) := e8
          have hz8 : H8 f0 = some (.lst (zs.map V.str)) := by walk_at "hp"
          walk_at "go"
          refine lcF (walk_list (xs := (nm :: (List.range n.toNat).map fun (j : Nat) => cutS nm none (some 6) ++ Str.ofString (toString (j : Int))).map V.str)) (fun x => !inV x (zs.map V.str)) (fun H9 r9 => SqL.of (r9 _ _ e8')) (by simp; omega) (fun _ => rfl) (fun _ => rfl) ?_ ?_
          · intro y H9 Q1 hy r9 c
            obtain ⟨s, hs, rfl⟩ := List.mem_map.mp hy
            walk_at "go"
            refine s_nin (SqL.of (r9 _ _ hz8)) rfl flat_strs ?_
            walk_at "go"
            exact c _ (Same.refl _)
          · intro D2 H9 hD2 r9 hd2
            obtain ⟨j, hj, hjn⟩ := pigeon (fun (j : Nat) => cutS nm none (some 6) ++ Str.ofString (toString (j : Int))) n.toNat zs (fun i j hi hj e => tsS_inj i j (by omega) (by omega) (app_inj e)) (by omega)
            have hmem : V.str (cutS nm none (some 6) ++ Str.ofString (toString (j : Int))) ∈ ((nm :: (List.range n.toNat).map fun (j : Nat) => cutS nm none (some 6) ++ Str.ofString (toString (j : Int))).map V.str).filter (fun x => !inV x (zs.map V.str)) := by
              rw [List.mem_filter]
              refine ⟨List.mem_map.mpr ⟨_, List.mem_cons_of_mem _ (List.mem_map.mpr ⟨j, List.mem_range.mpr hj, rfl⟩), rfl⟩, ?_⟩
              rw [inV_strs, decide_eq_false hjn]
              rfl
            cases hfl : ((nm :: (List.range n.toNat).map fun (j : Nat) => cutS nm none (some 6) ++ Str.ofString (toString (j : Int))).map V.str).filter (fun x => !inV x (zs.map V.str)) with
            | nil => rw [hfl] at hmem; exact (List.not_mem_nil hmem).elim
            | cons y ys =>
              rw [hfl] at hd2
              have hy : y ∈ ((nm :: (List.range n.toNat).map fun (j : Nat) => cutS nm none (some 6) ++ Str.ofString (toString (j : Int))).map V.str) := (List.mem_filter.mp (by rw [hfl]; exact List.mem_cons_self)).1
              obtain ⟨s, hs, rfl⟩ := List.mem_map.mp hy
              have hsz : s ∉ zs := by
                have h1 := (List.mem_filter.mp (show V.str s ∈ _ by rw [hfl]; exact List.mem_cons_self)).2
                simpa [inV_strs] using h1
              have hsN : nameS s = true := by
                rcases List.mem_cons.mp hs with rfl | hs
                · exact hnm
                · obtain ⟨j, hj, rfl⟩ := List.mem_map.mp hs
                  have hj8 : j < 8 := by have := List.mem_range.mp hj; omega
                  obtain ⟨c, ec, hc⟩ := ts_sign j hj8
                  rw [ec]
                  exact name_cut (n := 6) hnm (by decide) (by decide) hc
              walk_at "go"
              refine s_ixL (SqL.of hd2) atI_0 ?_
              walk_at "go"
              have nfD : p ≠ f0 := nf.symm
              have d9 : Dr p H9 := by walk_at "dr"
              have r39 : Rx [p] H3 H9 := by walk_at "rx"
              refine ⟨?_, ?_, zs ++ [s], _, _, _, rfl, ?_, by simp [hzl], ?_, ?_⟩
              · exact (r2.trans r39).own hf
              · obtain ⟨a1, a2, a3, a4, a5⟩ := d9
                exact ⟨a1, a2, a3, by rw [upd_ne nfD]; exact a4, a5⟩
              · rw [upd_same, List.map_append]
                rfl
              · intro z hz'
                rcases List.mem_append.mp hz' with h | h
                · exact hza z h
                · obtain rfl : z = s := by simpa using h
                  exact hsN
              · rw [List.nodup_append]
                refine ⟨hnd, by simp, fun a ha b hb e => hsz ?_⟩
                have : b = s := by simpa using hb
                rw [← this, ← e]
                exact ha
      · have hz4 : H4 f0 = some (.lst (zs.map V.str)) := by walk_at "hp"
        have base : ∀ H', Rx [p] H3 H' → Dr p H' → N [some (.ref p), some (.int n), some (.ref f0), some x, some (.str nm), o3, none, none] H' := fun H' r' d' => hN _ _ ⟨nm, rfl, hnm, r', d'⟩
        walk_at "go"
        refine s_mk fun q0 H5 hq0 r5 e5 => ?_
        walk_at "go"
        have d5 : Dr p H5 := by walk_at "dr"
        have hz5 : H5 f0 = some (.lst (zs.map V.str)) := by walk_at "hp"
        refine ⟨_, _, .lst (SqL.of hz5) dp_strs, .lst (SqL.of e5) .nil, shaped_strs (fun z hz => (name_nm (hza z hz)).2.2), rfl, ?_⟩
        walk_at "go"
        refine ite_b (fun e => ?_) (fun e => ?_)
        · have hne : zs ≠ [] := by
            rintro rfl
            revert e
            decide +kernel
          walk_at "go"
          refine ⟨p, 3, rfl, d5, by decide, by decide, fun j H6 j0 j3 r6 d6 => ?_⟩
          walk_at "go"
          refine ite_b (fun e' => ?_) (fun e' => ?_)
          · walk_at "go"
            refine ⟨p, _, rfl, d6, .inl ⟨f0, _, rfl, nf, SqL.of (by walk_at "hp"), by simpa using hne, by simp; omega, fun v H7 hv r7 d7 => ?_⟩⟩
            obtain ⟨s, hs, rfl⟩ := List.mem_map.mp hv
            have ls := (name_nm (hza s hs)).len
            have lc7 : (cutS s none (some 7)).length ≤ 7 := len_cut_to s 7
            walk_at "go"
            refine ⟨p, _, rfl, d7, .inr ⟨_, rfl, by decide +kernel, by decide +kernel, fun c H8 hc r8 d8 => ?_⟩⟩
            have hc1 : (⟨#[c]⟩ : Str).length = 1 := rfl
            walk_at "go"
            exact hN _ _ ⟨_, rfl, name_cut (n := 7) (hza s hs) (by decide) (by decide) hc, by walk_at "rx", d8⟩
          · walk_at "go"
            exact base _ (by walk_at "rx") d6
        · walk_at "go"
          exact base _ (by walk_at "rx") d5
    · rintro σ H2 ⟨r2, d2, zs, o1, o2, o3, rfl, hz, hzl, hza, hnd⟩
      walk_at "go"
      refine k f0 zs H2 hf ?_ hza hnd r2 d2 hz
      have : (rngV n.toNat).length = n.toNat := by simp [rngV]
      omega

theorem ok__law_odd_values (T : Txt mg) (FC : FormC K mg C) (MU : OwnI K C .Mult) (NE : NeC K C) (EF : EF K mg C X_InputError X_InvalidName X_InvalidFactor X_InvalidValues X_NotAForm X_InvalidText X_StateError X_RunError X_LimitError) (D : At K mg "_law_odd_values" s__law_odd_values) (h__law_pick : Has P w K mg base CX0 "_law_pick" s__law_pick ["_law_heap_here", "_law_things"] 2 (spPick K)) (h__law_roll : Has P w K mg base CX0 "_law_roll" s__law_roll ["_law_heap_here", "_law_many"] 1 spRoll) :
    Has P w K mg base CX0 "_law_odd_values" s__law_odd_values ["_law_heap_here", "_law_names_here"] 3 (spOddV K C) := by
  have nd := sc__law_odd_values.nd
  refine has_mk D sc__law_odd_values (fun vs H Q E h => ?len) (fun _ _ _ _ _ _ us hl => match us, hl with | [_, _], _ => rfl) (fun f cdv A outer s H vs Q E hr hgd h => ?bd)
  case len =>
    obtain ⟨p, q, zs, rfl, _⟩ := h
    rfl
  case bd =>
    obtain ⟨p, q, zs, rfl, d, nq, hq, z1, z4, hn, ndz, k⟩ := h
    refine ⟨_, (pss_cons (ps_setLc (i := 2) (own := [("_law_name_here", 4)]) (g := gName 4) (tt := tYes) rfl nd rfl rfl (sw_true rfl rfl rfl (by decide +kernel)) (piL K (he := (pe_callB (sortedSK K) rfl T.b_sorted (by decide +kernel) (pa_cons (pv 1) pa_nil)))) (blkOk_by (N := N__law_odd_values) (sc := defScope s__law_odd_values) (own := [("_law_name_here", 4)]) (by decide +kernel)) (fun _ _ _ _ _ => (pg_name (i := 4) nd rfl (Or.inl rfl))) (fun _ _ _ _ _ => pts_nil) (fun _ _ _ _ _ => (pe_tup (pa_cons (pv 4) (pa_cons (peH h__law_roll (hr.mono (by decide)) hgd rfl (pa_cons (pv 0) (pa_cons pe_int pa_nil))) pa_nil)))))
      (pss_cons (ps_par (i := 3) (j := 4) (by rfl) nd rfl rfl (by decide) rfl rfl (pa_cons (peH h__law_roll (hr.mono (by decide)) hgd rfl (pa_cons (pv 0) (pa_cons (pe_callB (lenK K) rfl T.b_len (by decide +kernel) (pa_cons (pv 2) pa_nil)) pa_nil))) (pa_cons (peH h__law_pick (hr.mono (by decide)) hgd rfl (pa_cons (pv 0) (pa_cons (pv 1) pa_nil))) pa_nil)) (by rfl))
      (pss_cons (ps_set (i := 5) nd rfl (Or.inl rfl) (pe_lst (pa_cons (pe_tup (pa_cons (pv 4) (pa_cons (pe_un un_neg pe_int) pa_nil))) (pa_cons (pe_tup (pa_cons (pv 4) (pa_cons pe_bl pa_nil))) (pa_cons (pe_tup (pa_cons (pv 4) (pa_cons pe_non pa_nil))) (pa_cons (pe_lst (pa_cons (pv 4) (pa_cons pe_int pa_nil))) (pa_cons (pe_tup (pa_cons (pv 4) pa_nil)) (pa_cons (pe_tup (pa_cons (pv 4) (pa_cons pe_int (pa_cons pe_int pa_nil)))) (pa_cons (pe_tup (pa_cons (pe_op o_addS (pv 4) pe_str) (pa_cons pe_int pa_nil))) (pa_cons (pe_tup (pa_cons pe_str (pa_cons pe_int pa_nil))) pa_nil))))))))))
      (pss_cons (ps_set (i := 6) nd rfl (Or.inl rfl) (pe_lst (pa_cons (pv 2) (pa_cons pe_non (pa_cons pe_dnewK (pa_cons (pe_callTy (dictLK K) rfl T.b_dict (by decide +kernel) (pa_cons (pv 2) pa_nil)) (pa_cons pe_str (pa_cons (pe_callTy (tupOfK K) rfl T.b_tuple (by decide +kernel) (pa_cons (pe_op op_cat (pe_slice (slLK K) (pv 2) po_none (po_some (pv 3))) (pe_slice (slLK K) (pv 2) (po_some (pe_op op_add (pv 3) pe_int)) po_none)) pa_nil)) (pa_cons (pe_callTy (tupOfK K) rfl T.b_tuple (by decide +kernel) (pa_cons (pe_op op_cat (pe_slice (slLK K) (pv 2) po_none (po_some (pe_op op_add (pv 3) pe_int))) (pe_slice (slLK K) (pv 2) (po_some (pv 3)) po_none)) pa_nil)) pa_nil)))))))))
      (pss_cons (ps_set (i := 6) nd rfl (Or.inl rfl) (pe_op op_cat (pv 6) (pe_lst (pa_cons (pe_callTy (tupOfK K) rfl T.b_tuple (by decide +kernel) (pa_cons (pe_op op_cat (pe_op op_cat (pe_slice (slLK K) (pv 2) po_none (po_some (pv 3))) (pe_lst (pa_cons (peH h__law_pick (hr.mono (by decide)) hgd rfl (pa_cons (pv 0) (pa_cons (pv 5) pa_nil))) pa_nil))) (pe_slice (slLK K) (pv 2) (po_some (pe_op op_add (pv 3) pe_int)) po_none)) pa_nil)) (pa_cons (pe_op op_catT (pe_callTy (tupOfK K) rfl T.b_tuple (by decide +kernel) (pa_cons (pv 2) pa_nil)) (pe_tup (pa_cons (pe_tup (pa_cons pe_str (pa_cons pe_int pa_nil))) pa_nil))) (pa_cons (pe_tup pa_nil) pa_nil))))))
      (pss_one (ps_ret (peH h__law_pick (hr.mono (by decide)) hgd rfl (pa_cons (pv 0) (pa_cons (pv 6) pa_nil)))))))))), ?_⟩
    refine s_st (σ' := [some (.ref p), some (.ref q), none, none, none, none, none]) rfl ?_
    walk_at "go"
    refine s_sortS (SqL.of hq) (by omega) fun ys sl H1 pe so hsl r1 e1 => ?_
    have nsl : sl ≠ p := d.ne hsl
    have d1 : Dr p H1 := by walk_at "dr"
    have asc' := sorted_asc so (pe.nodup_iff.mpr ndz)
    have hlen := pe.length_eq
    walk_at "go"
    refine lcDR (p := p) (RlP fun i => 0 ≤ i ∧ i < 50) tpR_rl (walk_list (xs := ys.map V.str)) d1 (fun H2 r2 => SqL.of (r2 _ _ (by simpa using nsl) e1)) (by simp; omega) ?_ gm_name ?_
    · intro x H2 Q1 hx r2 d2 c
      obtain ⟨z, hz, rfl⟩ := List.mem_map.mp hx
      refine ⟨rfl, ?_⟩
      walk_at "go"
      refine ⟨p, 50, rfl, d2, by decide, by decide, fun i H3 i0 i5 r3 d3 => ?_⟩
      walk_at "go"
      refine s_mk fun t H4 ht r4 e4 => ?_
      exact c _ _ (by walk_at "rx") (by walk_at "dr") ⟨z, i, rfl, ⟨t, rfl, e4⟩, i0, i5⟩
    · intro D H2 vs hD r2 d2 e2 hP
      obtain ⟨row, pr, hk, ok⟩ := row_of hP
      have nD : D ≠ p := d1.ne hD
      have hkl : row.length = ys.length := by rw [← hk]; unfold keysR; rw [List.length_map]
      have hvl := pr.len
      have hnm : ∀ p ∈ row, nameS p.1 = true := fun p hp => hn _ (pe.mem_iff.mp (by rw [← hk]; exact mem_keys hp))
      have hsy : ∀ p ∈ row, symS p.1 = true ∧ 0 ≤ p.2 ∧ p.2 < 50 := fun p hp => ⟨by unfold symS; rw [hnm p hp, Bool.or_true], (ok p hp).1, (ok p hp).2⟩
      have rs : RowS row := ⟨fun p hp => (hsy p hp).1, fun p hp => by
        have := ok p hp
        exact Nat.le_trans (show p.2.natAbs ≤ 50 by omega) (by decide +kernel)⟩
      have ascr : (keysR row).Pairwise fun a b => a.cps.toList < b.cps.toList := by rw [hk]; exact asc'
      have ndr : (keysR row).Nodup := by rw [hk]; exact pe.nodup_iff.mpr ndz
      have hq2 : H2 q = some (.lst (zs.map V.str)) := r2 _ _ (by simpa using nq) (r1 _ _ hq)
      clear hP
      walk_at "go"
      refine ⟨p, _, rfl, d2, by omega, by omega, fun at_ H3 a0 a1 r3 d3 => ?_⟩
      obtain ⟨n, rfl⟩ := Int.eq_ofNat_of_zero_le a0
      have hnl : n < row.length := by first | omega | (rw [← hvl]; omega) | (have a1' := Int.ofNat_lt.mp a1; omega)
      have hq3 : H3 q = some (.lst (zs.map V.str)) := r3 _ _ (by simpa using nq) hq2
      walk_at "go"
      refine ⟨p, _, rfl, d3, .inl ⟨q, _, rfl, nq, SqL.of hq3, fun z => by (have h := congrArg List.length z); rw [List.length_map] at h; simp only [List.length_nil] at h; omega, by simp; omega, fun v H4 hv r4 d4 => ?_⟩⟩
      obtain ⟨nm, hnm2, rfl⟩ := List.mem_map.mp hv
      have hz8 := (sym_len (show symS nm = true by unfold symS; rw [hn nm hnm2, Bool.or_true])).2
      have hna := asc_sym (show symS nm = true by unfold symS; rw [hn nm hnm2, Bool.or_true])
      have hdash : (Str.ofString "-").length = 1 := by decide
      have r24 : Hide (Rx [p] H2 H4) := ⟨by walk_at "rx"⟩
      have e4 : H4 D = some (.lst vs) := r24.get _ _ (by simpa using nD) e2
      have pr4 : PrsL H4 vs row := pr.tp (tp_dr d2 r24.get)
      have rH4 : Hide (Rx [p] H H4) := ⟨by walk_at "rx"⟩
      clear r24 r3 r4 hq3 hq2 e2 pr e1 r1 r2
      walk_at "go"
      refine s_mk fun t1 T1 g1 u1 f1 => ?_
      walk_at "go"
      refine s_mk fun t2 T2 g2 u2 f2 => ?_
      walk_at "go"
      refine s_mk fun t3 T3 g3 u3 f3 => ?_
      walk_at "go"
      refine s_mk fun t4 T4 g4 u4 f4 => ?_
      walk_at "go"
      refine s_mk fun t5 T5 g5 u5 f5 => ?_
      walk_at "go"
      refine s_mk fun t6 T6 g6 u6 f6 => ?_
      walk_at "go"
      refine s_mk fun t7 T7 g7 u7 f7 => ?_
      walk_at "go"
      refine s_mk fun t8 T8 g8 u8 f8 => ?_
      walk_at "go"
      refine s_mk fun t9 T9 g9 u9 f9 => ?_
      walk_at "go"
      refine s_mk fun b1 Ha hb1 ra eb1 => ?_
      walk_at "go"
      have s4a : Hide (Same H4 Ha) := ⟨by walk_at "sm"⟩
      refine s_dictL (SqL.of (s4a.get _ _ e4)) (pr4.same s4a.get) ndr fun b2 Hb hb2 rb eb2 => ?_
      walk_at "go"
      have s4b : Hide (Same H4 Hb) := ⟨Same.trans s4a.get rb⟩
      refine s_slL (SqL.of (s4b.get _ _ e4)) fun c1 Hc hc1 rc ec1 => ?_
      rw [cutV_to] at ec1
      walk_at "go"
      have s4c : Hide (Same H4 Hc) := ⟨Same.trans s4b.get rc⟩
      refine s_slL (SqL.of (s4c.get _ _ e4)) fun c2 Hd hc2 rd ec2 => ?_
      rw [show ((n : Int) + 1) = ((n + 1 : Nat) : Int) from rfl, cutV_from] at ec2
      walk_at "go"
      refine s_cat (rd _ _ ec1) ec2 (sz1 (by rw [List.length_take, List.length_drop]; omega)) fun c3 He hc3 re ec3 => ?_
      walk_at "go"
      refine s_tupL (SqL.of ec3) fun w1 Hf hw1 rf ew1 => ?_
      walk_at "go"
      have s4f : Hide (Same H4 Hf) := ⟨Same.trans s4c.get (Same.trans rd (Same.trans re rf))⟩
      refine s_slL (SqL.of (s4f.get _ _ e4)) fun c4 Hg hc4 rg ec4 => ?_
      rw [show ((n : Int) + 1) = ((n + 1 : Nat) : Int) from rfl, cutV_to] at ec4
      walk_at "go"
      have s4g : Hide (Same H4 Hg) := ⟨Same.trans s4f.get rg⟩
      refine s_slL (SqL.of (s4g.get _ _ e4)) fun c5 Hh hc5 rh ec5 => ?_
      rw [cutV_from] at ec5
      walk_at "go"
      refine s_cat (rh _ _ ec4) ec5 (sz1 (by rw [List.length_take, List.length_drop]; omega)) fun c6 Hi hc6 ri ec6 => ?_
      walk_at "go"
      refine s_tupL (SqL.of ec6) fun w2 Hj hw2 rj ew2 => ?_
      walk_at "go"
      refine s_mk fun m1 Hk hm1 rk em1 => ?_
      walk_at "go"
      have s4k : Hide (Same H4 Hk) := ⟨Same.trans s4g.get (Same.trans rh (Same.trans ri (Same.trans rj rk)))⟩
      refine s_slL (SqL.of (s4k.get _ _ e4)) fun c7 Hl hc7 rl ec7 => ?_
      rw [cutV_to] at ec7
      have d_l : Dr p Hl := d4.same (Same.trans s4k.get rl)
      have n9 : t9 ≠ p := (show Dr p T8 by walk_at "dr").ne g9
      have nm1 : m1 ≠ p := (show Dr p Hj by walk_at "dr").ne hm1
      have nc7 : c7 ≠ p := (show Dr p Hk by walk_at "dr").ne hc7
      have nb1 : b1 ≠ p := (show Dr p T9 by walk_at "dr").ne hb1
      have nb2 : b2 ≠ p := (show Dr p Ha by walk_at "dr").ne hb2
      have nt4 : t4 ≠ p := (show Dr p T3 by walk_at "dr").ne g4
      walk_at "go"
      refine ⟨p, _, rfl, d_l, .inl ⟨t9, _, rfl, n9, SqL.of (by walk_at "hp"), by simp, by simp, fun v Hm hv2 rm dm => ?_⟩⟩
      walk_at "go"
      refine s_mk fun l1 Hn hl1 rn el1 => ?_
      walk_at "go"
      refine s_cat (show Hn c7 = some (.lst (vs.take n)) from rn _ _ (rm _ _ (by simpa using nc7) ec7)) el1 (sz1 (by rw [List.length_take]; simp only [List.length_cons, List.length_nil]; omega)) fun l2 Ho hl2 ro el2 => ?_
      walk_at "go"
      have eDo : Ho D = some (.lst vs) := ro _ _ (rn _ _ (rm _ _ (by simpa using nD) (rl _ _ (s4k.get _ _ e4))))
      refine s_slL (SqL.of eDo) fun l3 Hp hl3 rp el3 => ?_
      rw [show ((n : Int) + 1) = ((n + 1 : Nat) : Int) from rfl, cutV_from] at el3
      walk_at "go"
      refine s_cat (rp _ _ el2) el3 (sz1 (by rw [List.length_append, List.length_take, List.length_drop]; simp only [List.length_cons, List.length_nil]; omega)) fun l4 Hq hl4 rq el4 => ?_
      walk_at "go"
      refine s_tupL (SqL.of el4) fun w3 Hr hw3 rr ew3 => ?_
      walk_at "go"
      have sor : Hide (Same Ho Hr) := ⟨Same.trans rp (Same.trans rq rr)⟩
      refine s_tupL (SqL.of (sor.get _ _ eDo)) fun w4 Hs hw4 rs_ ew4 => ?_
      walk_at "go"
      refine s_mk fun a1_ Ht ha1 rt_ ea1 => ?_
      walk_at "go"
      refine s_mk fun a2 Hu ha2 ru ea2 => ?_
      walk_at "go"
      refine s_catT (show Hu w4 = some (.tup vs) by walk_at "hp") ea2 (fun z => by (have h := congrArg List.length z); simp only [List.length_nil] at h; omega) (by simp) (sz1 (by simp only [List.length_cons, List.length_nil]; omega)) fun w5 Hv hw5 rv ew5 => ?_
      walk_at "go"
      refine s_mk fun w6 Hw hw6 rw_ ew6 => ?_
      walk_at "go"
      refine s_mk fun m2 Hx hm2 rx_ em2 => ?_
      walk_at "go"
      have sox : Hide (Same Ho Hx) := ⟨Same.trans sor.get (Same.trans rs_ (Same.trans rt_ (Same.trans ru (Same.trans rv (Same.trans rw_ rx_)))))⟩
      have emx : Hx m1 = some (.lst [.ref D, .non, .ref b1, .ref b2, .str "", .ref w1, .ref w2]) := sox.get _ _ (ro _ _ (rn _ _ (rm _ _ (by simpa using nm1) (rl _ _ em1))))
      refine s_cat emx em2 (sz1 (by simp)) fun m3 Hy hm3 ry em3 => ?_
      have d_x : Dr p Hx := dm.same (Same.trans rn (Same.trans ro sox.get))
      have d_y : Dr p Hy := d_x.same ry
      walk_at "go"
      refine ⟨p, _, rfl, d_y, .inl ⟨m3, _, rfl, d_x.ne hm3, SqL.of em3, by simp, by simp, fun y Hz hy rz dz => ?_⟩⟩
      have r4z : Hide (Rx [p] H4 Hz) := ⟨by walk_at "rx"⟩
      have eDz : Hz D = some (.lst vs) := r4z.get _ _ (by simpa using nD) e4
      have prz : PrsL Hz vs row := pr4.tp (tp_dr d4 r4z.get)
      have rmz : Hide (Rx [p] Hm Hz) := ⟨by walk_at "rx"⟩
      have tmz : Tp Hm Hz := tp_dr dm rmz.get
      refine k y Hz (rH4.get.trans r4z.get) dz (Odd5.perm (zs := keysR row) (fun z hz => pe.mem_iff.mp (by rw [← hk]; exact hz)) ?_)
      have hl4 : row.length ≤ 4 := by omega
      have hy : y = .ref D ∨ y = .non ∨ y = .ref b1 ∨ y = .ref b2 ∨ y = .str "" ∨ y = .ref w1 ∨ y = .ref w2 ∨ y = .ref w3 ∨ y = .ref w5 ∨ y = .ref w6 := by simpa using hy
      rcases hy with rfl | rfl | rfl | rfl | rfl | rfl | rfl | rfl | rfl | rfl
      · exact odd_no (A := fun _ => False) (th_lst (fun z => z) eDz) (lst_no eDz) (RpB.lst eDz prz rs (by omega))
      · exact odd_no (A := fun _ => False) trivial rfl (RpB.data .non Sd.non (by decide) (by decide))
      · have e : Hz b1 = some (.dK (kvR [])) := by walk_at "hp"
        exact odd_no (A := fun _ => False) ⟨fun z => z, .inr (.inl ⟨_, e⟩)⟩ (dct_no e) (RpB.dct e ⟨fun _ h => (List.not_mem_nil h).elim, fun _ h => (List.not_mem_nil h).elim⟩ (by decide))
      · have e : Hz b2 = some (.dK (kvR row)) := by walk_at "hp"
        exact odd_no (A := fun _ => False) ⟨fun z => z, .inr (.inl ⟨_, e⟩)⟩ (dct_no e) (RpB.dct e rs (by omega))
      · exact odd_no (A := fun _ => False) (show (Str.ofString "").length ≤ 100000 by decide) rfl (RpB.data (.str _) (Sd.str (by decide +kernel)) (by decide) (by decide))
      · exact vals_gone (tp_dr (d4.same s4f.get) (show Rx [p] Hf Hz by walk_at "rx") _ _ ew1) prz ascr hsy hnl hl4
      · exact vals_dup (tp_dr (show Dr p Hj by walk_at "dr") (show Rx [p] Hj Hz by walk_at "rx") _ _ ew2) prz hsy hnl hl4
      · refine vals_odd (tp_dr (show Dr p Hr by walk_at "dr") (show Rx [p] Hr Hz by walk_at "rx") _ _ ew3) prz ?_ hsy hl4
        have hv2 : v = .ref t1 ∨ v = .ref t2 ∨ v = .ref t3 ∨ v = .ref t4 ∨ v = .ref t5 ∨ v = .ref t6 ∨ v = .ref t7 ∨ v = .ref t8 := by simpa using hv2
        have oz : okV (.str nm) := ⟨hna, Nat.le_trans hz8 (by decide)⟩
        rcases hv2 with rfl | rfl | rfl | rfl | rfl | rfl | rfl | rfl
        · exact odd_tup (tp_dr (show Dr p T1 by walk_at "dr") (show Rx [p] T1 Hz by walk_at "rx") _ _ f1) (by intro x hx; simp only [List.mem_cons, List.not_mem_nil, or_false] at hx; rcases hx with rfl | rfl <;> first | exact oz | (show _ ≤ _; decide)) (by simp) (by simp [pairL, natV])
        · exact odd_tup (tp_dr (show Dr p T2 by walk_at "dr") (show Rx [p] T2 Hz by walk_at "rx") _ _ f2) (by intro x hx; simp only [List.mem_cons, List.not_mem_nil, or_false] at hx; rcases hx with rfl | rfl <;> first | exact oz | trivial) (by simp) (by simp [pairL, natV])
        · exact odd_tup (tp_dr (show Dr p T3 by walk_at "dr") (show Rx [p] T3 Hz by walk_at "rx") _ _ f3) (by intro x hx; simp only [List.mem_cons, List.not_mem_nil, or_false] at hx; rcases hx with rfl | rfl <;> first | exact oz | trivial) (by simp) (by simp [pairL, natV])
        · exact odd_lst (show Hz t4 = some (.lst [.str nm, .int 1]) by walk_at "hp") (by intro x hx; simp only [List.mem_cons, List.not_mem_nil, or_false] at hx; rcases hx with rfl | rfl <;> first | exact oz | (show _ ≤ _; decide)) (by simp)
        · exact odd_tup (tp_dr (show Dr p T5 by walk_at "dr") (show Rx [p] T5 Hz by walk_at "rx") _ _ f5) (by intro x hx; rw [List.mem_singleton.mp hx]; exact oz) (by simp) rfl
        · exact odd_tup (tp_dr (show Dr p T6 by walk_at "dr") (show Rx [p] T6 Hz by walk_at "rx") _ _ f6) (by intro x hx; simp only [List.mem_cons, List.not_mem_nil, or_false] at hx; rcases hx with rfl | rfl | rfl <;> first | exact oz | (show _ ≤ _; decide)) (by simp) rfl
        · exact odd_tup (tp_dr (show Dr p T7 by walk_at "dr") (show Rx [p] T7 Hz by walk_at "rx") _ _ f7) (by intro x hx; simp only [List.mem_cons, List.not_mem_nil, or_false] at hx; rcases hx with rfl | rfl <;> first | exact ⟨asc_app hna (by decide +kernel), by rw [len_app]; omega⟩ | (show _ ≤ _; decide)) (by simp) (by show (symS _ && _) = false; rw [sym_dash]; rfl)
        · exact odd_tup (tp_dr (show Dr p T8 by walk_at "dr") (show Rx [p] T8 Hz by walk_at "rx") _ _ f8) (by intro x hx; simp only [List.mem_cons, List.not_mem_nil, or_false] at hx; rcases hx with rfl | rfl <;> first | exact ⟨by decide +kernel, by decide⟩ | (show _ ≤ _; decide)) (by simp) (by decide +kernel)
      · exact vals_cell (tp_dr (show Dr p Hv by walk_at "dr") (show Rx [p] Hv Hz by walk_at "rx") _ _ ew5) (tp_dr (show Dr p Ht by walk_at "dr") (show Rx [p] Ht Hz by walk_at "rx") _ _ ea1) prz (fun p hp => ⟨hnm p hp, ok p hp⟩) (by omega) hl4
      · exact vals_none (tp_dr (show Dr p Hw by walk_at "dr") (show Rx [p] Hw Hz by walk_at "rx") _ _ ew6) (by rw [hk]; omega)

theorem ok__law_text (T : Txt mg) (FC : FormC K mg C) (MU : OwnI K C .Mult) (NE : NeC K C) (EF : EF K mg C X_InputError X_InvalidName X_InvalidFactor X_InvalidValues X_NotAForm X_InvalidText X_StateError X_RunError X_LimitError) (D : At K mg "_law_text" s__law_text) :
    Has P w K mg base CX0 "_law_text" s__law_text ["_law_terms"] 1 (spTextL K) := by
  have nd := sc__law_text.nd
  refine has_mk D sc__law_text (fun vs H Q E h => ?len) (fun _ _ _ _ _ _ us hl => match us, hl with | [_], _ => rfl) (fun f cdv A outer s H vs Q E hr hgd h => ?bd)
  case len =>
    obtain ⟨l, xs, q, rfl, _⟩ := h
    rfl
  case bd =>
    obtain ⟨l, xs, q, rfl, hl, hp, rb, k⟩ := h
    refine ⟨_, (pss_cons (ps_set (i := 1) nd rfl (Or.inl rfl) pe_str)
      (pss_cons (ps_for PassesOwn.never rfl (piL K (he := (pv 0))) (gT K (n := 2) (hc := rfl) (hg := (pgs_cons (pg_name (i := 2) nd rfl (Or.inl rfl)) (pgs_cons (pg_name (i := 3) nd rfl (Or.inl rfl)) pgs_nil))))
      (pss_cons (ps_set (i := 4) nd rfl (Or.inl rfl) (pe_ifExp (pt_cmpR op_eq (pe_callB c_abs rfl T.b_abs (by decide +kernel) (pa_cons (pv 3) pa_nil)) pe_int (nomark _)) (pv 2) (pe_op o_addS (pe_op o_addS (pe_callTy c_strI rfl T.b_str (by decide +kernel) (pa_cons (pe_callB c_abs rfl T.b_abs (by decide +kernel) (pa_cons (pv 3) pa_nil)) pa_nil)) pe_str) (pv 2))))
      (pss_one (ps_if (pt_cmpR op_eq (pv 1) pe_str (nomark _)) (pss_one (ps_set (i := 1) nd rfl (Or.inl rfl) (pe_op o_addS (pe_ifExp (pt_cmpR op_lt (pv 3) pe_int (nomark _)) pe_str pe_str) (pv 4)))) (pss_one (ps_set (i := 1) nd rfl (Or.inl rfl) (pe_op o_addS (pe_op o_addS (pv 1) (pe_ifExp (pt_cmpR op_lt (pv 3) pe_int (nomark _)) pe_str pe_str)) (pv 4))))))))
      (pss_one (ps_ret (pe_ifExp (pt_cmpR op_ne (pv 1) pe_str (nomark _)) (pv 1) pe_str))))), ?_⟩
    walk_at "go"
    have hlen := hp.len
    have hq1 := rb.len
    refine lc_of (walk_list (xs := xs)) (fun i σ H2 => H2 = H ∧ ∃ o1 o2 o3, σ = [some (.ref l), some (.str (lineR (q.take i))), o1, o2, o3]) ⟨rfl, _, _, _, by rw [List.take_zero, line_nil]; rfl⟩ (fun i σ H2 _ h => by rw [h.1]; exact hl) ?_ ?_
    · rintro i x σ H2 H3 hi ⟨rfl, o1, o2, o3, rfl⟩ ⟨rfl, hx⟩
      obtain ⟨p, t1, hq, rfl, hpt⟩ := hp.at hx
      have hpq : p ∈ q := List.mem_of_getElem? hq
      have hsy := rb.sym p hpq
      have hbd := rb.bd p hpq
      have hl1 := (sym_len hsy).2
      have hl2 := len_abs hbd
      have hl3 := bd_abs hbd
      have hl4 := len_word hsy hbd
      have hls : (Str.ofString "*").length = 1 := by decide +kernel
      have hlm : (Str.ofString "-").length = 1 := by decide +kernel
      have hl0 : (Str.ofString "").length = 0 := by decide +kernel
      have hl5 : (Str.ofString " - ").length = 3 := by decide +kernel
      have hl6 : (Str.ofString " + ").length = 3 := by decide +kernel
      have hll := line_len (rb.take i)
      have hlt : (q.take i).length ≤ 1000 := by rw [List.length_take]; omega
      have htk := take_snoc hq
      have hne := line_ne (q := q.take i) (rb.take i).sym
      have fin : ∀ z : Str, lineR (q.take i) ++ (if q.take i = [] then partR p else tailR p) = z → H3 = H3 ∧ ∃ o1 o2 o3, [some (V.ref l), some (V.str z), some (V.str p.1), some (V.int p.2), some (V.str (wordR p))] = [some (V.ref l), some (V.str (lineR (q.take (i + 1)))), o1, o2, o3] := by
        rintro z rfl
        rw [htk, line_snoc]
        exact ⟨rfl, _, _, _, rfl⟩
      refine s_g2 (SqT.of hpt) ?_
      with_reducible refine s_seqJ (fun σ' H' => σ' = [some (.ref l), some (.str (lineR (q.take i))), some (.str p.1), some (.int p.2), some (.str (wordR p))] ∧ H' = H3) ?_ (fun N hN => ?_)
      · rintro σ' H' ⟨rfl, rfl⟩
        walk_at "go"
        refine ite_b (fun e => ?_) (fun e => ?_)
        · have e' : q.take i = [] := hne.mp (by simpa using e)
          walk_at "go"
          refine ite_b (fun e2 => ?_) (fun e2 => ?_)
          · walk_at "go"
            refine fin _ ?_
            rw [if_pos e', partR, if_pos (by simpa using e2), e', line_nil]
            exact TL.ext_tl (by rw [TL.tl_append]; rfl)
          · walk_at "go"
            refine fin _ ?_
            rw [if_pos e', partR, if_neg (by simpa using e2), e', line_nil]
        · have e' : ¬ q.take i = [] := fun z => by simp [hne.mpr z] at e
          walk_at "go"
          refine ite_b (fun e2 => ?_) (fun e2 => ?_)
          · walk_at "go"
            refine fin _ ?_
            rw [if_neg e', tailR, if_pos (by simpa using e2)]
            exact TL.ext_tl (by simp only [TL.tl_append, List.append_assoc])
          · walk_at "go"
            refine fin _ ?_
            rw [if_neg e', tailR, if_neg (by simpa using e2)]
            exact TL.ext_tl (by simp only [TL.tl_append, List.append_assoc])
      · walk_at "go"
        refine ite_b (fun e => ?_) (fun e => ?_)
        · walk_at "go"
          refine hN _ _ ⟨?_, rfl⟩
          have e' : absI p.2 = 1 := by simpa [absI] using e
          simp [wordR, e']
        · walk_at "go"
          refine s_strI hl3 ?_
          walk_at "go"
          refine hN _ _ ⟨?_, rfl⟩
          have e' : ¬ absI p.2 = 1 := by simpa [absI] using e
          simp [wordR, e']
          rfl
    · rintro σ H2 ⟨rfl, o1, o2, o3, rfl⟩
      rw [hlen, List.take_of_length_le (Nat.le_refl _)]
      walk_at "go"
      have hne := line_ne (q := q) rb.sym
      refine ite_b (fun e => ?_) (fun e => ?_)
      · have e' : ¬ q = [] := fun z => by simp [hne.mpr z] at e
        walk_at "go"
        rw [text_line, if_neg e'] at k
        exact k
      · have e' : q = [] := hne.mp (by simpa using e)
        walk_at "go"
        rw [text_line, if_pos e'] at k
        exact k

theorem ok__law_right (T : Txt mg) (FC : FormC K mg C) (MU : OwnI K C .Mult) (NE : NeC K C) (EF : EF K mg C X_InputError X_InvalidName X_InvalidFactor X_InvalidValues X_NotAForm X_InvalidText X_StateError X_RunError X_LimitError) (D : At K mg "_law_right" s__law_right) (TB__law_right : ∃ c, CodeIs K mg "_law_right" s__law_right c ∧ TabB base mg c P__law_right) (h_Form__repr_ : HasR P w K mg base C "__repr__" ["self"] 1 (spReprF C)) (h_Form__repr__x : HasQ P w K mg base C "__repr__" ["self"] 1 (spReprF C)) (h_Form__str_ : HasM P w K mg base C "__str__" s_Form__str_ ["self"] 1 (spStr C)) (h_Form_evaluate : HasMX P w K mg base C "evaluate" s_Form_evaluate ["self", "values"] 6 (spEvalX C X_InvalidValues)) (h_Form_read : HasS P w K mg base C "read" s_Form_read ["text"] 6 (spRead C)) (h_InvalidFactor__init_ : HasE P w K mg base "InvalidFactor" "value" X_InvalidFactor 1) (h_InvalidName__init_ : HasE P w K mg base "InvalidName" "value" X_InvalidName 1) (h_InvalidValues__init_ : HasE P w K mg base "InvalidValues" "value" X_InvalidValues 1) (h_NotAForm__init_ : HasE P w K mg base "NotAForm" "value" X_NotAForm 1) (h__law_joined : HasX P w K mg base "_law_joined" s__law_joined ["_law_way", "_law_form", "_law_other"] 5 (spJoinX C X_NotAForm X_InvalidFactor)) (h__law_names : Has P w K mg base CX0 "_law_names" s__law_names ["_law_heap_here", "_law_many"] 4 spNamesN) (h__law_odd_values : Has P w K mg base CX0 "_law_odd_values" s__law_odd_values ["_law_heap_here", "_law_names_here"] 3 (spOddV K C)) (h__law_pick : Has P w K mg base CX0 "_law_pick" s__law_pick ["_law_heap_here", "_law_things"] 2 (spPick K)) (h__law_roll : Has P w K mg base CX0 "_law_roll" s__law_roll ["_law_heap_here", "_law_many"] 1 spRoll) (h__law_text : Has P w K mg base CX0 "_law_text" s__law_text ["_law_terms"] 1 (spTextL K)) (h__law_told : At K mg "_law_told" s__law_told) :
    Has P w K mg base CX0 "_law_right" s__law_right ["_law_heap_here"] 10 (spRight5 P__law_right) := by
  have nd := sc__law_right.nd
  obtain ⟨cT, TC, TB⟩ := TB__law_right
  refine hasL_mk D TC sc__law_right (fun vs H Q E h => ?len) (fun _ _ _ _ _ _ us hl => match us, hl with | [_], _ => rfl) (fun f A outer s H vs Q E hr hgd h => ?bd)
  case len =>
    obtain ⟨p, TS, rfl, _⟩ := h
    rfl
  case bd =>
    obtain ⟨p, TS, rfl, d, hT, hmT, huT, k⟩ := h
    refine ⟨_, (pss_cons (ps_set (i := 1) nd rfl (Or.inl rfl) (peH h__law_names (hr.mono (by decide)) hgd rfl (pa_cons (pv 0) (pa_cons (pe_op op_add pe_int (peH h__law_roll (hr.mono (by decide)) hgd rfl (pa_cons (pv 0) (pa_cons pe_int pa_nil)))) pa_nil))))
      (pss_cons (ps_setLc (i := 2) (own := [("_law_name_here", 9)]) (g := gName 9) (tt := tYes) rfl nd rfl rfl (sw_true rfl rfl rfl (by decide +kernel)) (piL K (he := (pe_callB (sortedSK K) rfl T.b_sorted (by decide +kernel) (pa_cons (pv 1) pa_nil)))) (blkOk_by (N := N__law_right) (sc := defScope s__law_right) (own := [("_law_name_here", 9)]) (by decide +kernel)) (fun _ _ _ _ _ => (pg_name (i := 9) nd rfl (Or.inl rfl))) (fun _ _ _ _ _ => pts_nil) (fun _ _ _ _ _ => (pe_tup (pa_cons (pv 9) (pa_cons (peH h__law_pick (hr.mono (by decide)) hgd rfl (pa_cons (pv 0) (pa_cons (pe_lst (pa_cons pe_int (pa_cons (pe_un un_neg pe_int) (pa_cons pe_int pa_nil)))) pa_nil))) pa_nil)))))
      (pss_cons (ps_asg (pe_tup (pa_cons (peHS h_Form_read (hr.mono (by decide)) hgd (pe_glob (v := .ref C) rfl FC.at_ rfl) (pa_cons (peH h__law_text (hr.mono (by decide)) hgd rfl (pa_cons (pv 2) pa_nil)) pa_nil)) (pa_cons (peH h__law_roll (hr.mono (by decide)) hgd rfl (pa_cons (pv 0) (pa_cons pe_int pa_nil))) pa_nil))) (gT K (n := 2) (hc := rfl) (hg := (pgs_cons (pg_name (i := 3) nd rfl (Or.inr rfl)) (pgs_cons (pg_name (i := 4) nd rfl (Or.inr rfl)) pgs_nil)))))
      (pss_cons (ps_set (i := 5) nd rfl (Or.inl rfl) (pe_lst (pa_cons pe_non (pa_cons pe_bl (pa_cons pe_bl (pa_cons pe_str (pa_cons (pe_tup pa_nil) (pa_cons (pe_lst pa_nil) (pa_cons pe_dnewK (pa_cons (pe_tup (pa_cons (pv 3) pa_nil)) (pa_cons (pe_lst (pa_cons (pv 3) pa_nil)) (pa_cons (peH h__law_text (hr.mono (by decide)) hgd rfl (pa_cons (pv 2) pa_nil)) (pa_cons pe_int (pa_cons (pv 3) pa_nil))))))))))))))
      (pss_cons (ps_set (i := 6) nd rfl (Or.inr rfl) (peH h__law_pick (hr.mono (by decide)) hgd rfl (pa_cons (pv 0) (pa_cons (pe_ifExp (pt_cmpR op_lt (pv 4) pe_int (nomark _)) (pe_slice (slLK K) (pv 5) po_none (po_some pe_int)) (pe_op op_cat (pe_slice (slLK K) (pv 5) po_none (po_some pe_int)) (pe_slice (slLK K) (pv 5) (po_some pe_int) po_none))) pa_nil))))
      (pss_cons (ps_if (pt_cmpR (nePK K (hu := hr.units)) (pe_lamG (k := 6) (c := cT) (P := P__law_right) (T := TS) (t := fun E' => _) h__law_told rfl sc__law_told (fun _ _ _ _ _ _ us hl => match us, hl with | [_], _ => rfl) (gives_told T EF h_Form__repr__x (by decide)) TB rfl hmT huT (hr.mono (by decide)) hgd (lamS_by (show lamSB (defScope s__law_right) _ = true by decide +kernel)) rfl (fun _ _ _ _ _ => rfl) (fun A outer s H E' f c' hr hgd => (peHX h__law_joined passL2 (hr.mono (by decide)) hgd rfl (pa_cons (pv 4) (pa_cons (pv 3) (pa_cons (pv 6) pa_nil))))) rfl) (pe_lst (pa_cons (pe_ix (ixL K) (pe_lst (pa_cons pe_str (pa_cons pe_str (pa_cons pe_str pa_nil)))) (pv 4) (fun _ _ => rfl)) (pa_cons (pe_callB (callG K (HasR.rpb h_Form__repr_ (hr.mono (by decide))) hgd) rfl T.b_repr (by decide +kernel) (pa_cons (pv 6) pa_nil)) pa_nil))) (nomark _)) (pss_one (ps_ret pe_bl)) pss_nil)
      (pss_cons (ps_set (i := 7) nd rfl (Or.inr rfl) (peH h__law_odd_values (hr.mono (by decide)) hgd rfl (pa_cons (pv 0) (pa_cons (pv 1) pa_nil))))
      (pss_cons (ps_if (pt_cmpR (nePK K (hu := hr.units)) (pe_lamG (k := 6) (c := cT) (P := P__law_right) (T := TS) (t := fun E' => _) h__law_told rfl sc__law_told (fun _ _ _ _ _ _ us hl => match us, hl with | [_], _ => rfl) (gives_told T EF h_Form__repr__x (by decide)) TB rfl hmT huT (hr.mono (by decide)) hgd (lamS_by (show lamSB (defScope s__law_right) _ = true by decide +kernel)) rfl (fun _ _ _ _ _ => rfl) (fun A outer s H E' f c' hr hgd => (peHMX h_Form_evaluate passL2 FC.cls (hr.mono (by decide)) hgd (pv 3) (pa_cons (pv 7) pa_nil))) rfl) (pe_lst (pa_cons pe_str (pa_cons (pe_callB (callG K (HasR.rpb h_Form__repr_ (hr.mono (by decide))) hgd) rfl T.b_repr (by decide +kernel) (pa_cons (pv 7) pa_nil)) pa_nil))) (nomark _)) (pss_one (ps_ret pe_bl)) pss_nil)
      (pss_cons (ps_set (i := 8) nd rfl (Or.inl rfl) (pe_callTy (tupOfK K) rfl T.b_tuple (by decide +kernel) (pa_cons (pe_lc (own := [("_law_name_here", 9)]) (g := gName 9) (tt := tYes) rfl nd (piL K (he := (pe_callB (sortedSK K) rfl T.b_sorted (by decide +kernel) (pa_cons (pv 1) pa_nil)))) (blkOk_by (N := N__law_right) (sc := defScope s__law_right) (own := [("_law_name_here", 9)]) (by decide +kernel)) (fun _ _ _ _ _ => (pg_name (i := 9) nd rfl (Or.inl rfl))) (fun _ _ _ _ _ => pts_nil) (fun _ _ _ _ _ => (pe_tup (pa_cons (pv 9) (pa_cons pe_int pa_nil))))) pa_nil)))
      (pss_cons (ps_if (pt_cmpR op_ne (peHMX h_Form_evaluate pass0X FC.cls (hr.mono (by decide)) hgd (pv 3) (pa_cons (pv 8) pa_nil)) (pe_op op_mul pe_int (pe_callB (sumK K) rfl T.b_sum (by decide +kernel) (pa_cons (pe_lc (own := [("_law_name_here", 9), ("_law_factor", 10)]) (g := gTup K 2 (gCons (gName 9) (gCons (gName 10) gNil))) (tt := tYes) rfl nd (piL K (he := (pv 2))) (blkOk_by (N := N__law_right) (sc := defScope s__law_right) (own := [("_law_name_here", 9), ("_law_factor", 10)]) (by decide +kernel)) (fun _ _ _ _ _ => (gT K (n := 2) (hc := rfl) (hg := (pgs_cons (pg_name (i := 9) nd rfl (Or.inl rfl)) (pgs_cons (pg_name (i := 10) nd rfl (Or.inl rfl)) pgs_nil))))) (fun _ _ _ _ _ => pts_nil) (fun _ _ _ _ _ => (pv 10))) pa_nil))) (nomark _)) (pss_one (ps_ret pe_bl)) pss_nil)
      (pss_one (ps_ret (pe_cmpR op_eq (pe_callTy (strH h_Form__str_ FC.sf (hr.mono (by decide)) hgd) rfl T.b_str (by decide +kernel) (pa_cons (pv 3) pa_nil)) (peH h__law_text (hr.mono (by decide)) hgd rfl (pa_cons (pv 2) pa_nil)) (nomark _)))))))))))))), ?_⟩
    refine s_st (σ' := [some (.ref p), none, none, none, none, none, none, none, none, none, none]) rfl ?_
    walk_at "go"
    refine ⟨p, 4, rfl, d, by decide, by decide, fun i H1 i0 i4 r1 d1 => ?_⟩
    walk_at "go"
    refine ⟨p, _, rfl, d1, by omega, by omega, fun q zs H2 hq hzl hzn hnd r2 d2 e2 => ?_⟩
    have nq : q ≠ p := d1.ne hq
    have hz4 : zs.length ≤ 4 := by omega
    have hz1 : 1 ≤ zs.length := by omega
    walk_at "go"
    refine s_sortS (SqL.of e2) (by omega) fun ys sl H3 pe so hsl r3 e3 => ?_
    have nsl : sl ≠ p := d2.ne hsl
    have d3 : Dr p H3 := by walk_at "dr"
    have asc' := sorted_asc so (pe.nodup_iff.mpr hnd)
    have hlen := pe.length_eq
    walk_at "go"
    refine lcDR (p := p) (RlP fun i => i ≠ 0 ∧ i.natAbs ≤ 99) tpR_rl (walk_list (xs := ys.map V.str)) d3 (fun H4 r4 => SqL.of (r4 _ _ (by simpa using nsl) e3)) (by simp; omega) ?_ gm_name ?_
    · intro x H4 Q1 hx r4 d4 c
      obtain ⟨z, hz, rfl⟩ := List.mem_map.mp hx
      refine ⟨rfl, ?_⟩
      walk_at "go"
      refine s_mk fun w H5 hw r5 e5 => ?_
      have nw : w ≠ p := d4.ne hw
      have d5 : Dr p H5 := by walk_at "dr"
      walk_at "go"
      refine ⟨p, _, rfl, d5, .inl ⟨w, _, rfl, nw, SqL.of e5, by simp, by decide, fun v H6 hv r6 d6 => ?_⟩⟩
      have : ∃ fi : Int, v = .int fi ∧ fi ≠ 0 ∧ fi.natAbs ≤ 99 := by
        simp only [List.mem_cons, List.not_mem_nil, or_false] at hv
        rcases hv with rfl | rfl | rfl <;> exact ⟨_, rfl, by decide, by decide⟩
      obtain ⟨fi, rfl, f1, f2⟩ := this
      walk_at "go"
      refine s_mk fun t H7 ht r7 e7 => ?_
      exact c _ _ (by walk_at "rx") (by walk_at "dr") ⟨z, fi, rfl, ⟨t, rfl, e7⟩, f1, f2⟩
    · intro D H4 vs hD r4 d4 e4 hP
      obtain ⟨row, pr, hk, ok⟩ := row_of hP
      have nD : D ≠ p := d3.ne hD
      have hkl : row.length = ys.length := by rw [← hk]; unfold keysR; rw [List.length_map]
      have hvl := pr.len
      have hsz : ∀ z ∈ zs, symS z = true := fun z hz => by unfold symS; rw [hzn z hz, Bool.or_true]
      have hsy : ∀ p ∈ row, symS p.1 = true := fun p hp => hsz _ (pe.mem_iff.mp (by rw [← hk]; exact mem_keys hp))
      have can : Can row := ⟨by rw [hk]; exact asc', fun p hp => (ok p hp).1⟩
      have wr : Rw zs row := ⟨can, fun p hp => (ok p hp).2, by omega, fun x hx => pe.mem_iff.mp (by rw [← hk]; exact hx)⟩
      have rb := wr.rb hsz
      have txl := wr.text hsz (by omega)
      have hq4 : H4 q = some (.lst (zs.map V.str)) := r4 _ _ (by simpa using nq) (r3 _ _ e2)
      have r04 : Rx [p] H H4 := by walk_at "rx"
      have T4 := tabs_rx d r04 hT
      clear hP r1 r2 r3 r4 e2 e3
      walk_at "go"
      refine ⟨rfl, ?_⟩
      walk_at "go"
      refine ⟨D, vs, row, rfl, SqL.of e4, pr, rb, ?_⟩
      walk_at "go"
      refine ⟨row, rfl, can, rb, txl, fun fv H5 r5 fa => ?_⟩
      obtain ⟨a, dx, t0, y0, xs0, rfl, fi⟩ := fa
      have d5 : Dr p H5 := by walk_at "dr"
      walk_at "go"
      refine ⟨p, 3, rfl, d5, by decide, by decide, fun w H6 w0 w3 r6 d6 => ?_⟩
      have fi6 := fi.nl (Nl.of_rx d5 r6)
      have pr6 := (pr.same r5).tp (tp_dr d5 r6)
      have e6 : H6 D = some (.lst vs) := r6 _ _ (by simpa using nD) (r5 _ _ e4)
      have hq6 : H6 q = some (.lst (zs.map V.str)) := r6 _ _ (by simpa using nq) (r5 _ _ hq4)
      have T6 := tabs_rx d5 r6 (tabs_same r5 T4)
      have r06 : Rx [p] H H6 := by walk_at "rx"
      clear fi pr e4 hq4 T4 r5 r6 r04
      walk_at "go"
      refine s_mk fun tp H7 htp r7 e7 => ?_
      walk_at "go"
      refine s_mk fun l1 H8 hl1 r8 e8 => ?_
      walk_at "go"
      refine s_mk fun l2 H9 hl2 r9 e9 => ?_
      walk_at "go"
      refine s_mk fun l3 Ha hl3 ra ea => ?_
      walk_at "go"
      refine s_mk fun l4 Hb hl4 rb_ eb => ?_
      walk_at "go"
      refine s_mk fun l5 Hc hl5 rc ec => ?_
      walk_at "go"
      refine ⟨D, vs, row, rfl, SqL.of (by walk_at "hp"), pr6.tp (Tp.same (by walk_at "sm")), rb, ?_⟩
      repeat ((fail_if_success (with_reducible refine s_seq ?_)); walk_at "go1")
      refine s_mk fun m Hd hm rd em => ?_
      repeat ((fail_if_success (with_reducible refine s_seq ?_)); walk_at "go1")
      have hnp : Hide (Same H6 Hd) := ⟨by walk_at "sm"⟩
      have dd_ : Dr p Hd := d6.same hnp.get
      have n2 : l2 ≠ p := (show Dr p H8 by walk_at "dr").ne hl2
      have n3 : l3 ≠ p := (show Dr p H9 by walk_at "dr").ne hl3
      have n5 : l5 ≠ p := (show Dr p Hb by walk_at "dr").ne hl5
      have t18 : Hd l1 = some (.tup []) := by walk_at "hp"
      have t19 : Hd l2 = some (.lst []) := by walk_at "hp"
      have t1a : Hd l3 = some (.dK []) := by walk_at "hp"
      have t1b : Hd l4 = some (.tup [.ref a]) := by walk_at "hp"
      have t1c : Hd l5 = some (.lst [.ref a]) := by walk_at "hp"
      have fid := fi6.same hnp.get
      have prd := pr6.same hnp.get
      have eDd := hnp.get _ _ e6
      have hqd := hnp.get _ _ hq6
      have Td := tabs_same hnp.get T6
      have r0d : Hide (Rx [p] H Hd) := ⟨r06.trans (Rx.same hnp.get)⟩
      clear r06 r7 r8 r9 ra rb_ rc rd hnp T6 hq6 e6 pr6 fi6 e7 e8 e9 ea eb ec
      have items : ∀ Hf, Rx [p] Hd Hf → ∀ v ∈ [V.non, .bl true, .bl false, .str "a", .ref l1, .ref l2, .ref l3, .ref l4, .ref l5, .str (textR row), .int 5], RpB K C Hf v ∧ Th (fun _ => False) Hf 0 v ∧ (v = .int 5 ∨ isI v = false) := fun Hf rf =>
        menu5 (tp_dr dd_ rf _ _ t18) (rf _ _ (by simpa using n2) t19) (rf _ _ (by simpa using n3) t1a) (tp_dr dd_ rf _ _ t1b) (rf _ _ (by simpa using n5) t1c) ⟨a, dx, t0, y0, xs0, rfl, fid.nl (Nl.of_rx dd_ rf)⟩ (by omega) (asc_text rb.sym)
      with_reducible refine s_seqJ (fun σ' H' => ∃ odd, σ' = [some (.ref p), some (.ref q), some (.ref D), some (.ref a), some (.int w), some (.ref m), some odd, none, none, none, none] ∧ Rx [p] Hd H' ∧ Dr p H' ∧ RpB K C H' odd ∧ ((w < 2 ∧ ∃ A, Th A H' 0 odd) ∨ (w = 2 ∧ NoI C H' odd))) ?_ (fun N hN => ?_)
      rotate_left
      · walk_at "go"
        refine ite_b (fun e => ?_) (fun e => ?_)
        · have hw2 : w < 2 := by simpa using e
          walk_at "go"
          refine s_slL (SqL.of em) fun m2 He hm2 re em2 => ?_
          rw [show (11 : Int) = ((11 : Nat) : Int) from rfl, cutV_to] at em2
          walk_at "go"
          refine ⟨p, _, rfl, dd_.same re, .inl ⟨m2, _, rfl, dd_.ne hm2, SqL.of em2, by simp, by simp, fun v Hf hv rf df => ?_⟩⟩
          walk_at "go"
          have rdf : Rx [p] Hd Hf := (Rx.same re).trans rf
          obtain ⟨i1, i2, i3⟩ := items Hf rdf v hv
          exact hN _ _ ⟨v, rfl, rdf, df, i1, .inl ⟨hw2, _, i2⟩⟩
        · have hw2 : w = 2 := by
            have : ¬ w < 2 := by simpa using e
            omega
          walk_at "go"
          refine s_slL (SqL.of em) fun m2 He hm2 re em2 => ?_
          rw [show (10 : Int) = ((10 : Nat) : Int) from rfl, cutV_to] at em2
          walk_at "go"
          refine s_slL (SqL.of (re _ _ em)) fun m3 Hf hm3 rf em3 => ?_
          rw [show (11 : Int) = ((11 : Nat) : Int) from rfl, cutV_from] at em3
          walk_at "go"
          refine s_cat (rf _ _ em2) em3 (sz1 (by simp)) fun m4 Hg hm4 rg em4 => ?_
          walk_at "go"
          have ddf : Dr p Hf := dd_.same (Same.trans re rf)
          refine ⟨p, _, rfl, ddf.same rg, .inl ⟨m4, _, rfl, ddf.ne hm4, SqL.of em4, by simp, by simp, fun v Hh hv rh dh => ?_⟩⟩
          walk_at "go"
          have rdh : Rx [p] Hd Hh := (Rx.same (Same.trans re (Same.trans rf rg))).trans rh
          have fh : FormAt C Hh (.ref a) row := ⟨a, dx, t0, y0, xs0, rfl, fid.nl (Nl.of_rx dd_ rdh)⟩
          rcases List.mem_append.mp hv with hv | hv
          · obtain ⟨i1, i2, i3⟩ := items Hh rdh v (List.mem_of_mem_take (i := 10) hv)
            refine hN _ _ ⟨v, rfl, rdh, dh, i1, .inr ⟨hw2, .inl ⟨_, i2, ?_⟩⟩⟩
            simp only [List.take_succ_cons, List.take_zero, List.mem_cons, List.not_mem_nil, or_false] at hv
            rcases hv with rfl | rfl | rfl | rfl | rfl | rfl | rfl | rfl | rfl | rfl <;> rfl
          · have hv : v = .ref a := by simpa using hv
            rw [hv]
            exact hN _ _ ⟨.ref a, rfl, rdh, dh, RpB.form fh (by omega), .inr ⟨hw2, .inr ⟨row, fh⟩⟩⟩
      rintro σ1 Hg ⟨odd, rfl, rg, dg, ⟨z, rpz, zl⟩, hw⟩
      have Tg := tabs_rx dd_ rg Td
      have fig := fid.nl (Nl.of_rx dd_ rg)
      have prg := prd.tp (tp_dr dd_ rg)
      have eDg : Hg D = some (.lst vs) := rg _ _ (by simpa using nD) eDd
      have hqg : Hg q = some (.lst (zs.map V.str)) := rg _ _ (by simpa using nq) hqd
      have r0g : Rt p H Hg := Rt.rx (r0d.get.trans rg)
      clear items t18 t19 t1a t1b t1c em fid prd eDd hqd Td rg r0d
      repeat ((fail_if_success (with_reducible refine s_seq ?_)); walk_at "go1")
      with_reducible refine s_seqJ (fun σ' H' => σ' = [some (.ref p), some (.ref q), some (.ref D), some (.ref a), some (.int w), some (.ref m), some odd, none, none, none, none] ∧ ExtN Hg H' ∧ Tabs TS H') ?_ (fun N hN => ?_)
      rotate_left
      · walk_at "go"
        refine s_lam Tg fun Hh ex Th_ E1 Q1 hE => ?_
        walk_at "go"
        have fah : FormAt C Hh (.ref a) row := ⟨a, dx, t0, y0, xs0, rfl, fig.ext ex⟩
        have hwr : ((w = 0 ∨ w = 1) ∧ (∃ A, Th A Hg 0 odd)) ∨ (w = 2 ∧ NoI C Hg odd) := by
          rcases hw with ⟨h1, h2⟩ | ⟨h1, h2⟩
          · exact .inl ⟨by omega, h2⟩
          · exact .inr ⟨h1, h2⟩
        rcases hwr with ⟨h01, A0, th⟩ | ⟨h2, ni⟩
        · have hat : atI [V.str "form", .str "form", .str "factor"] w = some (.str (kindN 3)) := by rcases h01 with rfl | rfl <;> rfl
          refine ⟨w, .ref a, odd, row, rfl, w0, w3, fah, .inl ⟨by omega, ⟨_, th_ext ex th⟩, Rs.mk hE EF.r_NotAForm h_NotAForm__init_.1.exK h_NotAForm__init_.1.xf h_NotAForm__init_.1.no (rpz.ext ex) zl fun l Hi nl ri ei => ?_⟩⟩
          walk_at "go"
          refine s_mk fun u1 Hj hu1 rj ej => ?_
          walk_at "go"
          refine s_reprG (((rpz.ext ex).same ri).same rj) ?_
          walk_at "go"
          refine s_mk fun u2 Hk hu2 rk ek => ?_
          walk_at "go"
          refine s_neP2 ((Same.trans rj rk) _ _ ei) ek ?_
          walk_at "go"
          exact hN _ _ ⟨rfl, ext_then ex (ext_same (Same.trans ri (Same.trans rj rk))), tabs_same (Same.trans ri (Same.trans rj rk)) Th_⟩
        · have hat : atI [V.str "form", .str "form", .str "factor"] w = some (.str (kindN 1)) := by rw [h2]; rfl
          refine ⟨w, .ref a, odd, row, rfl, w0, w3, fah, .inr ⟨h2, ni.ext ex, Rs.mk hE EF.r_InvalidFactor h_InvalidFactor__init_.1.exK h_InvalidFactor__init_.1.xf h_InvalidFactor__init_.1.no (rpz.ext ex) zl fun l Hi nl ri ei => ?_⟩⟩
          walk_at "go"
          refine s_mk fun u1 Hj hu1 rj ej => ?_
          walk_at "go"
          refine s_reprG (((rpz.ext ex).same ri).same rj) ?_
          walk_at "go"
          refine s_mk fun u2 Hk hu2 rk ek => ?_
          walk_at "go"
          refine s_neP2 ((Same.trans rj rk) _ _ ei) ek ?_
          walk_at "go"
          exact hN _ _ ⟨rfl, ext_then ex (ext_same (Same.trans ri (Same.trans rj rk))), tabs_same (Same.trans ri (Same.trans rj rk)) Th_⟩
      rintro σ2 Ha ⟨rfl, ex, Ta⟩
      have fia := fig.ext ex
      have pra := prg.tp (ext_tp ex)
      have eDa : Ha D = some (.lst vs) := ex _ _ eDg (fun _ z => by cases z)
      have hqa : Ha q = some (.lst (zs.map V.str)) := ex _ _ hqg (fun _ z => by cases z)
      have da := Dr.ext ex dg
      have r0a := r0g.trans (Rt.ext ex)
      clear hw rpz fig prg eDg hqg dg r0g Tg ex
      walk_at "go"
      refine ⟨p, q, zs, rfl, da, nq, hqa, hz1, hz4, hzn, hnd, fun v Hb rb2 db od => ?_⟩
      obtain ⟨bv, z2, rp2, zl2⟩ := od
      have fib := fia.nl (Nl.of_rx da rb2)
      have prb := pra.tp (tp_dr da rb2)
      have eDb : Hb D = some (.lst vs) := rb2 _ _ (by simpa using nD) eDa
      have hqb : Hb q = some (.lst (zs.map V.str)) := rb2 _ _ (by simpa using nq) hqa
      have Tb := tabs_rx da rb2 Ta
      have r0b := r0a.trans (Rt.rx rb2)
      clear fia pra eDa hqa Ta r0a rb2
      repeat ((fail_if_success (with_reducible refine s_seq ?_)); walk_at "go1")
      with_reducible refine s_seqJ (fun σ' H' => σ' = [some (.ref p), some (.ref q), some (.ref D), some (.ref a), some (.int w), some (.ref m), some odd, some v, none, none, none] ∧ ExtN Hb H' ∧ Tabs TS H') ?_ (fun N hN => ?_)
      rotate_left
      · walk_at "go"
        refine s_lam Tb fun Hh ex Th_ E1 Q1 hE => ?_
        have fins : Hh a = some (.ins C dx (fsF t0 y0 (textR row))) := (fib.ext ex).ins
        walk_at "go"
        refine ⟨.ref a, v, row, rfl, ⟨a, dx, t0, y0, xs0, rfl, fib.ext ex⟩, .inr ⟨(bv.ext ex).perm (fun z hz => by rw [hk]; exact pe.mem_iff.mpr hz), Rs.mk hE EF.r_InvalidValues h_InvalidValues__init_.1.exK h_InvalidValues__init_.1.xf h_InvalidValues__init_.1.no (rp2.ext ex) zl2 fun l Hi nl ri ei => ?_⟩⟩
        walk_at "go"
        refine s_reprG ((rp2.ext ex).same ri) ?_
        walk_at "go"
        refine s_mk fun u2 Hk hu2 rk ek => ?_
        walk_at "go"
        refine s_neP2 (rk _ _ ei) (show Hk u2 = some (.lst [.str (kindN 2), .str z2]) from ek) ?_
        walk_at "go"
        exact hN _ _ ⟨rfl, ext_then ex (ext_same (Same.trans ri rk)), tabs_same (Same.trans ri rk) Th_⟩
      rintro σ3 Hc ⟨rfl, ex, Tc⟩
      have fic := fib.ext ex
      have prc := prb.tp (ext_tp ex)
      have eDc : Hc D = some (.lst vs) := ex _ _ eDb (fun _ z => by cases z)
      have hqc : Hc q = some (.lst (zs.map V.str)) := ex _ _ hqb (fun _ z => by cases z)
      have dc := Dr.ext ex db
      have r0c := r0b.trans (Rt.ext ex)
      clear bv rp2 fib prb eDb hqb db r0b Tb ex
      walk_at "go"
      refine s_sortS (SqL.of hqc) (by omega) fun ys2 sl2 Hd pe2 so2 hsl2 rd ed => ?_
      obtain rfl : ys2 = ys := asc_uniq (sorted_asc so2 (pe2.nodup_iff.mpr hnd)) asc' fun x => by rw [pe2.mem_iff, pe.mem_iff]
      walk_at "go"
      refine lcR (walk_list (xs := ys2.map V.str)) (fun i => ys2[i]?.map fun z => (z, (2 : Int))) PrR tpR_pr (fun H1 r1 => SqL.of (r1 _ _ ed)) yat_same (by simp; omega) ?_ ?_
      · rintro i x H4 H5 K1 K2 hi r4 ⟨rfl, hx⟩ c1 c2
        rw [List.getElem?_map] at hx
        obtain ⟨z, hz1, rfl⟩ := Option.map_eq_some_iff.mp hx
        refine ⟨rfl, ?_⟩
        walk_at "go"
        refine s_mk fun t H6 ht r6 e6 => ?_
        exact c1 _ _ _ (by rw [hz1]; rfl) r6 ⟨t, rfl, e6⟩
      · intro D2 He ps2 hD2 re ee pp
        rw [List.length_map, range_map] at pp
        have prs2 := PrsL.of_paired pp
        walk_at "go"
        refine s_tupL (SqL.of ee) fun gt Hf hgt rf eg => ?_
        have scf : Hide (Same Hc Hf) := ⟨Same.trans rd (Same.trans re rf)⟩
        have fif := fic.same scf.get
        have fins : Hf a = some (.ins C dx (fsF t0 y0 (textR row))) := fif.ins
        have nd2 : ys2.Nodup := pe.nodup_iff.mpr hnd
        have va : ValsAt Hf gt ps2 (ys2.map fun z => (z, (2 : Int))) := by
          refine ⟨eg, prs2.same rf, by rw [keys_two]; exact asc', fun pr hpr => ?_, by rw [List.length_map]; omega⟩
          obtain ⟨z, hz, rfl⟩ := List.mem_map.mp hpr
          exact ⟨hsz z (pe.mem_iff.mp hz), (show (0 : Int) ≤ 2 by decide), (show G.bd 2 by unfold G.bd; decide +kernel)⟩
        walk_at "go"
        refine ⟨.ref a, .ref gt, row, rfl, ⟨a, dx, t0, y0, xs0, rfl, fif⟩, .inl ⟨gt, ps2, _, rfl, va, fun z hz => by rw [keys_two, ← hk]; exact hz, fun Hg rg => ?_⟩⟩
        rw [eval_two hk nd2]
        have scg : Hide (Same Hc Hg) := ⟨Same.trans scf.get rg⟩
        have eDg := scg.get _ _ eDc
        have prg := prc.same scg.get
        walk_at "go"
        refine lcR (walk_list (xs := vs)) (fun i => row[i]?.map fun p => p.2) (fun _ v (b : Int) => v = .int b) tpR_eq (fun H1 r1 => SqL.of (r1 _ _ eDg)) yat_same (by omega) ?_ ?_
        · rintro i x H1 H2 K1 K2 hi r1 ⟨rfl, hx⟩ c1 c2
          obtain ⟨pq, t1, hq', rfl, hpt⟩ := prg.at hx
          refine s_g2 (SqT.of (r1 _ _ hpt)) ⟨rfl, ?_⟩
          walk_at "go"
          exact c1 _ _ _ (by rw [hq']; rfl) (Same.refl _) rfl
        · intro D3 Hh ps3 hD3 rh eh pr3
          have e3 := paired_eq pr3
          rw [hvl, range_map] at e3
          rw [e3] at eh
          walk_at "go"
          refine s_sumE (SqL.of eh) ?_
          walk_at "go"
          refine ite_f (by simp) ?_
          have sch : Hide (Same Hc Hh) := ⟨Same.trans scg.get rh⟩
          have fah : FormAt C Hh (.ref a) row := ⟨a, dx, t0, y0, xs0, rfl, fic.same sch.get⟩
          walk_at "go"
          refine s_strO fah ⟨_, row, rfl, fah, by omega, ⟨_, rfl⟩, ?_⟩
          walk_at "go"
          refine ⟨D, vs, row, rfl, SqL.of (sch.get _ _ eDc), prc.same sch.get, rb, ?_⟩
          walk_at "go"
          exact rtb (k _ (r0c.trans (Rt.rx (Rx.same sch.get))) (dc.same sch.get) (tabs_same sch.get Tc)) (by simp)

theorem ok_law (T : Txt mg) (FC : FormC K mg C) (MU : OwnI K C .Mult) (NE : NeC K C) (EF : EF K mg C X_InputError X_InvalidName X_InvalidFactor X_InvalidValues X_NotAForm X_InvalidText X_StateError X_RunError X_LimitError) (D : At K mg "law" s_law) (PNE : P__law_right ≠ P__law_keywords_right) (h__law_cell : Has P w K mg base CX0 "_law_cell" s__law_cell ["_law_script", "_law_k"] 1 (G.spCell K)) (h__law_heap : Has P w K mg base CX0 "_law_heap" s__law_heap ["_law_number"] 1 spHeap) (h__law_keywords_right : Has P w K mg base CX0 "_law_keywords_right" s__law_keywords_right [] 10 (spKw5 P__law_keywords_right)) (h__law_right : Has P w K mg base CX0 "_law_right" s__law_right ["_law_heap_here"] 10 (spRight5 P__law_right)) :
    Has P w K mg base CX0 "law" s_law ["_law_script"] 11 (G.spLaw5 K P__law_right P__law_keywords_right) := by
  have nd := sc_law.nd
  refine has_mk D sc_law (fun vs H Q E h => ?len) (fun _ _ _ _ _ _ us hl => match us, hl with | [_], _ => rfl) (fun f cdv A outer s H vs Q E hr hgd h => ?bd)
  case len =>
    obtain ⟨a, ns, rfl, _⟩ := h
    rfl
  case bd =>
    obtain ⟨a, ns, rfl, hS, hn, hP1, hP2, k⟩ := h
    refine ⟨_, (pss_cons (ps_if (pt_not (pt_val (peH0 h__law_keywords_right (hr.mono (by decide)) hgd rfl))) (pss_one (ps_ret pe_bl)) pss_nil)
      (pss_cons (ps_for PassesOwn.never rfl (pi_range1 rfl T.b_range (pa_cons (pe_callB (c_max2 rfl) rfl T.b_max (by decide +kernel) (pa_cons pe_int (pa_cons (pe_callB (c_min2 rfl) rfl T.b_min (by decide +kernel) (pa_cons (pe_callB (lenK K) rfl T.b_len (by decide +kernel) (pa_cons (pv 0) pa_nil)) (pa_cons pe_int pa_nil))) pa_nil))) pa_nil)) (pg_name (i := 1) nd rfl (Or.inl rfl))
      (pss_cons (ps_set (i := 2) nd rfl (Or.inr rfl) (peH h__law_heap (hr.mono (by decide)) hgd rfl (pa_cons (peH h__law_cell (hr.mono (by decide)) hgd rfl (pa_cons (pv 0) (pa_cons (pv 1) pa_nil))) pa_nil)))
      (pss_one (ps_if (pt_not (pt_val (pe_callB (allK K) rfl T.b_all (by decide +kernel) (pa_cons (pe_lc (own := [("_law_turn", 3)]) (g := gName 3) (tt := tYes) rfl nd (pi_range1 rfl T.b_range (pa_cons pe_int pa_nil)) (blkOk_by (N := N_law) (sc := defScope s_law) (own := [("_law_turn", 3)]) (by decide +kernel)) (fun _ _ _ _ _ => (pg_name (i := 3) nd rfl (Or.inl rfl))) (fun _ _ _ _ _ => pts_nil) (fun _ _ _ _ _ => (peH h__law_right (hr.mono (by decide)) hgd rfl (pa_cons (pv 2) pa_nil)))) pa_nil)))) (pss_one (ps_ret pe_bl)) pss_nil))))
      (pss_one (ps_ret pe_bl)))), ?_⟩
    refine s_st (σ' := [some (.ref a), none, none, none]) rfl ?_
    have hT : Tabs [(P__law_right, lq "_law_right"), (P__law_keywords_right, lq "_law_keywords_right")] H := tabs0 (by
      intro p hp
      simp only [List.mem_cons, List.not_mem_nil, or_false] at hp
      rcases hp with rfl | rfl
      · exact hP1
      · exact hP2)
    have hu1 : ∀ q ∈ [(P__law_right, lq "_law_right"), (P__law_keywords_right, lq "_law_keywords_right")], q.1 = P__law_right → q.2 = lq "_law_right" := by
      intro q hq e
      simp only [List.mem_cons, List.not_mem_nil, or_false] at hq
      rcases hq with rfl | rfl
      · rfl
      · exact (PNE e.symm).elim
    have hu2 : ∀ q ∈ [(P__law_right, lq "_law_right"), (P__law_keywords_right, lq "_law_keywords_right")], q.1 = P__law_keywords_right → q.2 = lq "_law_keywords_right" := by
      intro q hq e
      simp only [List.mem_cons, List.not_mem_nil, or_false] at hq
      rcases hq with rfl | rfl
      · exact (PNE e).elim
      · rfl
    have hm1 : (P__law_right, lq "_law_right") ∈ [(P__law_right, lq "_law_right"), (P__law_keywords_right, lq "_law_keywords_right")] := List.mem_cons_self
    have hm2 : (P__law_keywords_right, lq "_law_keywords_right") ∈ [(P__law_right, lq "_law_right"), (P__law_keywords_right, lq "_law_keywords_right")] := List.mem_cons_of_mem _ List.mem_cons_self
    generalize [(P__law_right, lq "_law_right"), (P__law_keywords_right, lq "_law_keywords_right")] = TS at hT hu1 hu2 hm1 hm2
    walk_at "go"
    refine ⟨TS, rfl, hT, hm2, hu2, fun H1 x1 T1 => ?_⟩
    have hS1 := sql_ext x1 hS
    walk_at "go"
    rw [List.length_map]
    have hb : ∃ m : Nat, (if (if (5 : Int) < (ns.length : Int) then 5 else (ns.length : Int)) > 2 then (if (5 : Int) < (ns.length : Int) then 5 else (ns.length : Int)) else 2) = (m : Int) ∧ m ≤ 5 := by
      by_cases h6 : (5 : Int) < (ns.length : Int)
      · refine ⟨5, ?_, by omega⟩
        rw [if_pos h6]
        rfl
      · rw [if_neg h6]
        by_cases h2 : (ns.length : Int) > 2
        · rw [if_pos h2]
          exact ⟨ns.length, rfl, by omega⟩
        · rw [if_neg h2]
          exact ⟨2, rfl, by omega⟩
    obtain ⟨m, hm, m6⟩ := hb
    rw [hm]
    walk_at "go"
    refine lc_of (wx_rng (n := m)) (fun i σ H' => (SqL K H' a (ns.map V.int) ∧ Tabs TS H') ∧ ∃ o1 o2 : Option V, σ = [some (.ref a), o1, o2, none]) ⟨⟨hS1, T1⟩, _, _, rfl⟩ (fun _ _ _ _ _ => trivial) ?_ ?_
    · rintro i x σ H1 H2 hi ⟨⟨hs2, t2⟩, o1, o2, rfl⟩ ⟨rfl, hx⟩
      obtain ⟨j, hj, rfl⟩ := List.mem_map.mp (List.mem_of_getElem? hx)
      have hj6 : j < m := List.mem_range.mp hj
      walk_at "go"
      refine ⟨a, ns, _, rfl, hs2, hn, by omega, by omega, fun c H3 r3 => ?_⟩
      walk_at "go"
      refine ⟨_, rfl, fun p H4 hp r4 d4 => ?_⟩
      have sc4 : ScrAt K [p] H4 a (ns.map V.int) := scr_of (r3.seq hs2) r4 hp
      have t4 := tabs_same r4 (tabs_same r3 t2)
      walk_at "go"
      intro D hD
      have nD : D ≠ p := d4.ne hD
      refine lc_it (wx_rng (n := 5)) (fun i H5 => Dr p H5 ∧ Tabs TS H5 ∧ ScrAt K [D, p] H5 a (ns.map V.int) ∧ i ≤ 5 ∧ H5 D = some (.lst (List.replicate i (.bl true)))) ⟨d4.upd nD, tabs_same (same_new hD) t4, sc4.new hD, by decide, upd_same⟩ (fun _ _ _ _ => trivial) ?_ ?_
      · rintro i x H5 H6 hi ⟨d5, t5, s5, i5, e5⟩ ⟨rfl, hx⟩
        refine ⟨rfl, ?_⟩
        walk_at "go"
        refine ⟨p, TS, rfl, d5, t5, hm1, hu1, fun H7 r7 d7 t7 => ?_⟩
        have e7 : H7 D = some (.lst (List.replicate i (.bl true))) := r7 _ _ e5 nD (fun _ z => by cases z)
        refine ⟨_, e7, sz2 (by rw [List.length_replicate]; omega), d7.upd nD, tabs_upd e7 t7, (s5.rt r7 (by simp)).upd (by simp), ?_, ?_⟩
        · have : i < 5 := by simpa [rngV] using hi
          omega
        · rw [upd_same, List.replicate_succ']
      · rintro H5 ⟨d5, t5, s5, i5, e5⟩
        have e5' : H5 D = some (.lst ([true, true, true, true, true].map V.bl)) := by simpa [rngV] using e5
        walk_at "go"
        refine s_all e5' ?_
        walk_at "go"
        refine ite_f rfl ?_
        walk_at "go"
        exact ⟨⟨s5.sql, t5⟩, _, _, rfl⟩
    · rintro σ H' ⟨_, o1, o2, rfl⟩
      walk_at "go"
      exact k _

end
theorem all_mk {P : Program} {w : World} {K : PySem.W.Frag} {h : Heap} {mg : Str → Option Value} {fa : Addr} (X : K.In h) (G : h.Ns mainGlobals mg) (hfa : mg "law" = some (.ref fa)) (c : SaysQ ex fns K) :
    ∃ fd : FuncData, (∀ (s : Shared) (v : Value), BindsTo s fd ⟨[v], []⟩ [("_law_script", v)]) ∧ ∀ base : Heap, K.In base → base.Ns mainGlobals mg → (∀ p ∈ [(codeAd K (He.ga K "_law_right"), tabAd K (codeAd K (He.ga K "_law_right"))), (codeAd K (He.ga K "_law_keywords_right"), tabAd K (codeAd K (He.ga K "_law_keywords_right")))], LamX.TabB base mg p.1 p.2) → Fg P w K mg base CX0 11 fa fd ["_law_script"] (spLaw5 K (tabAd K (codeAd K (He.ga K "_law_right"))) (tabAd K (codeAd K (He.ga K "_law_keywords_right")))) := by
  have T : Txt mg := ⟨He.free_ok X G (fact_at c.ex 186), He.free_ok X G (fact_at c.ex 187), He.free_ok X G (fact_at c.ex 188), He.free_ok X G (fact_at c.ex 189), He.free_ok X G (fact_at c.ex 190), He.free_ok X G (fact_at c.ex 191), He.free_ok X G (fact_at c.ex 192), He.free_ok X G (fact_at c.ex 193), He.free_ok X G (fact_at c.ex 194), He.free_ok X G (fact_at c.ex 195), He.free_ok X G (fact_at c.ex 196), He.free_ok X G (fact_at c.ex 197), He.free_ok X G (fact_at c.ex 198), He.free_ok X G (fact_at c.ex 199), He.free_ok X G (fact_at c.ex 200), He.free_ok X G (fact_at c.ex 201), He.str_ok X G (fact_at c.ex 202), He.str_ok X G (fact_at c.ex 203), He.int_ok X G (fact_at c.ex 204), He.str_ok X G (fact_at c.ex 205), He.str_ok X G (fact_at c.ex 206)⟩
  have pg : PySem.W.plainGet K (He.ga K "Form") Str.empty = true := (fact_at c.ex 1)
  have hdC : PySem.W.hasDictIn K (He.ga K "Form") = true := (fact_at c.ex 2)
  have po : PySem.W.plainOver K (He.ga K "Form") = true := (fact_at c.ex 3)
  have sa : PySem.W.findIn K (.ref (He.ga K "Form")) "__setattr__" = some (some (.builtin "object.__setattr__")) := (of_decide_eq_true (fact_at c.ex 4))
  have mkC : PySem.W.makesIn K (He.ga K "Form") = true := (fact_at c.ex 5)
  have kc : PySem.W.keepIn K (.ref (He.ga K "Form")) = true := (fact_at c.ex 6)
  have nt : PySem.W.findIn K (.ref (He.ga K "Form")) "terms" = some none := (of_decide_eq_true (fact_at c.ex 7))
  have ns : PySem.W.findIn K (.ref (He.ga K "Form")) "symbols" = some none := (of_decide_eq_true (fact_at c.ex 8))
  have nx : PySem.W.findIn K (.ref (He.ga K "Form")) "text" = some none := (of_decide_eq_true (fact_at c.ex 9))
  have sf : PySem.W.selfFirst K (He.ga K "Form") = true := (fact_at c.ex 10)
  have ci1 : PySem.W.findIn K (.ref (He.ga K "Form")) "__class__" = some (some (.builtin "object.__class__")) := (of_decide_eq_true (fact_at c.ex 11))
  have ci2 : PySem.W.specialIn K (.builtin "object.__class__") "__get__" = some (some (.builtin "getset_descriptor.__get__")) := (of_decide_eq_true (fact_at c.ex 12))
  have ci3 : PySem.W.takesIn K (.builtin "object.__class__") = some true := (of_decide_eq_true (fact_at c.ex 13))
  have ci4 : PySem.W.mroIn K (He.ga K "Form") (.type "object") = some true := (of_decide_eq_true (fact_at c.ex 14))
  have mr : PySem.W.findIn K (.ref (He.ga K "Form")) (PySem.dunderR Operator.Mult.info.2) = some none := (of_decide_eq_true (fact_at c.ex 15))
  have ms : PySem.W.subIn K (.type "int") (.ref (He.ga K "Form")) = some false := (of_decide_eq_true (fact_at c.ex 18))
  have nne : PySem.W.findIn K (.ref (He.ga K "Form")) "__ne__" = some (some (.builtin "object.__ne__")) := (of_decide_eq_true (fact_at c.ex 19))
  have nic : PySem.W.isClsIn K (He.ga K "Form") = true := (fact_at c.ex 20)
  have nty : PySem.W.typeIn K (.ref (He.ga K "Form")) = some (.type "type") := (of_decide_eq_true (fact_at c.ex 21))
  have rd : PySem.W.readsIn K (He.ga K "Form") (.type "type") = true := (fact_at c.ex 22)
  have ga : PySem.W.specialIn K (.ref (He.ga K "Form")) "__getattribute__" = some (some (.builtin "type.__getattribute__")) := (of_decide_eq_true (fact_at c.ex 23))
  have es_InvalidName : PySem.W.findIn K (.ref (He.ga K "InvalidName")) "__setattr__" = some (some (.builtin "object.__setattr__")) := (of_decide_eq_true (fact_at c.ex 26))
  have ex_InvalidName : PySem.W.subIn K (.ref (He.ga K "InvalidName")) (.type "BaseException") = some true := (of_decide_eq_true (fact_at c.ex 27))
  have et_InvalidName : PySem.W.typeIn K (.ref (He.ga K "InvalidName")) = some (.type "type") := (of_decide_eq_true (fact_at c.ex 28))
  have ek_InvalidName : PySem.W.keepIn K (.ref (He.ga K "InvalidName")) = true := (fact_at c.ex 29)
  have ea_InvalidName : PySem.W.findIn K (.ref (He.ga K "InvalidName")) "__getattribute__" = some (some (.builtin "BaseException.__getattribute__")) := (of_decide_eq_true (fact_at c.ex 30))
  have ee_InvalidName : PySem.W.findIn K (.ref (He.ga K "InvalidName")) "__getattr__" = some none := (of_decide_eq_true (fact_at c.ex 31))
  have ed_InvalidName : PySem.W.hasDictIn K (He.ga K "InvalidName") = true := (fact_at c.ex 32)
  have en_InvalidName : PySem.W.findIn K (.ref (He.ga K "InvalidName")) "value" = some none := (of_decide_eq_true (fact_at c.ex 33))
  have ei_InvalidName : PySem.W.isClsIn K (He.ga K "InvalidName") = true := (fact_at c.ex 34)
  have eh_InvalidName : PySem.W.findIn K (.ref (He.ga K "InvalidName")) "__class__" = some (some (.builtin "object.__class__")) := (of_decide_eq_true (fact_at c.ex 35))
  have em_InvalidName : PySem.W.mroIn K (He.ga K "InvalidName") (.type "object") = some true := (of_decide_eq_true (fact_at c.ex 36))
  have eo_InvalidName : PySem.W.subIn K (.ref (He.ga K "InvalidName")) (.ref (He.ga K "InvalidName")) = some true := (of_decide_eq_true (fact_at c.ex 37))
  have es_InvalidFactor : PySem.W.findIn K (.ref (He.ga K "InvalidFactor")) "__setattr__" = some (some (.builtin "object.__setattr__")) := (of_decide_eq_true (fact_at c.ex 40))
  have ex_InvalidFactor : PySem.W.subIn K (.ref (He.ga K "InvalidFactor")) (.type "BaseException") = some true := (of_decide_eq_true (fact_at c.ex 41))
  have et_InvalidFactor : PySem.W.typeIn K (.ref (He.ga K "InvalidFactor")) = some (.type "type") := (of_decide_eq_true (fact_at c.ex 42))
  have ek_InvalidFactor : PySem.W.keepIn K (.ref (He.ga K "InvalidFactor")) = true := (fact_at c.ex 43)
  have ea_InvalidFactor : PySem.W.findIn K (.ref (He.ga K "InvalidFactor")) "__getattribute__" = some (some (.builtin "BaseException.__getattribute__")) := (of_decide_eq_true (fact_at c.ex 44))
  have ee_InvalidFactor : PySem.W.findIn K (.ref (He.ga K "InvalidFactor")) "__getattr__" = some none := (of_decide_eq_true (fact_at c.ex 45))
  have ed_InvalidFactor : PySem.W.hasDictIn K (He.ga K "InvalidFactor") = true := (fact_at c.ex 46)
  have en_InvalidFactor : PySem.W.findIn K (.ref (He.ga K "InvalidFactor")) "value" = some none := (of_decide_eq_true (fact_at c.ex 47))
  have ei_InvalidFactor : PySem.W.isClsIn K (He.ga K "InvalidFactor") = true := (fact_at c.ex 48)
  have eh_InvalidFactor : PySem.W.findIn K (.ref (He.ga K "InvalidFactor")) "__class__" = some (some (.builtin "object.__class__")) := (of_decide_eq_true (fact_at c.ex 49))
  have em_InvalidFactor : PySem.W.mroIn K (He.ga K "InvalidFactor") (.type "object") = some true := (of_decide_eq_true (fact_at c.ex 50))
  have eo_InvalidFactor : PySem.W.subIn K (.ref (He.ga K "InvalidFactor")) (.ref (He.ga K "InvalidFactor")) = some true := (of_decide_eq_true (fact_at c.ex 51))
  have es_InvalidValues : PySem.W.findIn K (.ref (He.ga K "InvalidValues")) "__setattr__" = some (some (.builtin "object.__setattr__")) := (of_decide_eq_true (fact_at c.ex 54))
  have ex_InvalidValues : PySem.W.subIn K (.ref (He.ga K "InvalidValues")) (.type "BaseException") = some true := (of_decide_eq_true (fact_at c.ex 55))
  have et_InvalidValues : PySem.W.typeIn K (.ref (He.ga K "InvalidValues")) = some (.type "type") := (of_decide_eq_true (fact_at c.ex 56))
  have ek_InvalidValues : PySem.W.keepIn K (.ref (He.ga K "InvalidValues")) = true := (fact_at c.ex 57)
  have ea_InvalidValues : PySem.W.findIn K (.ref (He.ga K "InvalidValues")) "__getattribute__" = some (some (.builtin "BaseException.__getattribute__")) := (of_decide_eq_true (fact_at c.ex 58))
  have ee_InvalidValues : PySem.W.findIn K (.ref (He.ga K "InvalidValues")) "__getattr__" = some none := (of_decide_eq_true (fact_at c.ex 59))
  have ed_InvalidValues : PySem.W.hasDictIn K (He.ga K "InvalidValues") = true := (fact_at c.ex 60)
  have en_InvalidValues : PySem.W.findIn K (.ref (He.ga K "InvalidValues")) "value" = some none := (of_decide_eq_true (fact_at c.ex 61))
  have ei_InvalidValues : PySem.W.isClsIn K (He.ga K "InvalidValues") = true := (fact_at c.ex 62)
  have eh_InvalidValues : PySem.W.findIn K (.ref (He.ga K "InvalidValues")) "__class__" = some (some (.builtin "object.__class__")) := (of_decide_eq_true (fact_at c.ex 63))
  have em_InvalidValues : PySem.W.mroIn K (He.ga K "InvalidValues") (.type "object") = some true := (of_decide_eq_true (fact_at c.ex 64))
  have eo_InvalidValues : PySem.W.subIn K (.ref (He.ga K "InvalidValues")) (.ref (He.ga K "InvalidValues")) = some true := (of_decide_eq_true (fact_at c.ex 65))
  have es_NotAForm : PySem.W.findIn K (.ref (He.ga K "NotAForm")) "__setattr__" = some (some (.builtin "object.__setattr__")) := (of_decide_eq_true (fact_at c.ex 68))
  have ex_NotAForm : PySem.W.subIn K (.ref (He.ga K "NotAForm")) (.type "BaseException") = some true := (of_decide_eq_true (fact_at c.ex 69))
  have et_NotAForm : PySem.W.typeIn K (.ref (He.ga K "NotAForm")) = some (.type "type") := (of_decide_eq_true (fact_at c.ex 70))
  have ek_NotAForm : PySem.W.keepIn K (.ref (He.ga K "NotAForm")) = true := (fact_at c.ex 71)
  have ea_NotAForm : PySem.W.findIn K (.ref (He.ga K "NotAForm")) "__getattribute__" = some (some (.builtin "BaseException.__getattribute__")) := (of_decide_eq_true (fact_at c.ex 72))
  have ee_NotAForm : PySem.W.findIn K (.ref (He.ga K "NotAForm")) "__getattr__" = some none := (of_decide_eq_true (fact_at c.ex 73))
  have ed_NotAForm : PySem.W.hasDictIn K (He.ga K "NotAForm") = true := (fact_at c.ex 74)
  have en_NotAForm : PySem.W.findIn K (.ref (He.ga K "NotAForm")) "value" = some none := (of_decide_eq_true (fact_at c.ex 75))
  have ei_NotAForm : PySem.W.isClsIn K (He.ga K "NotAForm") = true := (fact_at c.ex 76)
  have eh_NotAForm : PySem.W.findIn K (.ref (He.ga K "NotAForm")) "__class__" = some (some (.builtin "object.__class__")) := (of_decide_eq_true (fact_at c.ex 77))
  have em_NotAForm : PySem.W.mroIn K (He.ga K "NotAForm") (.type "object") = some true := (of_decide_eq_true (fact_at c.ex 78))
  have eo_NotAForm : PySem.W.subIn K (.ref (He.ga K "NotAForm")) (.ref (He.ga K "NotAForm")) = some true := (of_decide_eq_true (fact_at c.ex 79))
  have kI : PySem.W.kitOne K (.ref (He.ga K "Form")) (.type "int") = some false := (of_decide_eq_true (fact_at c.ex 132))
  have pne : tabAd K (codeAd K (He.ga K "_law_right")) ≠ tabAd K (codeAd K (He.ga K "_law_keywords_right")) := (of_decide_eq_true (fact_at c.ex 185))
  have aC : mg "Form" = some (.ref (He.ga K "Form")) := He.glo_ok X G (fact_at c.ex 0)
  obtain ⟨fo, ma⟩ := Option.isSome_iff_exists.mp (fact_at c.ex 16)
  obtain ⟨ro, mb⟩ := Option.isSome_iff_exists.mp (fact_at c.ex 17)
  have FC : FormC K mg (He.ga K "Form") := ⟨aC, ⟨pg, hdC, po, sa⟩, nt, ns, nx, sf, ci1, ci2, ci3, ci4, kit_self⟩
  have MU : OwnI K (He.ga K "Form") .Mult := ⟨⟨none, mr, .inl rfl⟩, ⟨fo, ma⟩, ⟨ro, mb⟩, ms⟩
  have NE : NeC K (He.ga K "Form") := ⟨nne, ci4, nic, nty⟩
  have eg_InvalidName : mg "InvalidName" = some (.ref (He.ga K "InvalidName")) := He.glo_ok X G (fact_at c.ex 24)
  have el_InvalidName := oexB_ok (fact_at c.ex 25)
  have eg_InvalidFactor : mg "InvalidFactor" = some (.ref (He.ga K "InvalidFactor")) := He.glo_ok X G (fact_at c.ex 38)
  have el_InvalidFactor := oexB_ok (fact_at c.ex 39)
  have eg_InvalidValues : mg "InvalidValues" = some (.ref (He.ga K "InvalidValues")) := He.glo_ok X G (fact_at c.ex 52)
  have el_InvalidValues := oexB_ok (fact_at c.ex 53)
  have eg_NotAForm : mg "NotAForm" = some (.ref (He.ga K "NotAForm")) := He.glo_ok X G (fact_at c.ex 66)
  have el_NotAForm := oexB_ok (fact_at c.ex 67)
  have EF : EF K mg (He.ga K "Form") (He.ga K "InputError") (He.ga K "InvalidName") (He.ga K "InvalidFactor") (He.ga K "InvalidValues") (He.ga K "NotAForm") (He.ga K "InvalidText") (He.ga K "StateError") (He.ga K "RunError") (He.ga K "LimitError") := ⟨He.glo_ok X G (fact_at c.ex 80),
    He.glo_ok X G (fact_at c.ex 81),
    He.glo_ok X G (fact_at c.ex 82),
    He.glo_ok X G (fact_at c.ex 83),
    He.glo_ok X G (fact_at c.ex 84),
    He.glo_ok X G (fact_at c.ex 85),
    He.glo_ok X G (fact_at c.ex 86),
    He.glo_ok X G (fact_at c.ex 87),
    He.glo_ok X G (fact_at c.ex 88),
    ⟨(of_decide_eq_true (fact_at c.ex 89)), (of_decide_eq_true (fact_at c.ex 90)), (of_decide_eq_true (fact_at c.ex 91)), (of_decide_eq_true (fact_at c.ex 92)), (of_decide_eq_true (fact_at c.ex 93)), (of_decide_eq_true (fact_at c.ex 94)), (of_decide_eq_true (fact_at c.ex 95)), (of_decide_eq_true (fact_at c.ex 96)), (of_decide_eq_true (fact_at c.ex 97)), (of_decide_eq_true (fact_at c.ex 98)), by decide⟩,
    ⟨(of_decide_eq_true (fact_at c.ex 99)), (of_decide_eq_true (fact_at c.ex 100)), (of_decide_eq_true (fact_at c.ex 101)), (of_decide_eq_true (fact_at c.ex 102)), (of_decide_eq_true (fact_at c.ex 103)), (of_decide_eq_true (fact_at c.ex 104)), (of_decide_eq_true (fact_at c.ex 105)), (of_decide_eq_true (fact_at c.ex 106)), (of_decide_eq_true (fact_at c.ex 107)), (of_decide_eq_true (fact_at c.ex 108)), by decide⟩,
    ⟨(of_decide_eq_true (fact_at c.ex 109)), (of_decide_eq_true (fact_at c.ex 110)), (of_decide_eq_true (fact_at c.ex 111)), (of_decide_eq_true (fact_at c.ex 112)), (of_decide_eq_true (fact_at c.ex 113)), (of_decide_eq_true (fact_at c.ex 114)), (of_decide_eq_true (fact_at c.ex 115)), (of_decide_eq_true (fact_at c.ex 116)), (of_decide_eq_true (fact_at c.ex 117)), (of_decide_eq_true (fact_at c.ex 118)), by decide⟩,
    ⟨(of_decide_eq_true (fact_at c.ex 119)), (of_decide_eq_true (fact_at c.ex 120)), (of_decide_eq_true (fact_at c.ex 121)), (of_decide_eq_true (fact_at c.ex 122)), (of_decide_eq_true (fact_at c.ex 123)), (of_decide_eq_true (fact_at c.ex 124)), (of_decide_eq_true (fact_at c.ex 125)), (of_decide_eq_true (fact_at c.ex 126)), (of_decide_eq_true (fact_at c.ex 127)), (of_decide_eq_true (fact_at c.ex 128)), by decide⟩,
    ownTB_ok (fact_at c.ex 129),
    ownTB_ok (fact_at c.ex 130),
    ownTB_ok (fact_at c.ex 131),
    kI⟩
  obtain ⟨fd__law_cell, F__law_cell⟩ := c.fn dq__law_cell (List.mem_of_getElem? (i := 0) rfl)
  have D__law_cell : At K mg "_law_cell" s__law_cell := ⟨_, fd__law_cell, F__law_cell, He.glo_ok X G (fact_at c.ex 133)⟩
  obtain ⟨fd__law_heap, F__law_heap⟩ := c.fn dq__law_heap (List.mem_of_getElem? (i := 1) rfl)
  have D__law_heap : At K mg "_law_heap" s__law_heap := ⟨_, fd__law_heap, F__law_heap, He.glo_ok X G (fact_at c.ex 134)⟩
  obtain ⟨fd_InvalidFactor__init_, F_InvalidFactor__init_⟩ := c.fn dq_InvalidFactor__init_ (List.mem_of_getElem? (i := 2) rfl)
  have D_InvalidFactor__init_ : AtE K mg "InvalidFactor" "value" (He.ga K "InvalidFactor") "InvalidFactor.__init__" s_InvalidFactor__init_ := ⟨⟨eg_InvalidFactor, ⟨el_InvalidFactor, es_InvalidFactor, ex_InvalidFactor, et_InvalidFactor, ek_InvalidFactor⟩, ea_InvalidFactor, ee_InvalidFactor, ed_InvalidFactor, en_InvalidFactor, ei_InvalidFactor, eh_InvalidFactor, ci2, ci3, em_InvalidFactor, eo_InvalidFactor⟩, _, fd_InvalidFactor__init_, F_InvalidFactor__init_, (of_decide_eq_true (fact_at c.ex 135)), (of_decide_eq_true (fact_at c.ex 136))⟩
  obtain ⟨fd_InvalidName__init_, F_InvalidName__init_⟩ := c.fn dq_InvalidName__init_ (List.mem_of_getElem? (i := 3) rfl)
  have D_InvalidName__init_ : AtE K mg "InvalidName" "value" (He.ga K "InvalidName") "InvalidName.__init__" s_InvalidName__init_ := ⟨⟨eg_InvalidName, ⟨el_InvalidName, es_InvalidName, ex_InvalidName, et_InvalidName, ek_InvalidName⟩, ea_InvalidName, ee_InvalidName, ed_InvalidName, en_InvalidName, ei_InvalidName, eh_InvalidName, ci2, ci3, em_InvalidName, eo_InvalidName⟩, _, fd_InvalidName__init_, F_InvalidName__init_, (of_decide_eq_true (fact_at c.ex 137)), (of_decide_eq_true (fact_at c.ex 138))⟩
  obtain ⟨fd_is_integer, F_is_integer⟩ := c.fn dq_is_integer (List.mem_of_getElem? (i := 4) rfl)
  have D_is_integer : At K mg "is_integer" s_is_integer := ⟨_, fd_is_integer, F_is_integer, He.glo_ok X G (fact_at c.ex 139)⟩
  obtain ⟨fd_is_name, F_is_name⟩ := c.fn dq_is_name (List.mem_of_getElem? (i := 5) rfl)
  have D_is_name : At K mg "is_name" s_is_name := ⟨_, fd_is_name, F_is_name, He.glo_ok X G (fact_at c.ex 140)⟩
  obtain ⟨fd_is_symbol, F_is_symbol⟩ := c.fn dq_is_symbol (List.mem_of_getElem? (i := 6) rfl)
  have D_is_symbol : At K mg "is_symbol" s_is_symbol := ⟨_, fd_is_symbol, F_is_symbol, He.glo_ok X G (fact_at c.ex 141)⟩
  obtain ⟨fd_Form__repr_, F_Form__repr_⟩ := c.fn dq_Form__repr_ (List.mem_of_getElem? (i := 7) rfl)
  have D_Form__repr_ : AtM K (He.ga K "Form") "__repr__" "Form.__repr__" s_Form__repr_ := ⟨_, fd_Form__repr_, F_Form__repr_, (of_decide_eq_true (fact_at c.ex 142)), (fact_at c.ex 143), F_Form__repr_.kp⟩
  obtain ⟨fd_InvalidValues__init_, F_InvalidValues__init_⟩ := c.fn dq_InvalidValues__init_ (List.mem_of_getElem? (i := 8) rfl)
  have D_InvalidValues__init_ : AtE K mg "InvalidValues" "value" (He.ga K "InvalidValues") "InvalidValues.__init__" s_InvalidValues__init_ := ⟨⟨eg_InvalidValues, ⟨el_InvalidValues, es_InvalidValues, ex_InvalidValues, et_InvalidValues, ek_InvalidValues⟩, ea_InvalidValues, ee_InvalidValues, ed_InvalidValues, en_InvalidValues, ei_InvalidValues, eh_InvalidValues, ci2, ci3, em_InvalidValues, eo_InvalidValues⟩, _, fd_InvalidValues__init_, F_InvalidValues__init_, (of_decide_eq_true (fact_at c.ex 144)), (of_decide_eq_true (fact_at c.ex 145))⟩
  obtain ⟨fd_NotAForm__init_, F_NotAForm__init_⟩ := c.fn dq_NotAForm__init_ (List.mem_of_getElem? (i := 9) rfl)
  have D_NotAForm__init_ : AtE K mg "NotAForm" "value" (He.ga K "NotAForm") "NotAForm.__init__" s_NotAForm__init_ := ⟨⟨eg_NotAForm, ⟨el_NotAForm, es_NotAForm, ex_NotAForm, et_NotAForm, ek_NotAForm⟩, ea_NotAForm, ee_NotAForm, ed_NotAForm, en_NotAForm, ei_NotAForm, eh_NotAForm, ci2, ci3, em_NotAForm, eo_NotAForm⟩, _, fd_NotAForm__init_, F_NotAForm__init_, (of_decide_eq_true (fact_at c.ex 146)), (of_decide_eq_true (fact_at c.ex 147))⟩
  obtain ⟨fd_is_pair, F_is_pair⟩ := c.fn dq_is_pair (List.mem_of_getElem? (i := 10) rfl)
  have D_is_pair : At K mg "is_pair" s_is_pair := ⟨_, fd_is_pair, F_is_pair, He.glo_ok X G (fact_at c.ex 148)⟩
  obtain ⟨fd_is_values, F_is_values⟩ := c.fn dq_is_values (List.mem_of_getElem? (i := 11) rfl)
  have D_is_values : At K mg "is_values" s_is_values := ⟨_, fd_is_values, F_is_values, He.glo_ok X G (fact_at c.ex 149)⟩
  obtain ⟨fd_numbers_of, F_numbers_of⟩ := c.fn dq_numbers_of (List.mem_of_getElem? (i := 12) rfl)
  have D_numbers_of : At K mg "numbers_of" s_numbers_of := ⟨_, fd_numbers_of, F_numbers_of, He.glo_ok X G (fact_at c.ex 150)⟩
  obtain ⟨fd_check_values, F_check_values⟩ := c.fn dq_check_values (List.mem_of_getElem? (i := 13) rfl)
  have D_check_values : At K mg "check_values" s_check_values := ⟨_, fd_check_values, F_check_values, He.glo_ok X G (fact_at c.ex 151)⟩
  obtain ⟨fd_value_by, F_value_by⟩ := c.fn dq_value_by (List.mem_of_getElem? (i := 14) rfl)
  have D_value_by : At K mg "value_by" s_value_by := ⟨_, fd_value_by, F_value_by, He.glo_ok X G (fact_at c.ex 152)⟩
  obtain ⟨fd_Form_evaluate, F_Form_evaluate⟩ := c.fn dq_Form_evaluate (List.mem_of_getElem? (i := 15) rfl)
  have D_Form_evaluate : AtM K (He.ga K "Form") "evaluate" "Form.evaluate" s_Form_evaluate := ⟨_, fd_Form_evaluate, F_Form_evaluate, (of_decide_eq_true (fact_at c.ex 153)), (fact_at c.ex 154), F_Form_evaluate.kp⟩
  obtain ⟨fd_check_form, F_check_form⟩ := c.fn dq_check_form (List.mem_of_getElem? (i := 16) rfl)
  have D_check_form : At K mg "check_form" s_check_form := ⟨_, fd_check_form, F_check_form, He.glo_ok X G (fact_at c.ex 155)⟩
  obtain ⟨fd_Form__add_, F_Form__add_⟩ := c.fn dq_Form__add_ (List.mem_of_getElem? (i := 17) rfl)
  have D_Form__add_ : AtM K (He.ga K "Form") "__add__" "Form.__add__" s_Form__add_ := ⟨_, fd_Form__add_, F_Form__add_, (of_decide_eq_true (fact_at c.ex 156)), (fact_at c.ex 157), F_Form__add_.kp⟩
  obtain ⟨fd_Form__mul_, F_Form__mul_⟩ := c.fn dq_Form__mul_ (List.mem_of_getElem? (i := 18) rfl)
  have D_Form__mul_ : AtM K (He.ga K "Form") "__mul__" "Form.__mul__" s_Form__mul_ := ⟨_, fd_Form__mul_, F_Form__mul_, (of_decide_eq_true (fact_at c.ex 158)), (fact_at c.ex 159), F_Form__mul_.kp⟩
  obtain ⟨fd_Form__sub_, F_Form__sub_⟩ := c.fn dq_Form__sub_ (List.mem_of_getElem? (i := 19) rfl)
  have D_Form__sub_ : AtM K (He.ga K "Form") "__sub__" "Form.__sub__" s_Form__sub_ := ⟨_, fd_Form__sub_, F_Form__sub_, (of_decide_eq_true (fact_at c.ex 160)), (fact_at c.ex 161), F_Form__sub_.kp⟩
  obtain ⟨fd__law_joined, F__law_joined⟩ := c.fn dq__law_joined (List.mem_of_getElem? (i := 20) rfl)
  have D__law_joined : At K mg "_law_joined" s__law_joined := ⟨_, fd__law_joined, F__law_joined, He.glo_ok X G (fact_at c.ex 162)⟩
  obtain ⟨fd__law_told, F__law_told⟩ := c.fn dq__law_told (List.mem_of_getElem? (i := 21) rfl)
  have D__law_told : At K mg "_law_told" s__law_told := ⟨_, fd__law_told, F__law_told, He.glo_ok X G (fact_at c.ex 163)⟩
  obtain ⟨fd__law_keywords_right, F__law_keywords_right⟩ := c.fn dq__law_keywords_right (List.mem_of_getElem? (i := 22) rfl)
  have D__law_keywords_right : At K mg "_law_keywords_right" s__law_keywords_right := ⟨_, fd__law_keywords_right, F__law_keywords_right, He.glo_ok X G (fact_at c.ex 164)⟩
  obtain ⟨fd_Form__str_, F_Form__str_⟩ := c.fn dq_Form__str_ (List.mem_of_getElem? (i := 23) rfl)
  have D_Form__str_ : AtM K (He.ga K "Form") "__str__" "Form.__str__" s_Form__str_ := ⟨_, fd_Form__str_, F_Form__str_, (of_decide_eq_true (fact_at c.ex 165)), (fact_at c.ex 166), F_Form__str_.kp⟩
  obtain ⟨fd_text_of, F_text_of⟩ := c.fn dq_text_of (List.mem_of_getElem? (i := 24) rfl)
  have D_text_of : At K mg "text_of" s_text_of := ⟨_, fd_text_of, F_text_of, He.glo_ok X G (fact_at c.ex 167)⟩
  obtain ⟨fd_Form__init_, F_Form__init_⟩ := c.fn dq_Form__init_ (List.mem_of_getElem? (i := 25) rfl)
  have D_Form__init_ : AtK K mg (He.ga K "Form") "Form" "Form.__init__" s_Form__init_ := ⟨_, fd_Form__init_, F_Form__init_, ⟨mkC, (of_decide_eq_true (fact_at c.ex 168)), (fact_at c.ex 169), kc⟩, aC⟩
  obtain ⟨fd_term_of, F_term_of⟩ := c.fn dq_term_of (List.mem_of_getElem? (i := 26) rfl)
  have D_term_of : At K mg "term_of" s_term_of := ⟨_, fd_term_of, F_term_of, He.glo_ok X G (fact_at c.ex 170)⟩
  obtain ⟨fd_form_of, F_form_of⟩ := c.fn dq_form_of (List.mem_of_getElem? (i := 27) rfl)
  have D_form_of : At K mg "form_of" s_form_of := ⟨_, fd_form_of, F_form_of, He.glo_ok X G (fact_at c.ex 171)⟩
  obtain ⟨fd_Form_read, F_Form_read⟩ := c.fn dq_Form_read (List.mem_of_getElem? (i := 28) rfl)
  have sm_Form_read := smB_ok (fact_at c.ex 172)
  have D_Form_read : AtS K (He.ga K "Form") "read" "Form.read" s_Form_read := ⟨_, fd_Form_read, F_Form_read, .type "type", _, ⟨rd, ga⟩, ⟨sm_Form_read.1, sm_Form_read.2, rfl, F_Form_read.kp⟩⟩
  obtain ⟨fd__law_roll, F__law_roll⟩ := c.fn dq__law_roll (List.mem_of_getElem? (i := 29) rfl)
  have D__law_roll : At K mg "_law_roll" s__law_roll := ⟨_, fd__law_roll, F__law_roll, He.glo_ok X G (fact_at c.ex 173)⟩
  obtain ⟨fd__law_pick, F__law_pick⟩ := c.fn dq__law_pick (List.mem_of_getElem? (i := 30) rfl)
  have D__law_pick : At K mg "_law_pick" s__law_pick := ⟨_, fd__law_pick, F__law_pick, He.glo_ok X G (fact_at c.ex 174)⟩
  obtain ⟨fd__law_name, F__law_name⟩ := c.fn dq__law_name (List.mem_of_getElem? (i := 31) rfl)
  have D__law_name : At K mg "_law_name" s__law_name := ⟨_, fd__law_name, F__law_name, He.glo_ok X G (fact_at c.ex 175)⟩
  obtain ⟨fd__law_names, F__law_names⟩ := c.fn dq__law_names (List.mem_of_getElem? (i := 32) rfl)
  have D__law_names : At K mg "_law_names" s__law_names := ⟨_, fd__law_names, F__law_names, He.glo_ok X G (fact_at c.ex 176)⟩
  obtain ⟨fd__law_odd_values, F__law_odd_values⟩ := c.fn dq__law_odd_values (List.mem_of_getElem? (i := 33) rfl)
  have D__law_odd_values : At K mg "_law_odd_values" s__law_odd_values := ⟨_, fd__law_odd_values, F__law_odd_values, He.glo_ok X G (fact_at c.ex 177)⟩
  obtain ⟨fd__law_text, F__law_text⟩ := c.fn dq__law_text (List.mem_of_getElem? (i := 34) rfl)
  have D__law_text : At K mg "_law_text" s__law_text := ⟨_, fd__law_text, F__law_text, He.glo_ok X G (fact_at c.ex 178)⟩
  obtain ⟨fd__law_right, F__law_right⟩ := c.fn dq__law_right (List.mem_of_getElem? (i := 35) rfl)
  have D__law_right : At K mg "_law_right" s__law_right := ⟨_, fd__law_right, F__law_right, He.glo_ok X G (fact_at c.ex 179)⟩
  obtain ⟨fd_law, F_law⟩ := c.fn dq_law (List.mem_of_getElem? (i := 36) rfl)
  have D_law : At K mg "law" s_law := ⟨_, fd_law, F_law, He.glo_ok X G (fact_at c.ex 180)⟩
  have hF : ∀ base : Heap, (∀ p ∈ [(codeAd K (He.ga K "_law_right"), tabAd K (codeAd K (He.ga K "_law_right"))), (codeAd K (He.ga K "_law_keywords_right"), tabAd K (codeAd K (He.ga K "_law_keywords_right")))], LamX.TabB base mg p.1 p.2) → Has P w K mg base CX0 "law" s_law ["_law_script"] 11 (spLaw5 K (tabAd K (codeAd K (He.ga K "_law_right"))) (tabAd K (codeAd K (He.ga K "_law_keywords_right")))) := fun base tb => by
    have TB__law_right := code_tab (q := "_law_right") (st := s__law_right) (fact_at c.ex 181) (He.glo_ok X G (fact_at c.ex 179)) (tb _ (List.mem_of_getElem? (i := 0) rfl))
    have TB__law_keywords_right := code_tab (q := "_law_keywords_right") (st := s__law_keywords_right) (fact_at c.ex 183) (He.glo_ok X G (fact_at c.ex 164)) (tb _ (List.mem_of_getElem? (i := 1) rfl))
    have h__law_cell := ok__law_cell (P := P) (w := w) (base := base) T FC MU NE EF D__law_cell 
    have h__law_heap := ok__law_heap (P := P) (w := w) (base := base) T FC MU NE EF D__law_heap 
    have h_InvalidFactor__init_ := ok_InvalidFactor__init_ (P := P) (w := w) (base := base) T FC MU NE EF D_InvalidFactor__init_ 
    have h_InvalidName__init_ := ok_InvalidName__init_ (P := P) (w := w) (base := base) T FC MU NE EF D_InvalidName__init_ 
    have h_is_integer := ok_is_integer (P := P) (w := w) (base := base) T FC MU NE EF D_is_integer 
    have h_is_name := ok_is_name (P := P) (w := w) (base := base) T FC MU NE EF D_is_name 
    have h_is_symbol := ok_is_symbol (P := P) (w := w) (base := base) T FC MU NE EF D_is_symbol h_is_name
    have h_Form__init__x := ok_Form__init__x (P := P) (w := w) (base := base) T FC MU NE EF D_Form__init_ h_InvalidFactor__init_ h_InvalidName__init_ h_is_integer h_is_symbol
    have h_Form__repr_ := ok_Form__repr_ (P := P) (w := w) (base := base) T FC MU NE EF D_Form__repr_ 
    have h_Form__repr__x := ok_Form__repr__x (P := P) (w := w) (base := base) T FC MU NE EF D_Form__repr_ 
    have h_InvalidValues__init_ := ok_InvalidValues__init_ (P := P) (w := w) (base := base) T FC MU NE EF D_InvalidValues__init_ 
    have h_NotAForm__init_ := ok_NotAForm__init_ (P := P) (w := w) (base := base) T FC MU NE EF D_NotAForm__init_ 
    have h_is_pair := ok_is_pair (P := P) (w := w) (base := base) T FC MU NE EF D_is_pair h_is_integer h_is_symbol
    have h_is_values := ok_is_values (P := P) (w := w) (base := base) T FC MU NE EF D_is_values h_is_pair
    have h_numbers_of := ok_numbers_of (P := P) (w := w) (base := base) T FC MU NE EF D_numbers_of 
    have h_check_values := ok_check_values (P := P) (w := w) (base := base) T FC MU NE EF D_check_values h_InvalidValues__init_ h_is_values h_numbers_of
    have h_value_by := ok_value_by (P := P) (w := w) (base := base) T FC MU NE EF D_value_by 
    have h_Form_evaluate := ok_Form_evaluate (P := P) (w := w) (base := base) T FC MU NE EF D_Form_evaluate h_check_values h_numbers_of h_value_by
    have h_check_form := ok_check_form (P := P) (w := w) (base := base) T FC MU NE EF D_check_form h_NotAForm__init_
    have h_Form__add_ := ok_Form__add_ (P := P) (w := w) (base := base) T FC MU NE EF D_Form__add_ h_check_form
    have h_is_integer_x := ok_is_integer_x (P := P) (w := w) (base := base) T FC MU NE EF D_is_integer 
    have h_Form__mul_ := ok_Form__mul_ (P := P) (w := w) (base := base) T FC MU NE EF D_Form__mul_ h_InvalidFactor__init_ h_is_integer_x
    have h_Form__sub_ := ok_Form__sub_ (P := P) (w := w) (base := base) T FC MU NE EF D_Form__sub_ h_check_form
    have h__law_joined := ok__law_joined (P := P) (w := w) (base := base) T FC MU NE EF D__law_joined h_Form__add_ h_Form__mul_ h_Form__sub_
    have h__law_told := D__law_told
    have h__law_keywords_right := ok__law_keywords_right (P := P) (w := w) (base := base) T FC MU NE EF D__law_keywords_right TB__law_keywords_right h_Form__init__x h_Form__repr_ h_Form__repr__x h_InvalidFactor__init_ h_InvalidName__init_ h_InvalidValues__init_ h_NotAForm__init_ h__law_told
    have h_Form__str_ := ok_Form__str_ (P := P) (w := w) (base := base) T FC MU NE EF D_Form__str_ 
    have h_text_of := ok_text_of (P := P) (w := w) (base := base) T FC MU NE EF D_text_of 
    have h_Form__init_ := ok_Form__init_ (P := P) (w := w) (base := base) T FC MU NE EF D_Form__init_ h_is_integer h_is_symbol h_text_of
    have h_term_of := ok_term_of (P := P) (w := w) (base := base) T FC MU NE EF D_term_of h_is_symbol
    have h_form_of := ok_form_of (P := P) (w := w) (base := base) T FC MU NE EF D_form_of h_Form__init_ h_term_of
    have h_Form_read := ok_Form_read (P := P) (w := w) (base := base) T FC MU NE EF D_Form_read h_form_of
    have h__law_roll := ok__law_roll (P := P) (w := w) (base := base) T FC MU NE EF D__law_roll 
    have h__law_pick := ok__law_pick (P := P) (w := w) (base := base) T FC MU NE EF D__law_pick h__law_roll
    have h__law_name := ok__law_name (P := P) (w := w) (base := base) T FC MU NE EF D__law_name h__law_pick h__law_roll
    have h__law_names := ok__law_names (P := P) (w := w) (base := base) T FC MU NE EF D__law_names h__law_name h__law_pick h__law_roll
    have h__law_odd_values := ok__law_odd_values (P := P) (w := w) (base := base) T FC MU NE EF D__law_odd_values h__law_pick h__law_roll
    have h__law_text := ok__law_text (P := P) (w := w) (base := base) T FC MU NE EF D__law_text 
    have h__law_right := ok__law_right (P := P) (w := w) (base := base) T FC MU NE EF D__law_right TB__law_right h_Form__repr_ h_Form__repr__x h_Form__str_ h_Form_evaluate h_Form_read h_InvalidFactor__init_ h_InvalidName__init_ h_InvalidValues__init_ h_NotAForm__init_ h__law_joined h__law_names h__law_odd_values h__law_pick h__law_roll h__law_text h__law_told
    have h_law := ok_law (P := P) (w := w) (base := base) T FC MU NE EF D_law (of_decide_eq_true (fact_at c.ex 185)) h__law_cell h__law_heap h__law_keywords_right h__law_right
    exact h_law
  obtain rfl : He.ga K "law" = fa := by
    have e := (He.glo_ok X G (x := "law") (fact_at c.ex 180)).symm.trans hfa
    cases e
    rfl
  obtain ⟨oc, od, kV, doc, pm, an, cdv, ct, osl, rfl, lk, hcd⟩ := F_law.ex
  exact ⟨_, fun s v => .of_eq rfl, fun base _ _ tb => has_fg ⟨⟨oc, od, kV, doc, pm, an, cdv, ct, osl, rfl, lk, hcd⟩, F_law.kp⟩ hfa (hF base tb)⟩
end K05
open PySem PySem.W PySem.Calls PyProof.Rows
set_option maxRecDepth 100000 in
set_option maxHeartbeats 0 in
theorem PySem.Challenge.cw_blockmoves_k05_forms_refused_holds : PySem.Challenge.rw_blockmoves_k05_forms_refused.Holds := by
  w_on; o_law
  refine HandSHeadRun.head_any (r := K05.R) (q := view K05.R.prog [43]) (H := K05.hk) (ob := K05.ob) (M := 60000) (loose := K05.loose) (d := HandSHeadRun.topDef K05.R.prog 43) (kwd := []) K05.ob_eq
    (by kernel_rfl) (fun s => by kernel_rfl) K05.run (by kernel_rfl) (by kernel_rfl) (by kernel_rfl) (by rfl) (by first | assumption | decide +kernel) (by decide +kernel) ⟨rfl, rfl, rfl, rfl, rfl, by decide +kernel⟩ ?hw ?hc
  case hw => w_witness2
  case hc =>
    refine G.walkT (l := PySem.Challenge.rw_blockmoves_k05_forms_refused) (n := 63) (k := 11) (x := "_law_script") (CX := L2.CX0) rfl (by decide) (by kernel_rfl) ⟨rfl, by decide, by decide⟩ ?F (fun _ _ _ _ z => z)
    intro w mg fa h Y GG hmg0
    obtain ⟨K, KX, c, tb⟩ := Y
    have hmg : mg ("law" : PySem.Str) = some (.ref fa) := by
      have e : (HandSHeadRun.topDef K05.R.prog 43).name = ("law" : PySem.Str) := by kernel_rfl
      rw [← e]
      exact hmg0
    obtain ⟨fd, hb, hF⟩ := K05.all_mk (P := (PySem.Challenge.rw_blockmoves_k05_forms_refused).prog) (w := w) KX GG hmg c
    have t0 := tb _ (List.mem_of_getElem? (l := K05.tbs) (i := 0) rfl)
    have t1 := tb _ (List.mem_of_getElem? (l := K05.tbs) (i := 1) rfl)
    refine ⟨K, fd, _, (G.spLaw5 K (G.tabAd K (G.codeAd K (He.ga K "_law_right"))) (G.tabAd K (G.codeAd K (He.ga K "_law_keywords_right")))), KX, ?tb, hb, ?sp, hF⟩
    case tb =>
      intro p hp
      simp only [List.mem_cons, List.not_mem_nil, or_false] at hp
      rcases hp with rfl | rfl
      · exact ⟨t0.1, t0.2, PySem.W.codeHd_of_K KX (G.fact_at c.ex 182)⟩
      · exact ⟨t1.1, t1.2, PySem.W.codeHd_of_K KX (G.fact_at c.ex 184)⟩
    case sp =>
      intro H a ns hl hT hS
      exact ⟨a, ns, rfl, hS, hl, hT _ (List.mem_of_getElem? (i := 0) rfl), hT _ (List.mem_of_getElem? (i := 1) rfl), fun _ => rfl⟩
#print axioms PySem.Challenge.cw_blockmoves_k05_forms_refused_holds
