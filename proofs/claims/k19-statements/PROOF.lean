import PyProof.Rows.All
import Wide.All
import OpenK.AllK
import Wide.FinOn
import HandS.ForMost
import HandS.IsInst
import HandS.Style
import HandS.Flow
import HandS.Defaults
import HandS.Walk
import PyProof.FitsReplace
import PyProof.DictUpdate
import HandS.Star
import KE.KOpsOwn
import HandS.ClsMeth
import KE.KCallOwn
import HandS.SortRule
import KE.KSortTupAny
import KE.KDictPairs
import HandS.ReplaceLit
import HandS.FStr
import HandS.DictComp
import HandS.DictTup
import HandS.Text
import HandS.NoneIn
import KE.IntBitsLaws
import HandS.Steps
import PyProof.ReprLen
import HandS.ExcInit
import HandS.ExcField
import HandS.ExcIs
import HandS.ExcOwn
import HandS.WordsExc
import KE.KExcIs
import KE.IntTextText
import KE.DataEq
import HandS.More
import KE.KExcMake
import HandS.DictEq
import HandS.Wide
import HandS.Lambda
import HandS.EndBits
import PyProof.ReprNest
import HandS.HotCalls
import KE.KSuper
import HandS.Nested
import HandS.Set
import HandS.Strs
import HandS.TupSets
import HandS.SortKw
import KE.DataMinMax
import PyProof.AutoSeq1
import KE.KFmtOwn
import HandS.TupAny
import HandS.Conv
import KE.GoesMore
import HandS.List
import KE.KRevSl
import HandS.HeadHook3
import HandS.GenList
import KE.KDictItemsList
import KE.KDictZip
import KE.GoesEnum
import HandS.Zip
import HandS.TupMul
import HandS.Call
import HandS.Words
import HandS.Head0
import HandS.Head1
import HandS.Head2
import HandS.HeadEnd
import HandS.HeadHook1
import HandS.HeadHook2
import KE.KExcInit
import PySem.Challenge.RW_blockmoves_k19_statements_made
set_option Elab.async false
set_option linter.all false
set_option maxRecDepth 100000
set_option maxHeartbeats 4000000
namespace G
open PySem PySem.Spec PyProof.Rows L2
/-- a def of the text: where its function stands, its names, its row -/
structure DefQ where
  at_ : PySem.W.Frag → Addr
  name : Str
  qual : Str
  st : Stmt
  clo : List Str := []
def fnAt (K : PySem.W.Frag) (a : Addr) : He.FnW := match K.lookup a with
  | some ⟨_, _, .func fd, _⟩ => some (fd.name, fd.qualname, fd.params, fd.body, fd.scope, fd.globals, fd.closure.map (fun p => (p.1, 0)), fd.builtins)
  | _ => none
def DefQ.val (d : DefQ) : He.FnW := some (d.name, d.qual, defArgs d.st, .stmts (defBody d.st), defScope d.st, mainGlobals, d.clo.map (fun x => (x, 0)), builtinsNs)
def noneB : Value → Bool
  | .none => true
  | _ => false
def DefQ.ok (K : PySem.W.Frag) (d : DefQ) : Bool := match K.lookup (d.at_ K) with
  | some ⟨_, _, .func fd, _⟩ => PySem.W.codeIn K fd.code d.qual && (noneB fd.defaults && PySem.W.keepIn K (.ref (d.at_ K)))
  | _ => false
/-- .. as it stands, with the names that it captures -/
structure FunQ (K : PySem.W.Frag) (d : DefQ) (f : Addr) (fd : FuncData) : Prop where
  ex : ∃ (cl : List (Str × Addr)) (oc kV doc pm cdv ct : Value) (od an : Option Addr) (osl : Array (Option Value)), fd = PySem.W.fnX d.name d.qual (defArgs d.st) (defBody d.st) (defScope d.st) cl .none kV doc pm an cdv ct ∧ cl.map (·.1) = d.clo ∧ K.lookup f = some ⟨oc, od, .func fd, osl⟩ ∧ PySem.W.codeIn K cdv d.qual = true
  kp : PySem.W.keepIn K (.ref f) = true
theorem clo_names : ∀ {cl : List (Str × Addr)} {l : List Str}, cl.map (fun p => (p.1, 0)) = l.map (fun x => ((x, 0) : Str × Addr)) → cl.map (·.1) = l
  | [], [], _ => rfl
  | [], _ :: _, e => by cases e
  | _ :: _, [], e => by cases e
  | p :: cl, x :: l, e => by
    rw [List.map_cons, List.map_cons] at e
    injection e with e1 e2
    injection e1 with e1 _
    rw [List.map_cons, e1, clo_names e2]
theorem DefQ.fn {K : PySem.W.Frag} {d : DefQ} (e : fnAt K (d.at_ K) = d.val) (c : d.ok K = true) : ∃ fd, FunQ K d (d.at_ K) fd := by
  unfold DefQ.ok at c
  unfold fnAt at e
  cases q : K.lookup (d.at_ K) with
  | none =>
    rw [q] at c
    cases c
  | some o =>
    obtain ⟨oc, od, dt, sl⟩ := o
    rw [q] at c e
    cases dt with
    | func fd =>
      obtain ⟨a1, a2, a3, a4, a5, a6, a7, a8, a9, a10, a11, a12, a13, a14, a15⟩ := fd
      simp only [DefQ.val, Option.some.injEq, Prod.mk.injEq] at e
      obtain ⟨rfl, rfl, rfl, rfl, rfl, rfl, e7, rfl⟩ := e
      obtain ⟨c1, c2⟩ := He.ba c
      obtain ⟨c2, c3⟩ := He.ba c2
      cases a8 with
      | none => exact ⟨_, ⟨a7, oc, a9, a10, a11, a13, a14, od, a12, sl, rfl, clo_names e7, q, c1⟩, c3⟩
      | _ => cases c2
    | _ => cases c
def frcO {α : Type} (o : Obj) (k : Obj → α) : α := match o with
  | ⟨c, d, dt, sl⟩ => k ⟨c, d, dt, sl⟩
theorem frcO_eq {α : Type} (o : Obj) (k : Obj → α) : frcO o k = k o := rfl
def frcK {α : Type} : PySem.W.Frag → (PySem.W.Frag → α) → α
  | [], k => k []
  | (a, o) :: r, k => HandSHeadRun.frNat a fun a => frcO o fun o => frcK r fun r => k ((a, o) :: r)
theorem frcK_eq {α : Type} : ∀ (l : PySem.W.Frag) (k : PySem.W.Frag → α), frcK l k = k l
  | [], _ => rfl
  | (a, o) :: r, k => by
    unfold frcK
    rw [HandSHeadRun.frNat_eq, frcO_eq, frcK_eq r]
section
variable {α : Type} (g : Addr → Option Obj)
def addR : List Nat → Nat → List Nat → (Nat → List Nat → α) → α
  | [], seen, acc, k => k seen acc
  | a :: r, seen, acc, k => match Nat.beq (Nat.mod (Nat.shiftRight seen a) 2) 1 with
    | true => addR r seen acc k
    | false => HandSHeadRun.frNat a fun a => HandSHeadRun.frNat (Nat.lor seen (Nat.shiftLeft 1 a)) fun seen => addR r seen (a :: acc) k
/-- .. the cells that a function captures among them -/
def refsC (o : Obj) : List Addr := match o.data with
  | .func fd => He.refsO o ++ fd.closure.map (·.2)
  | _ => He.refsO o
def lvl : List Nat → Nat → List Nat → (Nat → List Nat → α) → α
  | [], seen, acc, k => k seen acc
  | a :: r, seen, acc, k => match g a with
    | some o => addR (refsC o) seen acc fun seen acc => lvl r seen acc k
    | none => lvl r seen acc k
def revF : List Nat → List Nat → (List Nat → α) → α
  | [], acc, k => k acc
  | a :: r, acc, k => revF r (a :: acc) k
def rch : Nat → List Nat → Nat → List Nat → (List Nat → α) → α
  | 0, _, _, all, k => revF all [] k
  | n + 1, fr, seen, all, k => lvl g fr seen [] fun seen new => rch n new seen (new ++ all) k
end
section
variable {α : Type} (g : Addr → Option Obj)
theorem addR_eq : ∀ (l : List Nat) (seen : Nat) (acc : List Nat) (k : Nat → List Nat → α), addR l seen acc k = k (addR l seen acc Prod.mk).1 (addR l seen acc Prod.mk).2
  | [], seen, acc, k => rfl
  | a :: r, seen, acc, k => by
    unfold addR
    cases Nat.beq (Nat.mod (Nat.shiftRight seen a) 2) 1 with
    | true => exact addR_eq r seen acc k
    | false =>
      simp only [HandSHeadRun.frNat_eq]
      exact addR_eq r _ _ k
theorem lvl_eq : ∀ (l : List Nat) (seen : Nat) (acc : List Nat) (k : Nat → List Nat → α), lvl g l seen acc k = k (lvl g l seen acc Prod.mk).1 (lvl g l seen acc Prod.mk).2
  | [], seen, acc, k => rfl
  | a :: r, seen, acc, k => by
    unfold lvl
    cases g a with
    | none => exact lvl_eq r seen acc k
    | some o =>
      show addR (refsC o) seen acc (fun seen acc => lvl g r seen acc k) = k (addR (refsC o) seen acc fun seen acc => lvl g r seen acc Prod.mk).1 (addR (refsC o) seen acc fun seen acc => lvl g r seen acc Prod.mk).2
      rw [addR_eq (refsC o) seen acc (fun seen acc => lvl g r seen acc k), addR_eq (refsC o) seen acc (fun seen acc => lvl g r seen acc Prod.mk)]
      exact lvl_eq r _ _ k
theorem revF_eq : ∀ (l acc : List Nat) (k : List Nat → α), revF l acc k = k (revF l acc id)
  | [], acc, k => rfl
  | a :: r, acc, k => revF_eq r (a :: acc) k
theorem rch_eq : ∀ (n : Nat) (fr : List Nat) (seen : Nat) (all : List Nat) (k : List Nat → α), rch g n fr seen all k = k (rch g n fr seen all id)
  | 0, _, _, all, k => revF_eq all [] k
  | n + 1, fr, seen, all, k => by
    unfold rch
    rw [lvl_eq g fr seen [] (fun seen new => rch g n new seen (new ++ all) k), lvl_eq g fr seen [] (fun seen new => rch g n new seen (new ++ all) id)]
    exact rch_eq n _ _ _ k
end
abbrev AlQ : Type := Bool × List He.FnW
def valQ (fn : List DefQ) : AlQ := (true, fn.map DefQ.val)
structure SaysQ (ex : PySem.W.Frag → Bool) (fn : List DefQ) (K : PySem.W.Frag) : Prop where
  ex : ex K = true
  fq : ∀ d ∈ fn, ∃ fd, FunQ K d (d.at_ K) fd
theorem SaysQ.fn {ex : PySem.W.Frag → Bool} {fn : List DefQ} {K : PySem.W.Frag} (c : SaysQ ex fn K) (d : DefQ) (h : d ∈ fn) (n : d.clo = [] := by rfl) : ∃ fd, Fun K d.name d.qual d.st (d.at_ K) fd := by
  obtain ⟨_, ⟨cl, oc, kV, doc, pm, cdv, ct, od, an, osl, rfl, e, lk, hc⟩, kp⟩ := c.fq d h
  rw [n] at e
  obtain rfl := List.map_eq_nil_iff.mp e
  exact ⟨_, ⟨oc, od, kV, doc, pm, an, cdv, ct, osl, rfl, lk, hc⟩, kp⟩
theorem map_eq_mem {α β : Type} {f g : α → β} : ∀ {l : List α}, l.map f = l.map g → ∀ x ∈ l, f x = g x
  | [], _, x, hx => nomatch hx
  | y :: r, e, x, hx => by
    rw [List.map_cons, List.map_cons] at e
    injection e with e1 e2
    rcases List.mem_cons.mp hx with rfl | h
    · exact e1
    · exact map_eq_mem e2 x h
end G


namespace G
open PySem PySem.Spec PySem.Calls PyProof.Rows L2 He
section
open HandSHeadRun PySem.W
variable {E : OsState → Option SharedT} {n : Nat}
theorem map_at {α β : Type} {o : Option α} {f : α → β} {b : β} {s : α} (h : o.map f = some b) (e : o = some s) : f s = b := by
  rw [e] at h
  exact Option.some.inj h
end
end G


namespace G
open PySem PySem.Spec PySem.Calls PyProof.Rows L2 He
def isFld : Data → Bool
  | .fields _ => true
  | _ => false
def dropT (g : Addr → Option Obj) (a : Addr) : Option Obj := match g a with
  | some ⟨.none, d, dt, sl⟩ => (match isFld dt with
    | true => none
    | false => some ⟨.none, d, dt, sl⟩)
  | o => o
theorem dropT_some {g : Addr → Option Obj} {a : Addr} {o : Obj} (h : dropT g a = some o) : g a = some o ∧ (o.cls = .none → isFld o.data = false) := by
  unfold dropT at h
  split at h
  · rename_i d dt sl e
    cases q : isFld dt with
    | true =>
      rw [q] at h
      cases h
    | false =>
      rw [q] at h
      cases h
      exact ⟨e, fun _ => q⟩
  · rename_i nx
    refine ⟨h, fun z => ?_⟩
    obtain ⟨c, d, dt, sl⟩ := o
    have z : c = Value.none := z
    subst z
    exact (nx d dt sl h).elim
def fragT {α : Type} (g : Addr → Option Obj) (n : Nat) (k : PySem.W.Frag → α) : α := rch g n [mainGlobals] (Nat.lor (Nat.shiftLeft 1 mainGlobals) (Nat.shiftLeft 1 cStatics)) [cStatics, mainGlobals] fun as => frcK (He.frG (dropT g) as) k
def fragTA (g : Addr → Option Obj) (n : Nat) : PySem.W.Frag := He.frG (dropT g) (rch g n [mainGlobals] (Nat.lor (Nat.shiftLeft 1 mainGlobals) (Nat.shiftLeft 1 cStatics)) [cStatics, mainGlobals] id)
theorem fragT_eq {α : Type} (g : Addr → Option Obj) (n : Nat) (k : PySem.W.Frag → α) : fragT g n k = k (fragTA g n) := by
  unfold fragT fragTA
  rw [rch_eq, frcK_eq]
theorem fragTA_at {g : Addr → Option Obj} {n : Nat} {a : Addr} {o : Obj} (h : (fragTA g n).lookup a = some o) : g a = some o ∧ (o.cls = .none → isFld o.data = false) := dropT_some (He.frG_at _ h)
/-- an empty table -/
def tabE : Option Obj → Bool
  | some ⟨.none, none, .fields vs, sl⟩ => vs.isEmpty && sl.isEmpty
  | _ => false
theorem tabE_ok {o : Option Obj} (h : tabE o = true) : o = some { cls := .none, data := .fields #[] } := by
  unfold tabE at h
  split at h
  · rename_i vs sl
    obtain ⟨h1, h2⟩ := He.ba h
    have e1 : vs = #[] := Array.isEmpty_iff.mp h1
    have e2 : sl = #[] := Array.isEmpty_iff.mp h2
    rw [e1, e2]
  · cases h
abbrev TabQ : Type := PySem.W.Frag → Addr
def obsTK (g : Addr → Option Obj) (ex : PySem.W.Frag → Bool) (fn : List DefQ) (tbs : List TabQ) (K : PySem.W.Frag) : AlQ := (ex K && (fn.all (fun d => d.ok K) && tbs.all fun t => tabE (g (t K))), fn.map fun d => fnAt K (d.at_ K))
def obsT (n : Nat) (ex : PySem.W.Frag → Bool) (fn : List DefQ) (tbs : List TabQ) (g : Addr → Option Obj) : AlQ := fragT g n (obsTK g ex fn tbs)
structure SaysT (ex : PySem.W.Frag → Bool) (fn : List DefQ) (tbs : List TabQ) (h : Heap) (K : PySem.W.Frag) : Prop where
  kin : K.In h
  says : SaysQ ex fn K
  tab : ∀ t ∈ tbs, h.get? (t K) = some { cls := .none, data := .fields #[] } ∧ K.lookup (t K) = none
theorem saysT_of {n : Nat} {ex : PySem.W.Frag → Bool} {fn : List DefQ} {tbs : List TabQ} {h : Heap} (e : obsT n ex fn tbs h.get? = valQ fn) : SaysT ex fn tbs h (fragTA h.get? n) := by
  unfold obsT at e
  rw [fragT_eq] at e
  have e1 : (ex (fragTA h.get? n) && (fn.all (fun d => d.ok (fragTA h.get? n)) && tbs.all fun t => tabE (h.get? (t (fragTA h.get? n))))) = true := congrArg Prod.fst e
  have e2 : (fn.map fun d => fnAt (fragTA h.get? n) (d.at_ (fragTA h.get? n))) = fn.map DefQ.val := congrArg Prod.snd e
  obtain ⟨h1, h2⟩ := He.ba e1
  obtain ⟨h2, h3⟩ := He.ba h2
  refine ⟨fun a o z => (fragTA_at z).1, ⟨h1, fun d hd => DefQ.fn (map_eq_mem e2 d hd) (List.all_eq_true.mp h2 d hd)⟩, fun t ht => ?_⟩
  have z := tabE_ok (List.all_eq_true.mp h3 t ht)
  refine ⟨z, ?_⟩
  cases q : (fragTA h.get? n).lookup (t (fragTA h.get? n)) with
  | none => rfl
  | some o =>
    obtain ⟨a1, a2⟩ := fragTA_at q
    rw [z] at a1
    cases a1
    exact nomatch (a2 rfl)
def hookT (n : Nat) (ex : PySem.W.Frag → Bool) (fn : List DefQ) (tbs : List TabQ) : PySem.W.Hook where
  α := AlQ
  obs := fun s => obsT n ex fn tbs s.heap.get?
  val := fun _ => valQ fn
  says := fun _ h => ∃ K : PySem.W.Frag, SaysT ex fn tbs h K
  of := fun _ _ e => ⟨_, saysT_of e⟩
  keeps := fun _ _ _ ⟨K, a, b, c⟩ k => ⟨K, PySem.W.Frag.In.keeps a k, b, fun t ht => ⟨k _ _ (c t ht).1, (c t ht).2⟩⟩
theorem obsT_eq {n : Nat} {ex : PySem.W.Frag → Bool} {fn : List DefQ} {tbs : List TabQ} {g : Addr → Option Obj} {s : Shared} (h : ∀ a, g a = s.heap.get? a) : obsT n ex fn tbs g = (hookT n ex fn tbs).obs s := by
  rw [show g = s.heap.get? from funext h]
  rfl
section
open HandSHeadRun PySem.W
variable {E : OsState → Option SharedT} {n : Nat}
def DT (E : OsState → Option SharedT) (n : Nat) (l : List DefQ) : Prop := ∀ os : OsState, (E os).map (fun s => fragT (getT s) n fun K => ((l.all fun d => d.ok K, l.map fun d => fnAt K (d.at_ K)) : AlQ)) = some (true, l.map DefQ.val)
theorem DT.at_ {l : List DefQ} (h : DT E n l) {os : OsState} {s : SharedT} (e : E os = some s) : (l.all fun d => d.ok (fragTA (getT s) n)) = true ∧ (l.map fun d => fnAt (fragTA (getT s) n) (d.at_ (fragTA (getT s) n))) = l.map DefQ.val := by
  have := map_at (h os) e
  rw [fragT_eq] at this
  exact ⟨congrArg Prod.fst this, congrArg Prod.snd this⟩
theorem run_ofT {r : OpenRow} {q : Program} {n M : Nat} {loose : List PySem.Str} {w : World} {fx : List (PySem.W.Frag → Bool)} {fn : List DefQ} {tbs : List TabQ}
    (h1 : ∀ os : OsState, (endF (stepQ (denQ tabQ) r.prog w) M r.prog w os).map (fun s => (looksF r.prog (boot_heap w.params) s.abs, seenQ q loose (importedModules r.prog.main.body) (fun s => xlAt q [] s && recOk r.toRowW.records s) s.abs, fragT (getT s) n fun K => (fx.all fun b => b K) && tbs.all fun t => tabE (getT s (t K)))) = some (true, openGood q loose, true))
    (h4 : DT (endF (stepQ (denQ tabQ) r.prog w) M r.prog w) n fn) :
    RunEq r q (hookT n (fun K => fx.all fun b => b K) fn tbs) (fun s => obsT n (fun K => fx.all fun b => b K) fn tbs (getT s)) M loose w := fun os => by
  obtain ⟨s, e, a0⟩ := Option.map_eq_some_iff.mp (h1 os)
  obtain ⟨a1, a2, a3⟩ : _ ∧ _ ∧ _ := by simpa only [Prod.mk.injEq] using a0
  rw [fragT_eq] at a3
  obtain ⟨a3, a6⟩ := He.ba a3
  have a4 := h4.at_ e
  rw [e]
  show some (_, _, obsT n (fun K => fx.all fun b => b K) fn tbs (getT s)) = some (_, _, valQ fn)
  have a5 : obsT n (fun K => fx.all fun b => b K) fn tbs (getT s) = valQ fn := by
    unfold obsT
    rw [fragT_eq]
    show ((fx.all fun b => b (fragTA (getT s) n)) && ((fn.all fun d => d.ok (fragTA (getT s) n)) && tbs.all fun t => tabE (getT s (t (fragTA (getT s) n)))), fn.map fun d => fnAt (fragTA (getT s) n) (d.at_ (fragTA (getT s) n))) = _
    rw [a3, a4.1, a4.2, a6]
    rfl
  rw [a1, a2, a5]
end
/-- the code object of a function, its table -/
def codeAd (K : PySem.W.Frag) (f : Addr) : Addr := match K.lookup f with
  | some ⟨_, _, .func fd, _⟩ => (match fd.code with
    | .ref c => c
    | _ => 0)
  | _ => 0
def tabAd (K : PySem.W.Frag) (c : Addr) : Addr := match K.lookup c with
  | some ⟨_, _, .fields vs, _⟩ => (match (vs[11]? : Option Value) with
    | some (.ref P) => P
    | _ => 0)
  | _ => 0
/-- the function behind a staticmethod -/
def smAd (K : PySem.W.Frag) (C : Addr) (m : Str) : Addr := match PySem.W.findCls K (.ref C) (.type "type") m with
  | some (.get _ (.ref p) _ _) => p
  | _ => 0
def sfAd (K : PySem.W.Frag) (C : Addr) (m : Str) : Addr := match PySem.W.recIn K (smAd K C m) "staticmethod" with
  | some (.ref f :: _) => f
  | _ => 0
def smB (C m : Str) (K : PySem.W.Frag) : Bool := (match PySem.W.findCls K (.ref (ga K C)) (.type "type") m with
  | some (.get g p a b) => decide (g = .builtin "staticmethod.__get__") && (decide (p = .ref (smAd K (ga K C) m)) && (decide (a = .none) && decide (b = .ref (ga K C))))
  | _ => false) && (match PySem.W.recIn K (smAd K (ga K C) m) "staticmethod" with
  | some (f :: _) => decide (f = .ref (sfAd K (ga K C) m))
  | _ => false)
theorem smB_ok {C m : Str} {K : PySem.W.Frag} (h : smB C m K = true) : PySem.W.findCls K (.ref (ga K C)) (.type "type") m = some (.get (.builtin "staticmethod.__get__") (.ref (smAd K (ga K C) m)) .none (.ref (ga K C))) ∧ ∃ rs, PySem.W.recIn K (smAd K (ga K C) m) "staticmethod" = some (.ref (sfAd K (ga K C) m) :: rs) := by
  obtain ⟨h1, h2⟩ := ba h
  constructor
  · generalize smAd K (ga K C) m = q at *
    split at h1
    · rename_i e
      obtain ⟨a1, h1⟩ := ba h1
      obtain ⟨a2, h1⟩ := ba h1
      obtain ⟨a3, a4⟩ := ba h1
      rw [e, of_decide_eq_true a1, of_decide_eq_true a2, of_decide_eq_true a3, of_decide_eq_true a4]
    · cases h1
  · generalize sfAd K (ga K C) m = q at *
    split at h2
    · rename_i f r e
      rw [e, of_decide_eq_true h2]
      exact ⟨r, rfl⟩
    · cases h2
/-- a class of errors over ValueError, as its object stands -/
def oexB (x : Str) (K : PySem.W.Frag) : Bool := (match K.lookup (ga K x) with
  | some ⟨cv, _, .cls d, slots⟩ => decide (cv = .type "type") && ((match d.mro with
    | b :: bm => decide (b = .ref (ga K x)) && PySem.HandSPX.refsVE bm
    | [] => false) && (!d.hasDel && (d.hasDict && match slots.toList with
    | [_, _, _, _, some v, _] => decide (v = .builtin "ValueError.__new__")
    | _ => false)))
  | _ => false)
end G
namespace G
open PySem PySem.Spec PySem.Calls PyProof.Rows L2 He
def tysB : List String := ["NoneType", "bool", "int", "str", "list", "tuple", "dict"]
end G


namespace G
open PySem PySem.Spec PyProof.Rows L2
def cellAd (K : PySem.W.Frag) (f : Addr) : Addr := match K.lookup f with
  | some ⟨_, _, .func fd, _⟩ => (match fd.closure with
    | (_, c) :: _ => c
    | _ => 0)
  | _ => 0
def cellB (K : PySem.W.Frag) (f D : Addr) : Bool := match K.lookup (cellAd K f) with
  | some ⟨_, _, .cell (some (.ref d)), _⟩ => Nat.beq d D
  | _ => false
def codeFB (K : PySem.W.Frag) (f : Addr) (file : Str) : Bool := match K.lookup (codeAd K f) with
  | some ⟨_, _, .fields vs, _⟩ => (match (vs[2]? : Option Value) with
    | some (.str z _) => z == file
    | _ => false)
  | _ => false
end G


namespace G
open PySem PySem.Spec PySem.Calls PyProof.Rows L2 He
def stN : Nat → Str
  | 0 => "Let" | 1 => "Copy" | 2 => "Up" | 3 => "Down" | 4 => "Apart" | 5 => "Reverse" | 6 => "Swap" | 7 => "Fill" | _ => "Resize"
def stW : Nat → Str
  | 0 => "let" | 1 => "copy" | 2 => "up" | 3 => "down" | 4 => "apart" | 5 => "reverse" | 6 => "swap" | 7 => "fill" | _ => "resize"
/-- the arguments' names -/
def stF : Nat → List Str
  | 0 => ["field", "form"]
  | 5 => ["array", "start", "amount"]
  | 6 => ["first", "at", "second", "start", "amount"]
  | 7 => ["array", "start", "amount", "letter"]
  | 8 => ["array", "length"]
  | _ => ["target", "to", "source", "start", "amount"]
def stA (K : PySem.W.Frag) (i : Nat) : Addr := He.ga K (stN i)
def stmA (K : PySem.W.Frag) (i : Nat) : Bool :=
  PySem.W.plainGet K (stA K i) Str.empty && (PySem.W.hasDictIn K (stA K i) && (PySem.W.plainOver K (stA K i) &&
  (decide (PySem.W.findIn K (.ref (stA K i)) "__setattr__" = some (some (.builtin "object.__setattr__"))) && (PySem.W.selfFirst K (stA K i) &&
  (decide (PySem.W.findIn K (.ref (stA K i)) "__format__" = some (some (.builtin "object.__format__"))) && (decide (PySem.W.mroIn K (stA K i) (.type "object") = some true) &&
  (((stF i ++ [Str.ofString "lines"]).all fun f => decide (PySem.W.findIn K (.ref (stA K i)) f = some none)) &&
  (decide (PySem.W.findIn K (.ref (stA K i)) "__class__" = some (some (.builtin "object.__class__"))) && (decide (PySem.W.kitOne K (.ref (stA K i)) (.ref (He.ga K "Statement")) = some true) &&
  (decide (PySem.W.kitOne K (.ref (stA K i)) (.ref (He.ga K "If")) = some false) && (He.conB K (stN i) "WORD" (.str (stW i)) &&
  decide (PySem.W.findIn K (.ref (stA K i)) "__ne__" = some (some (.builtin "object.__ne__"))))))))))))))
def stmB (K : PySem.W.Frag) (i j : Nat) : Bool :=
  (PySem.W.notFirst K (stA K i) (.ref (stA K j)) || (decide (stA K j ≠ stA K i) && decide (PySem.W.subIn K (.ref (stA K j)) (.ref (stA K i)) = some true))) && decide (PySem.W.kitOne K (.ref (stA K i)) (.ref (stA K j)) = some (decide (i = j ∨ (j = 1 ∧ 2 ≤ i ∧ i ≤ 4))))
def stmL (K : PySem.W.Frag) : Bool :=
  PySem.W.isClsIn K (He.ga K "Statement") && (decide (PySem.W.typeIn K (.ref (He.ga K "Statement")) = some (.type "type")) &&
  ((tysB.all fun T => decide (PySem.W.subIn K (.type T) (.ref (He.ga K "Statement")) = some false)) &&
  (List.range 9).all fun i => stmA K i && (List.range 9).all fun j => stmB K i j))
end G


namespace K19
open PySem L2 G
def topS (i : Nat) : Stmt := PySem.Challenge.pw_blockmoves_k19_statements_made.main.body.getD i (.Pass ⟨0, 0, 0, 0⟩)
abbrev s__law_cell : Stmt := topS 62
abbrev s__law_purse : Stmt := topS 63
abbrev s_Form__repr_ : Stmt := inClass (topS 24) 10
abbrev s_is_integer : Stmt := topS 19
abbrev s_is_name : Stmt := topS 20
abbrev s_is_symbol : Stmt := topS 21
abbrev s_text_of : Stmt := topS 30
abbrev s_Form__init_ : Stmt := inClass (topS 24) 0
abbrev s_term_of : Stmt := topS 32
abbrev s_form_of : Stmt := topS 31
abbrev s_Form_read : Stmt := inClass (topS 24) 1
abbrev s_Statement__eq_ : Stmt := inClass (topS 47) 2
abbrev s__law_arguments : Stmt := topS 76
abbrev s__law_arguments_due : Stmt := topS 77
abbrev s_Form__str_ : Stmt := inClass (topS 24) 9
abbrev s_Statement__init_ : Stmt := inClass (topS 47) 1
abbrev s_check_form : Stmt := topS 26
abbrev s_check_name : Stmt := topS 25
abbrev s_Copy__init_ : Stmt := inClass (topS 49) 1
abbrev s_Fill__init_ : Stmt := inClass (topS 55) 1
abbrev s_Let__init_ : Stmt := inClass (topS 48) 1
abbrev s_Resize__init_ : Stmt := inClass (topS 56) 1
abbrev s_Reverse__init_ : Stmt := inClass (topS 53) 1
abbrev s_Swap__init_ : Stmt := inClass (topS 54) 1
abbrev s__law_by_name : Stmt := topS 73
abbrev s__law_by_place : Stmt := topS 72
abbrev s__law_due : Stmt := topS 74
abbrev s__law_small : Stmt := topS 71
abbrev s__law_take : Stmt := topS 64
abbrev s__law_total : Stmt := topS 68
abbrev s__law_form : Stmt := topS 70
abbrev s__law_name : Stmt := topS 65
abbrev s__law_other_name : Stmt := topS 66
abbrev s__law_names : Stmt := topS 67
abbrev s_Statement__repr_ : Stmt := inClass (topS 47) 4
abbrev s_Statement__str_ : Stmt := inClass (topS 47) 3
abbrev s__law_sorts : Stmt := topS 75
abbrev s__law_one_right : Stmt := topS 78
abbrev s__law_say : Stmt := topS 69
abbrev s__law_unlike : Stmt := topS 79
abbrev s__law_right : Stmt := topS 80
abbrev s_law : Stmt := topS 81
abbrev N__law_cell : List Str := ["_law_script", "_law_k", "_law_found", "_law_number"]
abbrev N__law_purse : List Str := ["_law_number"]
abbrev N_Form__repr_ : List Str := ["self"]
abbrev N_is_integer : List Str := ["value"]
abbrev N_is_name : List Str := ["value", "sign"]
abbrev N_is_symbol : List Str := ["value"]
abbrev N_text_of : List Str := ["terms", "words", "symbol", "factor", "word"]
abbrev N_Form__init_ : List Str := ["own_form", "factors", "symbol", "factor"]
abbrev N_term_of : List Str := ["part", "sign", "rest", "number", "star", "symbol", "digit"]
abbrev N_form_of : List Str := ["text", "factors", "part", "term", "form"]
abbrev N_Form_read : List Str := ["text", "form"]
abbrev N_Statement__eq_ : List Str := ["self", "other"]
abbrev N__law_arguments : List Str := ["_law_made", "_law_spot"]
abbrev N__law_arguments_due : List Str := ["_law_tags", "_law_some", "_law_code", "_law_spot", "_law_one", "_law_two", "_law_eff", "_law_gee", "_law_aitch"]
abbrev N_Form__str_ : List Str := ["self"]
abbrev N_Statement__init_ : List Str := ["self", "lines"]
abbrev N_check_form : List Str := ["value"]
abbrev N_check_name : List Str := ["value"]
abbrev N_Copy__init_ : List Str := ["self", "target", "to", "source", "start", "amount", "__class__"]
abbrev N_Fill__init_ : List Str := ["self", "array", "start", "amount", "letter", "__class__"]
abbrev N_Let__init_ : List Str := ["self", "field", "form", "__class__"]
abbrev N_Resize__init_ : List Str := ["self", "array", "length", "__class__"]
abbrev N_Reverse__init_ : List Str := ["self", "array", "start", "amount", "__class__"]
abbrev N_Swap__init_ : List Str := ["self", "first", "at", "second", "start", "amount", "__class__"]
abbrev N__law_by_name : List Str := ["_law_tags", "_law_some", "_law_code", "_law_one", "_law_two", "_law_eff", "_law_gee", "_law_aitch", "_law_found"]
abbrev N__law_by_place : List Str := ["_law_tags", "_law_some", "_law_code", "_law_one", "_law_two", "_law_eff", "_law_gee", "_law_aitch", "_law_found"]
abbrev N__law_due : List Str := ["_law_tags", "_law_said", "_law_code", "_law_one", "_law_two", "_law_eff", "_law_gee", "_law_aitch", "_law_back", "_law_found", "_law_last", "_law_word"]
abbrev N__law_small : List Str := ["_law_terms", "_law_symbol", "_law_number"]
abbrev N__law_take : List Str := ["_law_purse_here", "_law_many", "_law_more", "_law_seed", "_law_digit"]
abbrev N__law_total : List Str := ["_law_pairs", "_law_found", "_law_symbol", "_law_number"]
abbrev N__law_form : List Str := ["_law_purse_here", "_law_symbols", "_law_found", "_law_turn", "_law_number"]
abbrev N__law_name : List Str := ["_law_purse_here", "_law_letters", "_law_signs", "_law_found", "_law_turn"]
abbrev N__law_other_name : List Str := ["_law_purse_here", "_law_taken", "_law_found", "_law_others", "_law_k", "_law_each"]
abbrev N__law_names : List Str := ["_law_purse_here", "_law_many", "_law_way", "_law_turn", "_law_known", "_law_words", "_law_found", "_law_k"]
abbrev N_Statement__repr_ : List Str := ["self"]
abbrev N_Statement__str_ : List Str := ["self"]
abbrev N__law_sorts : List Str := ["_law_made", "_law_found"]
abbrev N__law_one_right : List Str := ["_law_made", "_law_line", "_law_spot", "_law_word", "_law_due_here", "_law_k"]
abbrev N__law_say : List Str := ["_law_terms", "_law_line", "_law_symbol", "_law_number", "_law_word"]
abbrev N__law_unlike : List Str := ["_law_made", "_law_line", "_law_other"]
abbrev N__law_right : List Str := ["_law_purse_here", "_law_tags", "_law_symbols", "_law_terms", "_law_code", "_law_said", "_law_some", "_law_again", "_law_made", "_law_twins", "_law_due_here", "_law_spot", "_law_k", "_law_told", "_law_turn", "_law_each", "_law_line"]
abbrev N_law : List Str := ["_law_script", "_law_k"]
def fx0 : List (PySem.W.Frag → Bool) := [fun K => (He.Fa.glo "Form").ok K,
  fun K => PySem.W.plainGet K (He.ga K "Form") Str.empty,
  fun K => PySem.W.hasDictIn K (He.ga K "Form"),
  fun K => PySem.W.plainOver K (He.ga K "Form"),
  fun K => decide (PySem.W.findIn K (.ref (He.ga K "Form")) "__setattr__" = some (some (.builtin "object.__setattr__"))),
  fun K => PySem.W.makesIn K (He.ga K "Form"),
  fun K => PySem.W.keepIn K (.ref (He.ga K "Form")),
  fun K => decide (PySem.W.findIn K (.ref (He.ga K "Form")) "terms" = some none),
  fun K => decide (PySem.W.findIn K (.ref (He.ga K "Form")) "symbols" = some none),
  fun K => decide (PySem.W.findIn K (.ref (He.ga K "Form")) "text" = some none),
  fun K => PySem.W.selfFirst K (He.ga K "Form"),
  fun K => decide (PySem.W.findIn K (.ref (He.ga K "Form")) "__class__" = some (some (.builtin "object.__class__"))),
  fun K => decide (PySem.W.specialIn K (.builtin "object.__class__") "__get__" = some (some (.builtin "getset_descriptor.__get__"))),
  fun K => decide (PySem.W.takesIn K (.builtin "object.__class__") = some true),
  fun K => decide (PySem.W.mroIn K (He.ga K "Form") (.type "object") = some true),
  fun K => decide (PySem.W.findIn K (.ref (He.ga K "Form")) (PySem.dunderR Operator.Mult.info.2) = some none),
  fun K => (PySem.W.findIn K (.type "int") (PySem.dunder Operator.Mult.info.2)).isSome,
  fun K => (PySem.W.findIn K (.type "int") (PySem.dunderR Operator.Mult.info.2)).isSome,
  fun K => decide (PySem.W.subIn K (.type "int") (.ref (He.ga K "Form")) = some false),
  fun K => PySem.W.readsIn K (He.ga K "Form") (.type "type"),
  fun K => decide (PySem.W.specialIn K (.ref (He.ga K "Form")) "__getattribute__" = some (some (.builtin "type.__getattribute__"))),
  fun K => (He.Fa.glo "Statement").ok K,
  fun K => (He.Fa.glo "If").ok K,
  fun K => (He.Fa.glo "Let").ok K,
  fun K => (He.Fa.glo "Copy").ok K,
  fun K => (He.Fa.glo "Up").ok K,
  fun K => (He.Fa.glo "Down").ok K,
  fun K => (He.Fa.glo "Apart").ok K,
  fun K => (He.Fa.glo "Reverse").ok K,
  fun K => (He.Fa.glo "Swap").ok K,
  fun K => (He.Fa.glo "Fill").ok K,
  fun K => (He.Fa.glo "Resize").ok K,
  fun K => (He.Fa.free "super").ok K,
  fun K => decide (PySem.W.nsIn K PySem.cStatics "thirdparty.any" = some none),
  fun K => decide (PySem.W.findIn K (.ref (He.ga K "Form")) "__format__" = some (some (.builtin "object.__format__"))),
  stmL,
  fun K => PySem.W.makesIn K (He.ga K "Let"),
  fun K => PySem.W.keepIn K (.ref (He.ga K "Let")),
  fun K => decide (PySem.W.findIn K (.ref (He.ga K "Let")) "__init__" = some (some (.ref (He.ma K (He.ga K "Let") "__init__")))),
  fun K => decide (PySem.W.mroIn K (He.ga K "Let") (.ref (He.ga K "Let")) = some true),
  fun K => decide (PySem.W.ks_superIn K (He.ga K "Let") (He.ga K "Let") "__init__" = some (some (.ref (He.ma K (He.ga K "Statement") "__init__")))),
  fun K => PySem.W.isFn K (.ref (He.ma K (He.ga K "Let") "__init__")),
  fun K => cellB K (He.ma K (He.ga K "Let") "__init__") (He.ga K "Let"),
  fun K => codeFB K (He.ma K (He.ga K "Let") "__init__") "/claim/cut.py",
  fun K => (PySem.W.clsIn K (He.ga K "Let")).isSome,
  fun K => PySem.W.makesIn K (He.ga K "Copy"),
  fun K => PySem.W.keepIn K (.ref (He.ga K "Copy")),
  fun K => decide (PySem.W.findIn K (.ref (He.ga K "Copy")) "__init__" = some (some (.ref (He.ma K (He.ga K "Copy") "__init__")))),
  fun K => decide (PySem.W.mroIn K (He.ga K "Copy") (.ref (He.ga K "Copy")) = some true),
  fun K => decide (PySem.W.ks_superIn K (He.ga K "Copy") (He.ga K "Copy") "__init__" = some (some (.ref (He.ma K (He.ga K "Statement") "__init__")))),
  fun K => PySem.W.isFn K (.ref (He.ma K (He.ga K "Copy") "__init__")),
  fun K => cellB K (He.ma K (He.ga K "Copy") "__init__") (He.ga K "Copy"),
  fun K => codeFB K (He.ma K (He.ga K "Copy") "__init__") "/claim/cut.py",
  fun K => (PySem.W.clsIn K (He.ga K "Copy")).isSome,
  fun K => PySem.W.makesIn K (He.ga K "Up"),
  fun K => PySem.W.keepIn K (.ref (He.ga K "Up")),
  fun K => decide (PySem.W.findIn K (.ref (He.ga K "Up")) "__init__" = some (some (.ref (He.ma K (He.ga K "Copy") "__init__")))),
  fun K => decide (PySem.W.mroIn K (He.ga K "Up") (.ref (He.ga K "Copy")) = some true),
  fun K => decide (PySem.W.ks_superIn K (He.ga K "Up") (He.ga K "Copy") "__init__" = some (some (.ref (He.ma K (He.ga K "Statement") "__init__")))),
  fun K => PySem.W.makesIn K (He.ga K "Down")]
def fx1 : List (PySem.W.Frag → Bool) := [fun K => PySem.W.keepIn K (.ref (He.ga K "Down")),
  fun K => decide (PySem.W.findIn K (.ref (He.ga K "Down")) "__init__" = some (some (.ref (He.ma K (He.ga K "Copy") "__init__")))),
  fun K => decide (PySem.W.mroIn K (He.ga K "Down") (.ref (He.ga K "Copy")) = some true),
  fun K => decide (PySem.W.ks_superIn K (He.ga K "Down") (He.ga K "Copy") "__init__" = some (some (.ref (He.ma K (He.ga K "Statement") "__init__")))),
  fun K => PySem.W.makesIn K (He.ga K "Apart"),
  fun K => PySem.W.keepIn K (.ref (He.ga K "Apart")),
  fun K => decide (PySem.W.findIn K (.ref (He.ga K "Apart")) "__init__" = some (some (.ref (He.ma K (He.ga K "Copy") "__init__")))),
  fun K => decide (PySem.W.mroIn K (He.ga K "Apart") (.ref (He.ga K "Copy")) = some true),
  fun K => decide (PySem.W.ks_superIn K (He.ga K "Apart") (He.ga K "Copy") "__init__" = some (some (.ref (He.ma K (He.ga K "Statement") "__init__")))),
  fun K => PySem.W.makesIn K (He.ga K "Reverse"),
  fun K => PySem.W.keepIn K (.ref (He.ga K "Reverse")),
  fun K => decide (PySem.W.findIn K (.ref (He.ga K "Reverse")) "__init__" = some (some (.ref (He.ma K (He.ga K "Reverse") "__init__")))),
  fun K => decide (PySem.W.mroIn K (He.ga K "Reverse") (.ref (He.ga K "Reverse")) = some true),
  fun K => decide (PySem.W.ks_superIn K (He.ga K "Reverse") (He.ga K "Reverse") "__init__" = some (some (.ref (He.ma K (He.ga K "Statement") "__init__")))),
  fun K => PySem.W.isFn K (.ref (He.ma K (He.ga K "Reverse") "__init__")),
  fun K => cellB K (He.ma K (He.ga K "Reverse") "__init__") (He.ga K "Reverse"),
  fun K => codeFB K (He.ma K (He.ga K "Reverse") "__init__") "/claim/cut.py",
  fun K => (PySem.W.clsIn K (He.ga K "Reverse")).isSome,
  fun K => PySem.W.makesIn K (He.ga K "Swap"),
  fun K => PySem.W.keepIn K (.ref (He.ga K "Swap")),
  fun K => decide (PySem.W.findIn K (.ref (He.ga K "Swap")) "__init__" = some (some (.ref (He.ma K (He.ga K "Swap") "__init__")))),
  fun K => decide (PySem.W.mroIn K (He.ga K "Swap") (.ref (He.ga K "Swap")) = some true),
  fun K => decide (PySem.W.ks_superIn K (He.ga K "Swap") (He.ga K "Swap") "__init__" = some (some (.ref (He.ma K (He.ga K "Statement") "__init__")))),
  fun K => PySem.W.isFn K (.ref (He.ma K (He.ga K "Swap") "__init__")),
  fun K => cellB K (He.ma K (He.ga K "Swap") "__init__") (He.ga K "Swap"),
  fun K => codeFB K (He.ma K (He.ga K "Swap") "__init__") "/claim/cut.py",
  fun K => (PySem.W.clsIn K (He.ga K "Swap")).isSome,
  fun K => PySem.W.makesIn K (He.ga K "Fill"),
  fun K => PySem.W.keepIn K (.ref (He.ga K "Fill")),
  fun K => decide (PySem.W.findIn K (.ref (He.ga K "Fill")) "__init__" = some (some (.ref (He.ma K (He.ga K "Fill") "__init__")))),
  fun K => decide (PySem.W.mroIn K (He.ga K "Fill") (.ref (He.ga K "Fill")) = some true),
  fun K => decide (PySem.W.ks_superIn K (He.ga K "Fill") (He.ga K "Fill") "__init__" = some (some (.ref (He.ma K (He.ga K "Statement") "__init__")))),
  fun K => PySem.W.isFn K (.ref (He.ma K (He.ga K "Fill") "__init__")),
  fun K => cellB K (He.ma K (He.ga K "Fill") "__init__") (He.ga K "Fill"),
  fun K => codeFB K (He.ma K (He.ga K "Fill") "__init__") "/claim/cut.py",
  fun K => (PySem.W.clsIn K (He.ga K "Fill")).isSome,
  fun K => PySem.W.makesIn K (He.ga K "Resize"),
  fun K => PySem.W.keepIn K (.ref (He.ga K "Resize")),
  fun K => decide (PySem.W.findIn K (.ref (He.ga K "Resize")) "__init__" = some (some (.ref (He.ma K (He.ga K "Resize") "__init__")))),
  fun K => decide (PySem.W.mroIn K (He.ga K "Resize") (.ref (He.ga K "Resize")) = some true),
  fun K => decide (PySem.W.ks_superIn K (He.ga K "Resize") (He.ga K "Resize") "__init__" = some (some (.ref (He.ma K (He.ga K "Statement") "__init__")))),
  fun K => PySem.W.isFn K (.ref (He.ma K (He.ga K "Resize") "__init__")),
  fun K => cellB K (He.ma K (He.ga K "Resize") "__init__") (He.ga K "Resize"),
  fun K => codeFB K (He.ma K (He.ga K "Resize") "__init__") "/claim/cut.py",
  fun K => (PySem.W.clsIn K (He.ga K "Resize")).isSome,
  fun K => (He.Fa.glo "_law_cell").ok K,
  fun K => (He.Fa.glo "_law_purse").ok K,
  fun K => decide (PySem.W.findIn K (.ref (He.ga K "Form")) "__repr__" = some (some (.ref (He.ma K (He.ga K "Form") "__repr__")))),
  fun K => PySem.W.isFn K (.ref (He.ma K (He.ga K "Form") "__repr__")),
  fun K => (He.Fa.glo "is_integer").ok K,
  fun K => (He.Fa.glo "is_name").ok K,
  fun K => (He.Fa.glo "is_symbol").ok K,
  fun K => (He.Fa.glo "text_of").ok K,
  fun K => decide (PySem.W.findIn K (.ref (He.ga K "Form")) "__init__" = some (some (.ref (He.ma K (He.ga K "Form") "__init__")))),
  fun K => PySem.W.isFn K (.ref (He.ma K (He.ga K "Form") "__init__")),
  fun K => (He.Fa.glo "term_of").ok K,
  fun K => (He.Fa.glo "form_of").ok K,
  smB "Form" "read",
  fun K => PySem.W.isFn K (.ref (He.ma K (He.ga K "Statement") "__eq__")),
  fun K => decide (PySem.W.findIn K (.ref (He.ga K "Let")) "__eq__" = some (some (.ref (He.ma K (He.ga K "Statement") "__eq__"))))]
def fx2 : List (PySem.W.Frag → Bool) := [fun K => decide (PySem.W.findIn K (.ref (He.ga K "Copy")) "__eq__" = some (some (.ref (He.ma K (He.ga K "Statement") "__eq__")))),
  fun K => decide (PySem.W.findIn K (.ref (He.ga K "Up")) "__eq__" = some (some (.ref (He.ma K (He.ga K "Statement") "__eq__")))),
  fun K => decide (PySem.W.findIn K (.ref (He.ga K "Down")) "__eq__" = some (some (.ref (He.ma K (He.ga K "Statement") "__eq__")))),
  fun K => decide (PySem.W.findIn K (.ref (He.ga K "Apart")) "__eq__" = some (some (.ref (He.ma K (He.ga K "Statement") "__eq__")))),
  fun K => decide (PySem.W.findIn K (.ref (He.ga K "Reverse")) "__eq__" = some (some (.ref (He.ma K (He.ga K "Statement") "__eq__")))),
  fun K => decide (PySem.W.findIn K (.ref (He.ga K "Swap")) "__eq__" = some (some (.ref (He.ma K (He.ga K "Statement") "__eq__")))),
  fun K => decide (PySem.W.findIn K (.ref (He.ga K "Fill")) "__eq__" = some (some (.ref (He.ma K (He.ga K "Statement") "__eq__")))),
  fun K => decide (PySem.W.findIn K (.ref (He.ga K "Resize")) "__eq__" = some (some (.ref (He.ma K (He.ga K "Statement") "__eq__")))),
  fun K => (He.Fa.glo "_law_arguments").ok K,
  fun K => (He.Fa.glo "_law_arguments_due").ok K,
  fun K => decide (PySem.W.findIn K (.ref (He.ga K "Form")) "__str__" = some (some (.ref (He.ma K (He.ga K "Form") "__str__")))),
  fun K => PySem.W.isFn K (.ref (He.ma K (He.ga K "Form") "__str__")),
  fun K => decide (PySem.W.findIn K (.ref (He.ga K "Statement")) "__init__" = some (some (.ref (He.ma K (He.ga K "Statement") "__init__")))),
  fun K => PySem.W.isFn K (.ref (He.ma K (He.ga K "Statement") "__init__")),
  fun K => PySem.W.fnIn K (He.ma K (He.ga K "Statement") "__init__"),
  fun K => decide (PySem.W.typeIn K (.ref (He.ma K (He.ga K "Statement") "__init__")) = some (.type "function")),
  fun K => (He.Fa.glo "check_form").ok K,
  fun K => (He.Fa.glo "check_name").ok K,
  fun K => (He.Fa.glo "_law_by_name").ok K,
  fun K => (He.Fa.glo "_law_by_place").ok K,
  fun K => (He.Fa.glo "_law_due").ok K,
  fun K => (He.Fa.glo "_law_small").ok K,
  fun K => (He.Fa.glo "_law_take").ok K,
  fun K => (He.Fa.glo "_law_total").ok K,
  fun K => (He.Fa.glo "_law_form").ok K,
  fun K => (He.Fa.glo "_law_name").ok K,
  fun K => (He.Fa.glo "_law_other_name").ok K,
  fun K => (He.Fa.glo "_law_names").ok K,
  fun K => PySem.W.isFn K (.ref (He.ma K (He.ga K "Statement") "__repr__")),
  fun K => decide (PySem.W.findIn K (.ref (He.ga K "Let")) "__repr__" = some (some (.ref (He.ma K (He.ga K "Statement") "__repr__")))),
  fun K => decide (PySem.W.findIn K (.ref (He.ga K "Copy")) "__repr__" = some (some (.ref (He.ma K (He.ga K "Statement") "__repr__")))),
  fun K => decide (PySem.W.findIn K (.ref (He.ga K "Up")) "__repr__" = some (some (.ref (He.ma K (He.ga K "Statement") "__repr__")))),
  fun K => decide (PySem.W.findIn K (.ref (He.ga K "Down")) "__repr__" = some (some (.ref (He.ma K (He.ga K "Statement") "__repr__")))),
  fun K => decide (PySem.W.findIn K (.ref (He.ga K "Apart")) "__repr__" = some (some (.ref (He.ma K (He.ga K "Statement") "__repr__")))),
  fun K => decide (PySem.W.findIn K (.ref (He.ga K "Reverse")) "__repr__" = some (some (.ref (He.ma K (He.ga K "Statement") "__repr__")))),
  fun K => decide (PySem.W.findIn K (.ref (He.ga K "Swap")) "__repr__" = some (some (.ref (He.ma K (He.ga K "Statement") "__repr__")))),
  fun K => decide (PySem.W.findIn K (.ref (He.ga K "Fill")) "__repr__" = some (some (.ref (He.ma K (He.ga K "Statement") "__repr__")))),
  fun K => decide (PySem.W.findIn K (.ref (He.ga K "Resize")) "__repr__" = some (some (.ref (He.ma K (He.ga K "Statement") "__repr__")))),
  fun K => PySem.W.isFn K (.ref (He.ma K (He.ga K "Statement") "__str__")),
  fun K => decide (PySem.W.findIn K (.ref (He.ga K "Let")) "__str__" = some (some (.ref (He.ma K (He.ga K "Statement") "__str__")))),
  fun K => decide (PySem.W.findIn K (.ref (He.ga K "Copy")) "__str__" = some (some (.ref (He.ma K (He.ga K "Statement") "__str__")))),
  fun K => decide (PySem.W.findIn K (.ref (He.ga K "Up")) "__str__" = some (some (.ref (He.ma K (He.ga K "Statement") "__str__")))),
  fun K => decide (PySem.W.findIn K (.ref (He.ga K "Down")) "__str__" = some (some (.ref (He.ma K (He.ga K "Statement") "__str__")))),
  fun K => decide (PySem.W.findIn K (.ref (He.ga K "Apart")) "__str__" = some (some (.ref (He.ma K (He.ga K "Statement") "__str__")))),
  fun K => decide (PySem.W.findIn K (.ref (He.ga K "Reverse")) "__str__" = some (some (.ref (He.ma K (He.ga K "Statement") "__str__")))),
  fun K => decide (PySem.W.findIn K (.ref (He.ga K "Swap")) "__str__" = some (some (.ref (He.ma K (He.ga K "Statement") "__str__")))),
  fun K => decide (PySem.W.findIn K (.ref (He.ga K "Fill")) "__str__" = some (some (.ref (He.ma K (He.ga K "Statement") "__str__")))),
  fun K => decide (PySem.W.findIn K (.ref (He.ga K "Resize")) "__str__" = some (some (.ref (He.ma K (He.ga K "Statement") "__str__")))),
  fun K => (He.Fa.glo "_law_sorts").ok K,
  fun K => (He.Fa.glo "_law_one_right").ok K,
  fun K => (He.Fa.glo "_law_say").ok K,
  fun K => (He.Fa.glo "_law_unlike").ok K,
  fun K => (He.Fa.glo "_law_right").ok K,
  fun K => (He.Fa.glo "law").ok K,
  fun K => (He.Fa.free "len").ok K,
  fun K => (He.Fa.free "isinstance").ok K,
  fun K => (He.Fa.free "str").ok K,
  fun K => (He.Fa.free "int").ok K,
  fun K => (He.Fa.free "tuple").ok K,
  fun K => (He.Fa.free "bool").ok K]
def fx3 : List (PySem.W.Frag → Bool) := [fun K => (He.Fa.free "dict").ok K,
  fun K => (He.Fa.free "range").ok K,
  fun K => (He.Fa.free "all").ok K,
  fun K => (He.Fa.free "any").ok K,
  fun K => (He.Fa.free "sorted").ok K,
  fun K => (He.Fa.free "abs").ok K,
  fun K => (He.Fa.free "max").ok K,
  fun K => (He.Fa.free "min").ok K,
  fun K => (He.Fa.free "sum").ok K,
  fun K => (He.Fa.free "repr").ok K,
  fun K => (He.Fa.free "enumerate").ok K,
  fun K => (He.Fa.free "set").ok K,
  fun K => (He.Fa.free "divmod").ok K,
  fun K => (He.Fa.str "LETTERS" "abcdefghijklmnopqrstuvwxyz").ok K,
  fun K => (He.Fa.str "DIGITS" "0123456789").ok K,
  fun K => (He.Fa.int "MAX_LENGTH" 8).ok K,
  fun K => (He.Fa.str "CELL" "@").ok K,
  fun K => (He.Fa.str "VIEW" "view").ok K,
  fun K => (He.Fa.int "MAX_PARTS" 12).ok K,
  fun K => (He.Fa.int "MAX_DEPTH" 4).ok K,
  fun K => (He.Fa.int "MAX_IFS" 4).ok K]
def fxs : List (PySem.W.Frag → Bool) := fx0 ++ (fx1 ++ (fx2 ++ (fx3)))
def ex (K : PySem.W.Frag) : Bool := fxs.all fun b => b K
def dq__law_cell : DefQ := ⟨fun K => He.ga K "_law_cell", "_law_cell", "_law_cell", s__law_cell, []⟩
def dq__law_purse : DefQ := ⟨fun K => He.ga K "_law_purse", "_law_purse", "_law_purse", s__law_purse, []⟩
def dq_Form__repr_ : DefQ := ⟨fun K => He.ma K (He.ga K "Form") "__repr__", "__repr__", "Form.__repr__", s_Form__repr_, []⟩
def dq_is_integer : DefQ := ⟨fun K => He.ga K "is_integer", "is_integer", "is_integer", s_is_integer, []⟩
def dq_is_name : DefQ := ⟨fun K => He.ga K "is_name", "is_name", "is_name", s_is_name, []⟩
def dq_is_symbol : DefQ := ⟨fun K => He.ga K "is_symbol", "is_symbol", "is_symbol", s_is_symbol, []⟩
def dq_text_of : DefQ := ⟨fun K => He.ga K "text_of", "text_of", "text_of", s_text_of, []⟩
def dq_Form__init_ : DefQ := ⟨fun K => He.ma K (He.ga K "Form") "__init__", "__init__", "Form.__init__", s_Form__init_, []⟩
def dq_term_of : DefQ := ⟨fun K => He.ga K "term_of", "term_of", "term_of", s_term_of, []⟩
def dq_form_of : DefQ := ⟨fun K => He.ga K "form_of", "form_of", "form_of", s_form_of, []⟩
def dq_Form_read : DefQ := ⟨fun K => sfAd K (He.ga K "Form") "read", "read", "Form.read", s_Form_read, []⟩
def dq_Statement__eq_ : DefQ := ⟨fun K => (He.ma K (He.ga K "Statement") "__eq__"), "__eq__", "Statement.__eq__", s_Statement__eq_, []⟩
def dq__law_arguments : DefQ := ⟨fun K => He.ga K "_law_arguments", "_law_arguments", "_law_arguments", s__law_arguments, []⟩
def dq__law_arguments_due : DefQ := ⟨fun K => He.ga K "_law_arguments_due", "_law_arguments_due", "_law_arguments_due", s__law_arguments_due, []⟩
def dq_Form__str_ : DefQ := ⟨fun K => He.ma K (He.ga K "Form") "__str__", "__str__", "Form.__str__", s_Form__str_, []⟩
def dq_Statement__init_ : DefQ := ⟨fun K => (He.ma K (He.ga K "Statement") "__init__"), "__init__", "Statement.__init__", s_Statement__init_, []⟩
def dq_check_form : DefQ := ⟨fun K => He.ga K "check_form", "check_form", "check_form", s_check_form, []⟩
def dq_check_name : DefQ := ⟨fun K => He.ga K "check_name", "check_name", "check_name", s_check_name, []⟩
def dq_Copy__init_ : DefQ := ⟨fun K => (He.ma K (He.ga K "Copy") "__init__"), "__init__", "Copy.__init__", s_Copy__init_, ["__class__"]⟩
def dq_Fill__init_ : DefQ := ⟨fun K => (He.ma K (He.ga K "Fill") "__init__"), "__init__", "Fill.__init__", s_Fill__init_, ["__class__"]⟩
def dq_Let__init_ : DefQ := ⟨fun K => (He.ma K (He.ga K "Let") "__init__"), "__init__", "Let.__init__", s_Let__init_, ["__class__"]⟩
def dq_Resize__init_ : DefQ := ⟨fun K => (He.ma K (He.ga K "Resize") "__init__"), "__init__", "Resize.__init__", s_Resize__init_, ["__class__"]⟩
def dq_Reverse__init_ : DefQ := ⟨fun K => (He.ma K (He.ga K "Reverse") "__init__"), "__init__", "Reverse.__init__", s_Reverse__init_, ["__class__"]⟩
def dq_Swap__init_ : DefQ := ⟨fun K => (He.ma K (He.ga K "Swap") "__init__"), "__init__", "Swap.__init__", s_Swap__init_, ["__class__"]⟩
def dq__law_by_name : DefQ := ⟨fun K => He.ga K "_law_by_name", "_law_by_name", "_law_by_name", s__law_by_name, []⟩
def dq__law_by_place : DefQ := ⟨fun K => He.ga K "_law_by_place", "_law_by_place", "_law_by_place", s__law_by_place, []⟩
def dq__law_due : DefQ := ⟨fun K => He.ga K "_law_due", "_law_due", "_law_due", s__law_due, []⟩
def dq__law_small : DefQ := ⟨fun K => He.ga K "_law_small", "_law_small", "_law_small", s__law_small, []⟩
def dq__law_take : DefQ := ⟨fun K => He.ga K "_law_take", "_law_take", "_law_take", s__law_take, []⟩
def dq__law_total : DefQ := ⟨fun K => He.ga K "_law_total", "_law_total", "_law_total", s__law_total, []⟩
def dq__law_form : DefQ := ⟨fun K => He.ga K "_law_form", "_law_form", "_law_form", s__law_form, []⟩
def dq__law_name : DefQ := ⟨fun K => He.ga K "_law_name", "_law_name", "_law_name", s__law_name, []⟩
def dq__law_other_name : DefQ := ⟨fun K => He.ga K "_law_other_name", "_law_other_name", "_law_other_name", s__law_other_name, []⟩
def dq__law_names : DefQ := ⟨fun K => He.ga K "_law_names", "_law_names", "_law_names", s__law_names, []⟩
def dq_Statement__repr_ : DefQ := ⟨fun K => (He.ma K (He.ga K "Statement") "__repr__"), "__repr__", "Statement.__repr__", s_Statement__repr_, []⟩
def dq_Statement__str_ : DefQ := ⟨fun K => (He.ma K (He.ga K "Statement") "__str__"), "__str__", "Statement.__str__", s_Statement__str_, []⟩
def dq__law_sorts : DefQ := ⟨fun K => He.ga K "_law_sorts", "_law_sorts", "_law_sorts", s__law_sorts, []⟩
def dq__law_one_right : DefQ := ⟨fun K => He.ga K "_law_one_right", "_law_one_right", "_law_one_right", s__law_one_right, []⟩
def dq__law_say : DefQ := ⟨fun K => He.ga K "_law_say", "_law_say", "_law_say", s__law_say, []⟩
def dq__law_unlike : DefQ := ⟨fun K => He.ga K "_law_unlike", "_law_unlike", "_law_unlike", s__law_unlike, []⟩
def dq__law_right : DefQ := ⟨fun K => He.ga K "_law_right", "_law_right", "_law_right", s__law_right, []⟩
def dq_law : DefQ := ⟨fun K => He.ga K "law", "law", "law", s_law, []⟩
def fn0 : List DefQ := [dq__law_cell, dq__law_purse, dq_Form__repr_, dq_is_integer, dq_is_name, dq_is_symbol, dq_text_of, dq_Form__init_, dq_term_of, dq_form_of, dq_Form_read, dq_Statement__eq_, dq__law_arguments, dq__law_arguments_due, dq_Form__str_, dq_Statement__init_, dq_check_form, dq_check_name, dq_Copy__init_, dq_Fill__init_, dq_Let__init_, dq_Resize__init_, dq_Reverse__init_, dq_Swap__init_, dq__law_by_name, dq__law_by_place, dq__law_due, dq__law_small, dq__law_take, dq__law_total, dq__law_form, dq__law_name, dq__law_other_name, dq__law_names, dq_Statement__repr_, dq_Statement__str_, dq__law_sorts, dq__law_one_right, dq__law_say, dq__law_unlike, dq__law_right, dq_law]
def fns : List DefQ := fn0
def tbs : List TabQ := []
def nm0 : List PySem.Str := ["_wall", "InputError", "LimitError", "InvalidName", "InvalidFactor", "InvalidText", "InvalidValues", "InvalidLetter", "NotAForm", "NotACondition", "InvalidBranch", "TooMany", "LETTERS", "DIGITS", "MAX_LENGTH", "CELL", "VIEW", "is_integer", "is_name", "is_symbol", "is_pair", "is_values", "Form", "check_name", "check_form", "check_values", "numbers_of", "summed", "text_of", "form_of"]
def nm1 : List PySem.Str := ["term_of", "MAX_PARTS", "MAX_DEPTH", "MAX_IFS", "Condition", "Not", "All", "Any", "check_condition", "checked_conditions", "joined_text", "wrong_index", "Statement", "Let", "Copy", "Up", "Down", "Apart", "Reverse", "Swap", "Fill", "Resize", "If", "wrong_statement", "indented", "ifs_inside", "_law_cell", "_law_purse", "_law_take", "_law_name"]
def nm2 : List PySem.Str := ["_law_other_name", "_law_names", "_law_total", "_law_say", "_law_form", "_law_small", "_law_by_place", "_law_by_name", "_law_due", "_law_sorts", "_law_arguments", "_law_arguments_due", "_law_one_right", "_law_unlike", "_law_right"]
def loose : List PySem.Str := nm0 ++ nm1 ++ nm2
abbrev R : PySem.W.OpenRow := PySem.W.OpenLaw.row PySem.Challenge.rw_blockmoves_k19_statements_made
open PySem.W PySem.Calls PyProof.Rows in
noncomputable abbrev EE (w : World) : OsState → Option PySem.W.SharedT := HandSHeadRun.endF (HandSHeadRun.stepQ (HandSHeadRun.denQ HandSHeadRun.tabQ) R.prog w) 60000 R.prog w
abbrev qq : Program := PySem.W.view R.prog [81]
open PySem.W PySem.Calls PyProof.Rows in
set_option maxHeartbeats 0 in
theorem run_a (w : World) : ∀ os : OsState, (EE w os).map (fun s => (HandSHeadRun.looksF R.prog (boot_heap w.params) s.abs, HandSHeadRun.seenQ qq loose (importedModules R.prog.main.body) (fun s => PySem.W.xlAt qq [] s && PySem.W.recOk (PySem.W.OpenRow.toRowW R).records s) s.abs, fragT (HandSHeadRun.getT s) 5 fun K => (fxs.all fun b => b K) && tbs.all fun t => tabE (HandSHeadRun.getT s (t K)))) = some (true, PySem.W.openGood qq loose, true) := by
  intro os
  kernel_rfl
open PySem.W PySem.Calls PyProof.Rows in
set_option maxHeartbeats 0 in
theorem run_d0 (w : World) : DT (EE w) 5 fn0 := by
  intro os
  kernel_rfl
theorem run_d (w : World) : DT (EE w) 5 fns := run_d0 w
abbrev hk : PySem.W.Hook := hookT 5 ex fns tbs
def ob (s : PySem.W.SharedT) : AlQ := obsT 5 ex fns tbs (HandSHeadRun.getT s)
theorem ob_eq (s : PySem.W.SharedT) : ob s = hk.obs s.abs := obsT_eq (HandSHeadRun.getT_eq s)
theorem run (w : World) : HandSHeadRun.RunEq R qq hk ob 60000 loose w := run_ofT (run_a w) (run_d w)
end K19
namespace G
open PySem PySem.Spec PyProof.Rows L2

/-- no repr is running around -/
def Gd0 (A : Around) : Prop := A.guards = some []
/-- .. if b wants it -/
def GdB (b : Bool) (A : Around) : Prop := b = true → Gd0 A
abbrev Gd (A : Around) : Prop := GdB true A
theorem GdB.deeper {b : Bool} {A : Around} {env : Env} (h : GdB b A) : GdB b (A.deeper env) := fun e => by
  have h := h e
  unfold Gd0 at h ⊢
  simp [Around.deeper, h]
theorem GdB.under {b : Bool} {A : Around} {args : Args} (h : GdB b A) : GdB b (A.under (.builtin "type.__call__" args)) := fun e => by
  have h := h e
  unfold Gd0 at h ⊢
  first | exact h | simpa [Around.under, Code.guards, Code.isGuard, pushGuards, guardIds] using h
theorem GdB.in1 {b : Bool} {A : Around} (h : GdB b A) : GdB b A.in1 := fun e => by
  have h := h e
  unfold Gd0 at h ⊢
  first | exact h | simpa [Around.in1] using h

/-- a def's promise, where no repr is running around the call -/
structure FgB (gb : Bool) (P : Program) (w : World) (K : PySem.W.Frag) (mg : Str → Option Value) (base : Heap) (CX : CXT)
    (k : Nat) (f : Addr) (fd : FuncData) (ps : List Str) (sp : Sp) : Prop where
  len : ∀ vs H Q E, sp vs H Q E → vs.length = ps.length
  go : ∀ (A : Around) (outer : List Env) (s : Shared) (H : Hp) (args : Args) (us : List Value) (vs : List V)
    (Q : VK) (E : XK), Room k A → GdB gb A → Env0 P w K mg base A outer s H → BindsTo s fd args (ps.zip us) →
    Vals vs us → sp vs H Q E → codeAny (model P w) A (.call (.ref f) args) (CR CX outer P w H s Q E) s

abbrev Fg := FgB true
section
variable {P : Program} {w : World} {K : PySem.W.Frag} {mg : Str → Option Value} {base : Heap} {CX : CXT}
/-- a def of the text by its body -/
theorem fg_of {gb : Bool} {k : Nat} {f : Addr} {fn qual : Str} {params : Arguments} {body : List Stmt} {scope : Scope}
    {dV kV doc pm cdv ct oc : Value} {an od : Option Addr} {osl : Array (Option Value)} {N ps : List Str} {sp : Sp}
    (lk : K.lookup f = some ⟨oc, od, .func (PySem.W.fnOf fn qual params body scope dV kV doc pm an cdv ct), osl⟩)
    (hcd : PySem.W.codeIn K cdv qual = true) (S : FnScope N ps scope)
    (len : ∀ vs H Q E, sp vs H Q E → vs.length = ps.length)
    (hb : ∀ (A : Around) (outer : List Env) (s : Shared) (H : Hp) (vs : List V) (Q : VK) (E : XK),
      Room k (A.deeper (envOfC qual scope s.heap.objs.size f cdv)) → GdB gb (A.deeper (envOfC qual scope s.heap.objs.size f cdv)) →
      sp vs H Q E → ∃ t, PSs (cxOf CX P w K mg base N qual scope f cdv A outer s H E) body t ∧
        t { nx := fun _ H' => Q .non H', rt := Q } (start N vs) H) :
    FgB gb P w K mg base CX (k + 1) f (PySem.W.fnOf fn qual params body scope dV kV doc pm an cdv ct) ps sp := by
  constructor
  · exact len
  intro A outer s H args us vs Q E hr hgd e0 hbi r hsp
  have hl := len _ _ _ _ hsp
  have keepB : ∀ b o, base.get? b = some o → s.heap.get? b = some o := fun b o e => (e0.bs b o e).1
  have KX := e0.mod.kin.keeps keepB
  have hkd : ∀ y ∈ ps.zip us, scope.names.lookup y.1 = some .local ∨
      (scope.names.lookup y.1 = some .cell ∧ ((cellsFrom (s.heap.objs.size + 1) scope.names []).lookup y.1).isSome = true) := by
    rintro ⟨n, v⟩ hy
    have hn : n ∈ ps := (List.of_mem_zip hy).1
    cases S.par n hn with
    | inl q => exact Or.inl q
    | inr q => exact Or.inr ⟨q, PySem.W.cellsFrom_some _ _ _ (Or.inl q)⟩
  apply codeAny_call_function hr.depth (KX _ _ lk) rfl S.co S.gen rfl (PySem.W.codeRec_of KX hcd)
  apply hbi
  apply wpAny_newFunctionEnv_cells S.kind hkd
  intro env he s1 x
  subst he
  constructor
  · exact (e0.mod.nolimit.keeps keepB).keeps x.toInCall.keep
  apply codeAny_func
  obtain ⟨t, ht, hq⟩ := hb A outer s H vs Q E (hr.deeper _) hgd.deeper hsp
  have I := inv_start (CX := CX) (E := E) S hr.hd e0 hl r x
  apply wpAny_mono (ht.run [] s1 _ H _ I hq)
  · intro fl s' hs
    have fin : ∀ {σ' : L2.St} {H' : Hp} {v : V} {u : Value}, Inv (cxOf CX P w K mg base N qual scope f cdv A outer s H E) [] σ' H' s' →
        RelV v u → Q v H' → CE outer P w H s Q u s' := fun J rv q => ⟨_, _, J.os, J.bare, J.base, J.hok, rv, q⟩
    cases fl with
    | ret u => obtain ⟨v, σ', H', J, rv, q⟩ := hs; exact fin J rv q
    | next => obtain ⟨σ', H', J, q⟩ := hs; exact fin (v := V.non) J rfl q
    | brk => obtain ⟨_, _, _, q⟩ := hs; exact q.elim
    | cont => obtain ⟨_, _, _, q⟩ := hs; exact q.elim
  · intro e s' hs
    exact hs
/-- .. from which no exception leaves -/
theorem ok0 {gb : Bool} {x qual : Str} {st : Stmt} {f : Addr} {fd : FuncData} {N ps : List Str} {k : Nat} {sp : Sp}
    (F : Fun K x qual st f fd) (S : FnScope N ps (defScope st)) (len : ∀ vs H Q E, sp vs H Q E → vs.length = ps.length)
    (hb : ∀ (cdv : Value) (A : Around) (outer : List Env) (s : Shared) (H : Hp) (vs : List V) (Q : VK) (E : XK),
      Room k (A.deeper (envOfC qual (defScope st) s.heap.objs.size f cdv)) → GdB gb (A.deeper (envOfC qual (defScope st) s.heap.objs.size f cdv)) →
      sp vs H Q E → ∃ t, PSs (cxOf CX0 P w K mg base N qual (defScope st) f cdv A outer s H E).nox (defBody st) t ∧
        t { nx := fun _ H' => Q .non H', rt := Q } (start N vs) H) :
    FgB gb P w K mg base CX0 (k + 1) f fd ps sp := by
  obtain ⟨oc, od, kV, doc, pm, an, cdv, ct, osl, rfl, lk, hcd⟩ := F.ex
  refine fg_of lk hcd S len fun A outer s H vs Q E hr hg hsp => ?_
  obtain ⟨t, h, q⟩ := hb cdv A outer s H vs Q E hr hg hsp
  exact ⟨t, h.nox, q⟩
end

section
variable {X : Cx} {CX : CXT} {k : Nat} {f C : Addr} {fd : FuncData} {ps ks : List Str} {sp : Sp} {dvs : List V} {ds : List Value}
  {E : XK} {x m : Str} {p pos apos : Pos} {e o : Expr} {es : List Expr} {kws : List Keyword} {ta : TE} {t tk : TA}
/-- the callee runs -/
theorem runG {gb : Bool} {pins : List (Addr × Obj)} {σ : L2.St} {H : Hp} {s : Shared} {Q : VK} {us : List Value}
    {kw : List (Str × Value)} {us' : List Value} {vs' : List V}
    (F : FgB gb X.prog X.w X.K X.mg X.base CX k f fd ps sp) (hr : Room k X.A) (hgd : GdB gb X.A) (hx : Passes CX X E)
    (I : Inv X pins σ H s) (hb : us'.length = ps.length → BindsTo s fd ⟨us, kw⟩ (ps.zip us')) (r : Vals vs' us')
    (h : sp vs' H Q E) : wpAny (model X.prog X.w) X.A (call (.ref f) us kw) (EP X pins σ Q) X.xe s := by
  have hl : us'.length = ps.length := r.length.symm.trans (F.len _ _ _ _ h)
  apply wpAny_call
  apply codeAny_mono (F.go X.A X.stack s H ⟨us, kw⟩ us' vs' Q E hr hgd I.env0 (hb hl) r h)
  intro rs s' hq
  cases rs with
  | error e => exact hx pins σ H s e s' I hq
  | ok fl => cases fl with
    | ret u => exact I.after hq
    | next => exact hq.elim
    | brk => exact hq.elim
    | cont => exact hq.elim
/-- f(e, ..) -/
theorem peC {gb : Bool} (F : FgB gb X.prog X.w X.K X.mg X.base CX k f fd ps sp) (hr : Room k X.A) (hgd : GdB gb X.A) (hg : Gl X x)
    (hm : X.mg x = some (.ref f)) (hk : PySem.W.keepIn X.K (.ref f) = true) (hb : Binds X.K fd ps ds) (hd : Vals dvs ds) (hx : Passes CX X E)
    (ha : PA X (e :: es) t) (hdb : (x == ("__debug__" : Str)) = false := by decide)
    (he : starEach (e :: es) X.env = (false, eval e X.env) :: starEach es X.env := by rfl)
    (hpl : (backTo pos (starEach es X.env)).any (·.1) = false := by rfl) :
    PE X (.Call (.Name x p) (e :: es) [] pos) (tCall sp dvs E t) := by
  constructor
  intro pins s σ H Q I h
  apply wpAny_Call_Name_kw
  refine ld_glob I hg hm ?_ hdb
  refine PySem.W.callWith_K (h₀ := X.base) I.ok.mod.kin hk (thn (ha.run pos pins s σ H _ I h) ?_) he hpl
  rintro us s1 ⟨vs, H1, I1, r, q⟩
  exact ⟨I1.kIn, runG F hr hgd hx I1 (fun hl => hb s1 us I1.kIn hl) (r.append hd) q⟩
end
section
variable {X : Cx} {CX : CXT} {k : Nat} {f C : Addr} {fd : FuncData} {ps ks : List Str} {sp : Sp} {E : XK} {x : Str} {p pos kp : Pos} {nm : Option Str} {e : Expr} {kws : List Keyword} {tk : TA}
  {g : List Value → List Value} {gV : List V → List V}
/-- repr of data: a list, a tuple, of None, bools, ints, texts, lists, tuples -/
theorem cr_repr (hgd : Gd X.A) (hu : X.A.units + 64 < cLine) : CallR X (.builtin "repr") (fun xs H Q => ∃ (a : Addr) (d : PyData), xs = [.ref a] ∧ Dp X.K H (.ref a) d ∧
    d.showable = true ∧ d.hasDict = false ∧ d.depth ≤ 60 ∧ d.shown.length ≤ sizeLine ∧ Q (.str d.shown) H) := by
  intro pins s σ H xs us Q I r h
  obtain ⟨a, d, rfl, hd, h1, h2, h3, h4, q⟩ := h
  cases r with
  | cons r0 rr =>
    cases rr
    obtain rfl : _ = Value.ref a := r0
    obtain ⟨as, rd⟩ := Dp.reads I d _ _ hd rfl
    refine repr_of_reads' rd h1 (PyData.noDict_hsm h2) (hgd rfl) (by omega) (fun _ _ e => e) (fun h' u tk hk => ?_) h4
    exact ⟨.str d.shown, H, I.kept hk, ⟨_, rfl⟩, q⟩
end

end G


namespace G
open PySem PySem.Spec PyProof.Rows L2
/-- a def stands under its name -/
def At (K : PySem.W.Frag) (mg : Str → Option Value) (x : Str) (st : Stmt) : Prop :=
  ∃ (f : Addr) (fd : FuncData), Fun K x x st f fd ∧ mg x = some (.ref f)
/-- .. and keeps a promise -/
structure HasB0 (gb : Bool) (P : Program) (w : World) (K : PySem.W.Frag) (mg : Str → Option Value) (base : Heap) (CX : CXT)
    (x : Str) (st : Stmt) (ps : List Str) (k : Nat) (sp : Sp) (f : Addr) (fd : FuncData) : Prop where
  fn : Fun K x x st f fd
  at_ : mg x = some (.ref f)
  bi : Binds K fd ps []
  ok : FgB gb P w K mg base CX k f fd ps sp
def HasB (gb : Bool) (P : Program) (w : World) (K : PySem.W.Frag) (mg : Str → Option Value) (base : Heap) (CX : CXT)
    (x : Str) (st : Stmt) (ps : List Str) (k : Nat) (sp : Sp) : Prop := ∃ f fd, HasB0 gb P w K mg base CX x st ps k sp f fd
abbrev Has := HasB true
section
variable {P : Program} {w : World} {K : PySem.W.Frag} {mg : Str → Option Value} {base : Heap}
theorem has_mk {gb : Bool} {x : Str} {st : Stmt} {N ps : List Str} {k : Nat} {sp : Sp} (D : At K mg x st)
    (S : FnScope N ps (defScope st)) (len : ∀ vs H Q E, sp vs H Q E → vs.length = ps.length)
    (hbi : ∀ (kV doc pm : Value) (an : Option Addr) (cdv ct : Value) (us : List Value), us.length = ps.length →
      bindArgs (PySem.W.fnOf x x (defArgs st) (defBody st) (defScope st) .none kV doc pm an cdv ct) ⟨us, []⟩ = pure (ps.zip us))
    (hb : ∀ (f : Addr) (cdv : Value) (A : Around) (outer : List Env) (s : Shared) (H : Hp) (vs : List V) (Q : VK) (E : XK),
      Room k (A.deeper (envOfC x (defScope st) s.heap.objs.size f cdv)) → GdB gb (A.deeper (envOfC x (defScope st) s.heap.objs.size f cdv)) →
      sp vs H Q E → ∃ t, PSs (cxOf CX0 P w K mg base N x (defScope st) f cdv A outer s H E).nox (defBody st) t ∧
        t { nx := fun _ H' => Q .non H', rt := Q } (start N vs) H) :
    HasB gb P w K mg base CX0 x st ps (k + 1) sp := by
  obtain ⟨f, fd, F, hm⟩ := D
  exact ⟨f, fd, F, hm, F.binds hbi, ok0 F S len fun cdv A outer s H vs Q E hr hg h => hb f cdv A outer s H vs Q E hr hg h⟩
end
section
variable {X : Cx} {k : Nat} {st : Stmt} {ps : List Str} {sp : Sp} {x : Str} {p pos : Pos} {e : Expr} {es : List Expr} {t : TA} {kws : List Keyword} {tk : TA}
theorem peH {gb : Bool} (h : HasB gb X.prog X.w X.K X.mg X.base CX0 x st ps k sp) (hr : Room k X.A) (hgd : GdB gb X.A) (hg : Gl X x)
    (ha : PA X (e :: es) t) (hdb : (x == ("__debug__" : Str)) = false := by decide)
    (he : starEach (e :: es) X.env = (false, eval e X.env) :: starEach es X.env := by rfl)
    (hpl : (backTo pos (starEach es X.env)).any (·.1) = false := by rfl) :
    PE X (.Call (.Name x p) (e :: es) [] pos) (tCall sp [] E0 t) := by
  obtain ⟨f, fd, h⟩ := h
  exact peC h.ok hr hgd hg h.at_ h.fn.kp h.bi .nil pass0 ha hdb he hpl
end

section
variable {X : Cx} {x : Str} {pos : Pos}
/-- a module's text, int -/
theorem pe_gS {z : Str} (hg : Gl X x) (h : ∃ t, X.mg x = some (.str z t)) (hd : (x == ("__debug__" : Str)) = false := by decide) : PE X (.Name x pos) (tC (.str z)) := by
  obtain ⟨t, h⟩ := h
  exact pe_glob hg h ⟨t, rfl⟩ hd
theorem pe_gI {i : Int} (hg : Gl X x) (h : ∃ t, X.mg x = some (.int i t)) (hd : (x == ("__debug__" : Str)) = false := by decide) : PE X (.Name x pos) (tC (.int i)) := by
  obtain ⟨t, h⟩ := h
  exact pe_glob hg h ⟨t, rfl⟩ hd
end

/-- all that stood outside M stands as it stood -/
def Rx (M : List Addr) (H H' : Hp) : Prop := ∀ a o, a ∉ M → H a = some o → H' a = some o
theorem Rx.refl {M : List Addr} (H : Hp) : Rx M H H := fun _ _ _ h => h
theorem Rx.trans {M : List Addr} {H H1 H2 : Hp} (a : Rx M H H1) (b : Rx M H1 H2) : Rx M H H2 := fun x o n h => b x o n (a x o n h)
theorem Rx.put {M : List Addr} {H : Hp} {p : Addr} {o : HO} (h : p ∈ M) : Rx M H (upd H p o) := fun a u n e => by
  have ne : a ≠ p := fun z => n (by rw [z]; exact h)
  rw [upd_ne ne]
  exact e
/-- something new, changed -/
theorem Rx.own {M : List Addr} {H H1 : Hp} {p : Addr} {o : HO} (r : Rx M H H1) (h : H p = none) : Rx M H (upd H1 p o) := fun a u n e => by
  rw [upd_ne (ne_of_none e h)]
  exact r a u n e
theorem Rx.same {M : List Addr} {H H1 : Hp} (r : Same H H1) : Rx M H H1 := fun a o _ h => r a o h
theorem Rx.sql {M : List Addr} {K : PySem.W.Frag} {H H' : Hp} {a : Addr} {xs : List V} (r : Rx M H H') (n : a ∉ M) (h : SqL K H a xs) : SqL K H' a xs := by
  rcases h with (h | ⟨o, h⟩) | h
  · exact .inl (.inl (r _ _ n h))
  · exact .inl (.inr ⟨o, r _ _ n h⟩)
  · exact .inr h
end G


namespace G
open PySem PySem.Spec PyProof.Rows L2
abbrev RC := List V → Hp → VK → Prop
def rInt1 : RC := fun xs H Q => (∃ i, xs = [.int i] ∧ Q (.int i) H) ∨ ∃ k, xs = [.bl k] ∧ Q (.int (if k then 1 else 0)) H
def rAbs : RC := fun xs H Q => ∃ i, xs = [.int i] ∧ Q (.int (if i < 0 then -i else i)) H
def rMax2 : RC := fun xs H Q => ∃ i j, xs = [.int i, .int j] ∧ Q (.int (if j > i then j else i)) H
def rMin2 : RC := fun xs H Q => ∃ i j, xs = [.int i, .int j] ∧ Q (.int (if j < i then j else i)) H
def rStrI : RC := fun xs H Q => ∃ i, xs = [.int i] ∧ i.natAbs.log2 < 1920 ∧ Q (.str (toString i)) H
def rLen (K : PySem.W.Frag) : RC := fun xs H Q => ∃ x n, xs = [x] ∧ LenV K x H n ∧ Q (.int n) H
def rTupOf (K : PySem.W.Frag) : RC := fun xs H Q => ∃ p ys, xs = [.ref p] ∧ ((SqL K H p ys ∧ ∀ l, H l = none → Q (.ref l) (upd H l (.tup ys))) ∨ (SqT K H p ys ∧ Q (.ref p) H))
def rRepr (K : PySem.W.Frag) : RC := fun xs H Q => ∃ (a : Addr) (d : PyData), xs = [.ref a] ∧ Dp K H (.ref a) d ∧ d.showable = true ∧ d.hasDict = false ∧ d.depth ≤ 60 ∧ d.shown.length ≤ sizeLine ∧ Q (.str d.shown) H
def rSign : R2 := fun x y H Q => ∃ (c : Nat) (z : Str), x = .str ⟨#[c]⟩ ∧ y = .str z ∧ Q (.bl (decide (c ∈ z.cps.toList))) H
def rAddS : R2 := fun x y H Q => ∃ i j, x = .str i ∧ y = .str j ∧ i.length + j.length ≤ sizeLine ∧ Q (.str (i ++ j)) H
section
variable {X : Cx}
theorem c_int1 : CallR X (.type "int") rInt1 := call_int1
theorem c_abs : CallR X (.builtin "abs") rAbs := call_abs
theorem c_max2 (hc : X.calm = true) : CallR X (.builtin "max") rMax2 := call_max2 hc
theorem c_min2 (hc : X.calm = true) : CallR X (.builtin "min") rMin2 := call_min2 hc
theorem c_strI : CallR X (.type "str") rStrI := call_str_int
theorem c_len : CallR X (.builtin "len") (rLen X.K) := call_len
theorem c_tupOf : CallR X (.type "tuple") (rTupOf X.K) := call_tuple_of
theorem c_repr (hgd : Gd X.A) (hu : X.A.units + 64 < cLine) : CallR X (.builtin "repr") (rRepr X.K) := cr_repr hgd hu
theorem o_sign : OpR X (compareOp .In) rSign := op_in_sign
theorem o_addS : OpR X (binaryOp .Add) rAddS := op_add_str
end
section
variable {K : PySem.W.Frag} {σ : L2.St} {H : Hp} {Q : VK} {QB : Bool → Hp → Prop} {QA : List V → Hp → Prop} {D : Ends} {t u : TS} {te ta tb tc : TE} {tt uu : TT} {tr tx : TA} {g : TG} {r r' : R2} {rc : RC} {v x y : V} {i j : Int} {n : Nat}
theorem s_seq (h : t { D with nx := u D } σ H) : tSeq t u D σ H := h
theorem s_next (h : D.nx σ H) : tNext D σ H := h
theorem s_asg (h : te σ H fun x H1 => g x σ H1 D.nx) : tAsg te g D σ H := h
theorem s_par {a b : Nat} (h : tr σ H fun vs H1 => ∃ v w, vs = [v, w] ∧ D.nx ((σ.set a (some v)).set b (some w)) H1) : tPar a b tr D σ H := h
theorem s_ret (h : te σ H D.rt) : tRet te D σ H := h
theorem s_if (h : tt σ H fun b H1 => if b = true then t D σ H1 else u D σ H1) : tIfS tt t u D σ H := h
theorem s_drop (h : te σ H fun _ H1 => D.nx σ H1) : tDrop te D σ H := h
theorem s_gn {P : L2.St → Hp → Prop} (h : P (σ.set n (some v)) H) : gName n v σ H P := h
theorem s_gsub {to ti : TE} {st : TSet} {P : L2.St → Hp → Prop} (h : to σ H fun o H1 => ti σ H1 fun i H2 => st o i v H2 fun H3 => P σ H3) : gSub to ti st v σ H P := h
theorem s_var (e : σ[n]? = some (some v)) (h : Q v H) : tVar n σ H Q := ⟨v, e, h⟩
theorem s_c (h : Q v H) : tC v σ H Q := h
theorem s_op (h : ta σ H fun x H1 => tb σ H1 fun y H2 => r x y H2 Q) : tOp r ta tb σ H Q := h
theorem s_un {ru : V → Hp → VK → Prop} (h : ta σ H fun x H1 => ru x H1 Q) : tUn ru ta σ H Q := h
theorem s_test (h : te σ H fun x H' => ∃ k, x = .bl k ∧ QB k H') : tTest te σ H QB := h
theorem s_tB (h : te σ H fun x H' => ∃ k, x = .bl k ∧ QB k H') : tB te σ H QB := h
theorem s_or (h : tt σ H fun c H1 => if c = true then QB true H1 else uu σ H1 QB) : tOr tt uu σ H QB := h
theorem s_not (h : tt σ H fun c H1 => QB (!c) H1) : tNot tt σ H QB := h
theorem s_andV (h : ta σ H fun x H1 => ∃ c, x = .bl c ∧ if c = true then tb σ H1 Q else Q (.bl false) H1) : tAndV ta tb σ H Q := h
theorem s_orV (h : ta σ H fun x H1 => ∃ c, x = .bl c ∧ if c = true then Q (.bl true) H1 else tb σ H1 Q) : tOrV ta tb σ H Q := h
theorem s_notV (h : ta σ H fun x H1 => ∃ c, x = .bl c ∧ Q (.bl (!c)) H1) : tNotV ta σ H Q := h
theorem s_ifE (h : tt σ H fun c H1 => if c = true then ta σ H1 Q else tb σ H1 Q) : tIf tt ta tb σ H Q := h
theorem s_chain (h : ta σ H fun x H1 => tb σ H1 fun y H2 => r x y H2 fun z H3 => ∃ k, z = .bl k ∧ (if k = true then tc σ H3 fun w' H4 => r' y w' H4 Q else Q (.bl false) H3)) : tChain r r' ta tb tc σ H Q := h
theorem s_nil (h : QA [] H) : tNil σ H QA := h
theorem s_cons (h : te σ H fun x H1 => tr σ H1 fun xs H2 => QA (x :: xs) H2) : tCons te tr σ H QA := h
theorem s_cb (h : tr σ H fun vs H1 => rc vs H1 Q) : tCB rc tr σ H Q := h
theorem s_call {sp : Sp} (h : tr σ H fun vs H1 => sp (vs ++ []) H1 Q E0) : tCall sp [] E0 tr σ H Q := h
/-- a new object: the heap behind it by what is known of it -/
theorem s_new {o : HO} {P : Addr → Hp → Prop} (h : ∀ p H', H p = none → Same H H' → H' p = some o → P p H') : ∀ p, H p = none → P p (upd H p o) := fun p hp =>
  h p _ hp (fun a u e => by rw [upd_ne (ne_of_none e hp)]; exact e) upd_same
/-- a new object for Q -/
def Mk (o : HO) (H : Hp) (Q : VK) : Prop := ∀ p, H p = none → Q (.ref p) (upd H p o)
theorem s_mk {o : HO} (h : ∀ p H', H p = none → Same H H' → H' p = some o → Q (.ref p) H') : Mk o H Q := s_new (P := fun p H' => Q (.ref p) H') h
theorem s_lst' (h : tr σ H fun xs H1 => xs.length ≤ sizeLine ∧ Mk (.lst xs) H1 Q) : tLst tr σ H Q := h
theorem s_tup' (h : tr σ H fun xs H1 => xs.length ≤ sizeLine ∧ Mk (.tup xs) H1 Q) : tTup tr σ H Q := h
theorem s_sz {n : Nat} {B : Prop} (hn : n ≤ sizeLine) (h : B) : n ≤ sizeLine ∧ B := ⟨hn, h⟩
theorem s_I0 {g : Int → Int → V} (h : Q (g i j) H) : rI0 g (.int i) (.int j) H Q := ⟨i, j, rfl, rfl, h⟩
theorem s_I {C : Int → Int → Prop} {g : Int → Int → V} (c : C i j) (h : Q (g i j) H) : rI C g (.int i) (.int j) H Q := ⟨i, j, rfl, rfl, c, h⟩
theorem s_U {g : Int → V} (h : Q (g i) H) : rU g (.int i) H Q := ⟨i, rfl, h⟩
theorem s_eq (e : scal x y = true) (h : Q (.bl (decide (x = y))) H) : rEq x y H Q := ⟨e, h⟩
theorem s_ne (e : scal x y = true) (h : Q (.bl (!decide (x = y))) H) : rNe x y H Q := ⟨e, h⟩
theorem s_int1 (h : Q (.int i) H) : rInt1 [.int i] H Q := .inl ⟨i, rfl, h⟩
theorem s_abs (h : Q (.int (if i < 0 then -i else i)) H) : rAbs [.int i] H Q := ⟨i, rfl, h⟩
theorem s_max2 (h : Q (.int (if j > i then j else i)) H) : rMax2 [.int i, .int j] H Q := ⟨i, j, rfl, h⟩
theorem s_min2 (h : Q (.int (if j < i then j else i)) H) : rMin2 [.int i, .int j] H Q := ⟨i, j, rfl, h⟩
theorem s_strI (c : i.natAbs.log2 < 1920) (h : Q (.str (toString i)) H) : rStrI [.int i] H Q := ⟨i, rfl, c, h⟩
theorem s_lenS {z : Str} (c : z.length ≤ sizeLine) (h : Q (.int z.length) H) : rLen K [.str z] H Q := ⟨_, z.length, rfl, ⟨c, rfl⟩, h⟩
theorem s_lenL {p : Addr} {xs : List V} (c : SqL K H p xs) (h : Q (.int xs.length) H) : rLen K [.ref p] H Q := ⟨_, xs.length, rfl, .inl ⟨xs, c, rfl⟩, h⟩
theorem s_tupL {p : Addr} {xs : List V} (c : SqL K H p xs) (h : ∀ p H', H p = none → Same H H' → H' p = some (.tup xs) → Q (.ref p) H') : rTupOf K [.ref p] H Q := ⟨p, xs, rfl, .inl ⟨c, s_new (P := fun p H' => Q (.ref p) H') h⟩⟩
theorem s_ixL {p : Addr} {xs : List V} (c : SqL K H p xs) (a : atI xs i = some v) (h : Q v H) : rIxL K (.ref p) (.int i) H Q := ⟨p, xs, i, v, rfl, rfl, c, a, h⟩
theorem s_ixT {p : Addr} {xs : List V} (c : SqT K H p xs) (a : atI xs i = some v) (h : Q v H) : rIxT K (.ref p) (.int i) H Q := ⟨p, xs, i, v, rfl, rfl, c, a, h⟩
theorem s_ixS {z : Str} {c : Nat} (l : z.length ≤ sizeLine) (a : atI z.cps.toList i = some c) (h : Q (.str ⟨#[c]⟩) H) : rIxS (.str z) (.int i) H Q := ⟨z, i, c, rfl, rfl, l, a, h⟩
theorem s_setL {p : Addr} {xs : List V} {k : Nat} {P : Hp → Prop} (e : H p = some (.lst xs)) (a : ixN xs.length i = some k) (h : P (upd H p (.lst (xs.set k v)))) : rSetL (.ref p) (.int i) v H P := ⟨p, xs, i, k, rfl, rfl, e, a, h⟩
theorem s_addS {a b : Str} (c : a.length + b.length ≤ sizeLine) (h : Q (.str (a ++ b)) H) : rAddS (.str a) (.str b) H Q := ⟨a, b, rfl, rfl, c, h⟩
theorem s_sign {c : Nat} {z : Str} (h : Q (.bl (decide (c ∈ z.cps.toList))) H) : rSign (.str ⟨#[c]⟩) (.str z) H Q := ⟨c, z, rfl, rfl, h⟩
theorem s_cat {p q : Addr} {xs ys : List V} (a : H p = some (.lst xs)) (b : H q = some (.lst ys)) (c : xs.length + ys.length ≤ sizeLine)
    (h : ∀ p H', H p = none → Same H H' → H' p = some (.lst (xs ++ ys)) → Q (.ref p) H') : rCat (.ref p) (.ref q) H Q := ⟨p, q, xs, ys, rfl, rfl, a, b, c, s_new (P := fun p H' => Q (.ref p) H') h⟩
theorem s_sl {rs : V → Option Int → Option Int → Hp → VK → Prop} {tl th : TO} (h : te σ H fun x H1 => tl σ H1 fun l H2 => th σ H2 fun u H3 => rs x l u H3 Q) : L2.tSl rs te tl th σ H Q := h
theorem s_noP {QO : Option Int → Hp → Prop} (h : QO none H) : tNoPart σ H QO := h
theorem s_part {QO : Option Int → Hp → Prop} (h : te σ H fun x H1 => ∃ i, x = .int i ∧ QO (some i) H1) : tPart te σ H QO := h
theorem s_slL {p : Addr} {xs : List V} {lo hi : Option Int} (c : SqL K H p xs) (h : ∀ p H', H p = none → Same H H' → H' p = some (.lst (cutV xs lo hi)) → Q (.ref p) H') : rSlL K (.ref p) lo hi H Q := ⟨p, xs, rfl, c, s_new (P := fun p H' => Q (.ref p) H') h⟩
theorem s_slS {z : Str} {lo hi : Option Int} (l : z.length ≤ sizeLine) (h : Q (.str (cutS z lo hi)) H) : rSlS (.str z) lo hi H Q := ⟨z, rfl, l, h⟩
theorem s_dnew (h : Mk (.dK []) H Q) : tDNewK σ H Q := h
theorem s_bm {T : String} {ro : V → List V → Hp → VK → Prop} {to : TE} (h : to σ H fun x H1 => tyV K T x H1 ∧ tr σ H1 fun xs H2 => ro x xs H2 Q) : tBM K T ro to tr σ H Q := h
theorem s_tyL {p : Addr} {xs : List V} {B : Prop} (c : SqL K H p xs) (h : B) : tyV K "list" (.ref p) H ∧ B := ⟨.inl ⟨rfl, xs, c⟩, h⟩
theorem s_app {p : Addr} {xs : List V} (e : H p = some (.lst xs)) (c : xs.length < sizeLine) (h : Q .non (upd H p (.lst (xs ++ [y])))) : rAppend (.ref p) [y] H Q := ⟨p, xs, y, rfl, rfl, e, c, h⟩
theorem s_in {p : Addr} {xs : List V} (c : SqL K H p xs) (a : flatV x = true) (b : xs.all flatV = true) (h : Q (.bl (inV x xs)) H) : rIn K false x (.ref p) H Q := ⟨p, xs, rfl, .inl c, a, b, h⟩
theorem s_nin {p : Addr} {xs : List V} (c : SqL K H p xs) (a : flatV x = true) (b : xs.all flatV = true) (h : Q (.bl (!inV x xs)) H) : rIn K true x (.ref p) H Q := ⟨p, xs, rfl, .inl c, a, b, h⟩
theorem s_m1 {ro : V → List V → Hp → VK → Prop} {to : TE} (h : to σ H fun x H1 => (∃ a, x = .str a) ∧ te σ H1 fun y H2 => ro x [y] H2 Q) : tM1 ro to te σ H Q := h
theorem s_isStr {z : Str} {B : Prop} (h : B) : (∃ a, V.str z = .str a) ∧ B := ⟨⟨z, rfl⟩, h⟩
def rJoin (K : PySem.W.Frag) : V → List V → Hp → VK → Prop := fun x xs H Q => ∃ a p, ∃ ys : List Str, x = .str a ∧ xs = [.ref p] ∧ (SqL K H p (ys.map V.str) ∨ SqT K H p (ys.map V.str)) ∧ (ys.map (·.length)).sum + ys.length * a.length ≤ 16777216 ∧ Q (.str (Txt.join a ys)) H
theorem s_join {a : Str} {p : Addr} {ys : List Str} (e : H p = some (.lst (ys.map V.str))) (c : (ys.map (·.length)).sum + ys.length * a.length ≤ 16777216) (h : Q (.str (Txt.join a ys)) H) : rJoin K (.str a) [.ref p] H Q := ⟨a, p, ys, rfl, rfl, .inl (SqL.of e), c, h⟩
/-- bounds on sizes -/
theorem sz1 {n : Nat} (h : n ≤ 1000000) : n ≤ sizeLine := Nat.le_trans h (by decide)
theorem sz2 {n : Nat} (h : n < 1000000) : n < sizeLine := Nat.lt_of_lt_of_le h (by decide)
end
end G


namespace G
open PySem PySem.Spec PyProof.Rows L2
section
variable {X : Cx} (K : PySem.W.Frag) (h : X.K = K := by rfl)
include h
theorem ixL : IxR X (rIxL K) := by subst h; exact ix_list
theorem ixT : IxR X (rIxT K) := by subst h; exact ix_tup
theorem inQ : OpR X (compareOp .In) (rIn K false) := by subst h; exact op_in_seq
theorem ninQ : OpR X (compareOp .NotIn) (rIn K true) := by subst h; exact op_notIn_seq
theorem isiK : CallR X (.builtin "isinstance") (rIsi K) := by subst h; exact call_isi
theorem lenK : CallR X (.builtin "len") (rLen K) := by subst h; exact c_len
theorem tupOfK : CallR X (.type "tuple") (rTupOf K) := by subst h; exact c_tupOf
theorem slLK : SlR X (rSlL K) := by subst h; exact sl_list
theorem allK (hc : X.calm = true := by rfl) : CallR X (.builtin "all") (rAll K) := by subst h; exact cr_all hc
theorem eqDK (hu : X.A.units + 64 < cLine) : OpR X (compareOp .Eq) (rEqD K) := by subst h; exact op_eqD hu
theorem neDK (hu : X.A.units + 64 < cLine) : OpR X (compareOp .NotEq) (rNeD K) := by subst h; exact op_neD hu
theorem reprK (hgd : Gd X.A) (hu : X.A.units + 64 < cLine) : CallR X (.builtin "repr") (rRepr K) := by subst h; exact c_repr hgd hu
theorem piL {tg e : Expr} {t : TE} (he : PE X e t) : PI X tg e (iList K t) := by subst h; exact pi_list he
theorem piT {tg e : Expr} {t : TE} (he : PE X e t) : PI X tg e (iTup K t) := by subst h; exact pi_tup he
theorem appendK {o e : Expr} {to : TE} {t : TA} {apos cpos : Pos} (ho : PE X o to) (ha : PA X [e] t)
    (hbase : attributeBase o "append" X.env (eval o X.env) = eval o X.env := by rfl)
    (hfew : ((backTo cpos (starEach [e] X.env)).all (fun x => !x.1) && (backToKw cpos (keywordEach [] X.env)).all (fun x => x.1.isSome)
      && decide ([e].length + ([] : List Keyword).length + (if ([] : List Keyword).isEmpty then 0 else 1) < 30)) = true := by rfl)
    (hline : (apos.endLine == cpos.line) = true := by rfl) (hs : starEach [e] X.env = (false, eval e X.env) :: starEach [] X.env := by rfl)
    (hplain : (backTo cpos (starEach [] X.env)).any (·.1) = false := by rfl) :
    PE X (.Call (.Attribute o "append" apos) [e] [] cpos) (tBM K "list" rAppend to t) := by
  subst h
  exact pe_bm PySem.F.plainAttrs_list PySem.F.slot_list_append PySem.F.type_list_append mt_append ho ha hbase hfew hline hs hplain
theorem joinK {o e : Expr} {to te : TE} {apos pos : Pos} (ho : PE X o to) (he : PE X e te) (hs : starEach [e] X.env = [(false, eval e X.env)] := by rfl)
    (hbase : attributeBase o "join" X.env (eval o X.env) = eval o X.env := by rfl) (hline : (apos.endLine == pos.line) = true := by rfl) :
    PE X (.Call (.Attribute o "join" apos) [e] [] pos) (tM1 (rJoin K) to te) := by
  subst h
  exact pe_join ho he hs hbase hline
end
end G


namespace G
open PySem PySem.Spec PyProof.Rows L2
def isS : V → Bool
  | .str _ => true
  | _ => false
def isI : V → Bool
  | .int _ => true
  | _ => false
def isB : V → Bool
  | .bl _ => true
  | _ => false
def tupH : Option HO → Option (List V)
  | some (.tup xs) => some xs
  | _ => none
def tupOf (H : Hp) : V → Option (List V)
  | .ref q => tupH (H q)
  | _ => none
/-- all that stood outside A stands as it stood -/
def Ag (A : Addr → Prop) (H H' : Hp) : Prop := ∀ a o, ¬ A a → H a = some o → H' a = some o
/-- a thing of depth n that holds nothing of A -/
def Th (A : Addr → Prop) (H : Hp) : Nat → V → Prop
  | _, .non => True
  | _, .bl _ => True
  | _, .int _ => True
  | _, .str z => z.length ≤ 100000
  | 0, .ref q => ¬ A q ∧ ((∃ xs, H q = some (.lst xs)) ∨ (∃ kvs, H q = some (.dK kvs)) ∨ ∃ xs, H q = some (.tup xs))
  | n + 1, .ref q => ¬ A q ∧ ((∃ xs, H q = some (.lst xs)) ∨ (∃ kvs, H q = some (.dK kvs)) ∨ ∃ xs, H q = some (.tup xs) ∧ xs.length ≤ 100 ∧ ∀ x ∈ xs, Th A H n x)
  | _, _ => False
theorem Th.down {A : Addr → Prop} {H : Hp} {n : Nat} {v : V} (h : Th A H (n + 1) v) : Th A H 0 v := by
  cases v with
  | ref q =>
    obtain ⟨ne, h⟩ := h
    refine ⟨ne, ?_⟩
    rcases h with h | h | ⟨xs, h, _⟩
    · exact .inl h
    · exact .inr (.inl h)
    · exact .inr (.inr ⟨xs, h⟩)
  | _ => exact h
/-- what is asked of its type -/
theorem Th.ty {A : Addr → Prop} {H : Hp} {n : Nat} {v : V} (K : PySem.W.Frag) (h : Th A H n v) : ∃ a : String, TyX K H v (.type a) ∧ kitB a "str" = some (isS v) ∧
    kitB a "int" = some (isI v || isB v) ∧ kitB a "bool" = some (isB v) ∧ kitB a "tuple" = some (tupOf H v).isSome := by
  have h0 : Th A H 0 v := by
    cases n with
    | zero => exact h
    | succ n => exact h.down
  cases v with
  | non => exact ⟨"NoneType", .base .non, (show kitB "NoneType" "str" = some false by decide +kernel), (show kitB "NoneType" "int" = some false by decide +kernel), (show kitB "NoneType" "bool" = some false by decide +kernel), (show kitB "NoneType" "tuple" = some false by decide +kernel)⟩
  | bl b => exact ⟨"bool", .base (.bl b), (show kitB "bool" "str" = some false by decide +kernel), (show kitB "bool" "int" = some true by decide +kernel), (show kitB "bool" "bool" = some true by decide +kernel), (show kitB "bool" "tuple" = some false by decide +kernel)⟩
  | int i => exact ⟨"int", .base (.int i), (show kitB "int" "str" = some false by decide +kernel), (show kitB "int" "int" = some true by decide +kernel), (show kitB "int" "bool" = some false by decide +kernel), (show kitB "int" "tuple" = some false by decide +kernel)⟩
  | str x => exact ⟨"str", .base (.str x), (show kitB "str" "str" = some true by decide +kernel), (show kitB "str" "int" = some false by decide +kernel), (show kitB "str" "bool" = some false by decide +kernel), (show kitB "str" "tuple" = some false by decide +kernel)⟩
  | byt b => exact h0.elim
  | flt b => exact h0.elim
  | ty b => exact h0.elim
  | ref q =>
    obtain ⟨ne, h0⟩ := h0
    rcases h0 with ⟨xs, e⟩ | ⟨xs, e⟩ | ⟨xs, e⟩
    · refine ⟨"list", .base (.lst e), (show kitB "list" "str" = some false by decide +kernel), (show kitB "list" "int" = some false by decide +kernel), (show kitB "list" "bool" = some false by decide +kernel), ?_⟩
      show _ = some (tupH (H q)).isSome
      rw [e]
      exact (show kitB "list" "tuple" = some false by decide +kernel)
    · refine ⟨"dict", .base (.dK e), (show kitB "dict" "str" = some false by decide +kernel), (show kitB "dict" "int" = some false by decide +kernel), (show kitB "dict" "bool" = some false by decide +kernel), ?_⟩
      show _ = some (tupH (H q)).isSome
      rw [e]
      exact (show kitB "dict" "tuple" = some false by decide +kernel)
    · refine ⟨"tuple", .base (.tup e), (show kitB "tuple" "str" = some false by decide +kernel), (show kitB "tuple" "int" = some false by decide +kernel), (show kitB "tuple" "bool" = some false by decide +kernel), ?_⟩
      show _ = some (tupH (H q)).isSome
      rw [e]
      exact (show kitB "tuple" "tuple" = some true by decide +kernel)
theorem s_isi {K : PySem.W.Frag} {H : Hp} {Q : VK} {v : V} {a n : String} {b : Bool} (ty : TyX K H v (.type a)) (e : kitB a n = some b) (h : Q (.bl b) H) : rIsi K [v, .ty n] H Q :=
  ⟨v, .ty n, .type a, .type n, b, rfl, .ty n, ty, kit_ty e, h⟩
theorem s_isiS {K : PySem.W.Frag} {H : Hp} {Q : VK} {v : V} {A : Addr → Prop} {n : Nat} (t : Th A H n v) (h : Q (.bl (isS v)) H) : rIsi K [v, .ty "str"] H Q := by
  obtain ⟨a, ty, e, _⟩ := t.ty K
  exact s_isi ty e h
theorem s_isiI {K : PySem.W.Frag} {H : Hp} {Q : VK} {v : V} {A : Addr → Prop} {n : Nat} (t : Th A H n v) (h : Q (.bl (isI v || isB v)) H) : rIsi K [v, .ty "int"] H Q := by
  obtain ⟨a, ty, _, e, _⟩ := t.ty K
  exact s_isi ty e h
theorem s_isiB {K : PySem.W.Frag} {H : Hp} {Q : VK} {v : V} {A : Addr → Prop} {n : Nat} (t : Th A H n v) (h : Q (.bl (isB v)) H) : rIsi K [v, .ty "bool"] H Q := by
  obtain ⟨a, ty, _, _, e, _⟩ := t.ty K
  exact s_isi ty e h
theorem ite_t {c : Bool} {A B : Prop} (e : c = true) (h : A) : if c = true then A else B := by
  rw [if_pos e]
  exact h
theorem ite_f {c : Bool} {A B : Prop} (e : c = false) (h : B) : if c = true then A else B := by
  rw [if_neg (by rw [e]; exact Bool.false_ne_true)]
  exact h
theorem ite_b {c : Bool} {A B : Prop} (h1 : c = true → A) (h2 : c = false → B) : if c = true then A else B := by
  cases e : c with
  | true => rw [if_pos rfl]; exact h1 e
  | false => rw [if_neg Bool.false_ne_true]; exact h2 e
theorem ite_nf {A B : Prop} (h : A) : if (!false) = true then A else B := h
theorem ite_nt {A B : Prop} (h : B) : if (!true) = true then A else B := h
theorem rtb {Q : VK} {H : Hp} {b b' : Bool} (h : Q (.bl b) H) (e : b' = b) : Q (.bl b') H := by
  rw [e]
  exact h
theorem isS_str {v : V} (h : isS v = true) : ∃ z, v = .str z := by
  cases v with
  | str z => exact ⟨z, rfl⟩
  | _ => cases h
def letS : Str := "abcdefghijklmnopqrstuvwxyz"
def digS : Str := "0123456789"
def nameS (z : Str) : Bool := decide (1 ≤ z.length ∧ z.length ≤ 8) && !decide (z = "view") && (match z.cps.toList with | c :: _ => decide (c ∈ letS.cps.toList) | [] => false) && z.cps.toList.all fun c => decide (c ∈ (letS ++ digS).cps.toList)
def nameV : V → Bool
  | .str z => nameS z
  | _ => false
def symV : V → Bool
  | .str z => decide (z = "@") || nameS z
  | _ => false
def ascS : List Str → Bool
  | a :: b :: r => decide (a.cps.toList < b.cps.toList) && ascS (b :: r)
  | _ => true
def spAsk (n : Nat) (f : Hp → V → Bool) : Sp := fun vs H Q _ => ∃ (v : V) (A : Addr → Prop), vs = [v] ∧ Th A H n v ∧ ∀ H', Same H H' → Q (.bl (f H v)) H'
end G


namespace G
open PySem PySem.Spec PyProof.Rows L2
/-- what a comprehension asks behind its iterable -/
def LC (J : It) (g : TG) (tt : TT) (te : TE) (vs : List Nat) (σ : L2.St) (Q : VK) (H1 : Hp) : Prop := ∀ D, H1 D = none → ∃ W : Nat → Nat → Hp → Prop, (∃ m, W 0 m (upd H1 D (.lst []))) ∧ ∀ i m H, W i m H →
  (J.stop i H ∧ Q (.ref D) H) ∨ (J.go i H ∧ ∃ Nx : Hp → Prop, (∀ H', Nx H' → ∃ m', m' < m ∧ W (i + 1) m' H') ∧ ∀ x H', J.yld i H x H' → g x (wipe σ vs) H' fun σ2 H2 => wipe σ2 vs = wipe σ vs ∧ tt σ2 H2 fun b H3 =>
    if b = true then te σ2 H3 fun y H4 => ∃ acc, H4 D = some (.lst acc) ∧ acc.length < sizeLine ∧ Nx (upd H4 D (.lst (acc ++ [y]))) else Nx H3)
/-- what a for asks behind its iterable -/
def FR (J : It) (g : TG) (tb : TS) (D : Ends) (σ : L2.St) (H1 : Hp) : Prop := ∃ W : Nat → Nat → L2.St → Hp → Prop, (∃ m, W 0 m σ H1) ∧ ∀ i m σ H, W i m σ H →
  (J.stop i H ∧ D.nx σ H) ∨ (J.go i H ∧ ∃ N : L2.St → Hp → Prop, (∀ σ' H', N σ' H' → ∃ m', m' < m ∧ W (i + 1) m' σ' H') ∧ ∀ x H', J.yld i H x H' → g x σ H' fun σ2 H2 => tb { D with nx := N, ct := N, bk := D.nx } σ2 H2)
section
variable {K : PySem.W.Frag} {σ : L2.St} {H : Hp} {Q : VK} {D : Ends} {wi : TI} {g : TG} {tt : TT} {te : TE} {tb : TS} {vs : List Nat} {tr : TA} {R : It → Hp → Prop} {p : Addr}
theorem s_lc (h : wi σ H fun J H1 => LC J g tt te vs σ Q H1) : tLc wi g tt te vs σ H Q := h
theorem s_fr (h : wi σ H fun J H1 => FR J g tb D σ H1) : tFor wi g tb D σ H := h
theorem s_iStr (h : te σ H fun v H1 => ∃ x, v = .str x ∧ R (Its x) H1) : iStr te σ H R := h
theorem s_iLst (h : te σ H fun x H1 => ∃ a, x = .ref a ∧ (∃ xs, SqL K H1 a xs) ∧ R (Itl K a) H1) : iList K te σ H R := h
theorem s_iTup (h : te σ H fun x H1 => ∃ a, x = .ref a ∧ (∃ xs, SqT K H1 a xs) ∧ R (Itt K a) H1) : iTup K te σ H R := h
theorem s_iR1 (h : tr σ H fun vs H1 => ∃ j : Int, vs = [.int j] ∧ -(2 ^ 62) ≤ j ∧ j < 2 ^ 62 ∧ R (Itr 0 j.toNat) H1) : iRng1 tr σ H R := h
theorem s_exL {xs : List V} {B : Prop} (c : SqL K H p xs) (h : B) : (∃ xs, SqL K H p xs) ∧ B := ⟨⟨xs, c⟩, h⟩
theorem s_exT {xs : List V} {B : Prop} (c : SqT K H p xs) (h : B) : (∃ xs, SqT K H p xs) ∧ B := ⟨⟨xs, c⟩, h⟩
theorem s_bd {j : Int} {B : Prop} (a : -(2 ^ 62) ≤ j) (b : j < 2 ^ 62) (h : B) : -(2 ^ 62) ≤ j ∧ j < 2 ^ 62 ∧ B := ⟨a, b, h⟩
theorem s_yes {QB : Bool → Hp → Prop} (h : QB true H) : tYes σ H QB := h
/-- walks that give the values xs -/
def strV (z : Str) : List V := z.cps.toList.map fun c => .str ⟨#[c]⟩
def rngV (n : Nat) : List V := (List.range n).map fun i => .int (i : Nat)
theorem wx_str {z : Str} : Walk (Its z) (strV z).length (fun _ => True) (YAt (strV z)) := by
  have e : (strV z).length = z.cps.size := by simp [strV]
  rw [e]
  refine walk_str.mono (fun _ h => h) ?_
  rintro i H x H' _ _ ⟨e, c, hc, rfl⟩
  refine ⟨e, ?_⟩
  simp [strV, hc]
theorem wx_rng {n : Nat} : Walk (Itr 0 n) (rngV n).length (fun _ => True) (YAt (rngV n)) := by
  have e : (rngV n).length = n := by simp [rngV]
  rw [e]
  refine walk_range.mono (fun _ h => h) ?_
  rintro i H x H' hi _ ⟨e, rfl⟩
  refine ⟨e, ?_⟩
  simp [rngV, hi]
/-- a comprehension that writes nothing: each value by f -/
theorem lcP {J : It} {xs : List V} {G : Hp → Prop} (w : Walk J xs.length G (YAt xs)) (f : V → V) (hG : ∀ H1, Same H H1 → G H1) (hl : xs.length ≤ 1000000)
    (hs : ∀ x H1 (Q1 : VK), x ∈ xs → Same H H1 → (∀ H2, Same H1 H2 → Q1 (f x) H2) → g x (wipe σ vs) H1 fun σ2 H2 => wipe σ2 vs = wipe σ vs ∧ te σ2 H2 Q1)
    (gm : ∀ x σ1 H1 (P P' : L2.St → Hp → Prop), (∀ a b, P a b → P' a b) → g x σ1 H1 P → g x σ1 H1 P')
    (h : ∀ D H', H D = none → Same H H' → H' D = some (.lst (xs.map f)) → Q (.ref D) H') : LC J g tYes te vs σ Q H := by
  intro D hD
  refine lc_it w (fun i H1 => Same H H1 ∧ H1 D = some (.lst ((xs.take i).map f))) ⟨?_, ?_⟩ (fun i H1 _ q => hG H1 q.1) ?_ ?_
  · intro a o e
    rw [upd_ne (ne_of_none e hD)]
    exact e
  · exact upd_same
  · rintro i x H1 H2 hi ⟨r, hd⟩ ⟨rfl, hx⟩
    refine gm _ _ _ _ _ ?_ (hs x H2 (fun y H4 => ∃ acc, H4 D = some (.lst acc) ∧ acc.length < sizeLine ∧ (Same H (upd H4 D (.lst (acc ++ [y]))) ∧ (upd H4 D (.lst (acc ++ [y]))) D = some (.lst ((xs.take (i + 1)).map f)))) (List.mem_of_getElem? hx) r ?_)
    · rintro σ2 H3 ⟨e, q⟩
      refine ⟨e, s_yes (iteT ?_)⟩
      exact q
    · intro H4 r4
      refine ⟨_, r4 _ _ hd, ?_, ?_, ?_⟩
      · rw [List.length_map, List.length_take]
        exact sz2 (by omega)
      · intro a o e
        rw [upd_ne (ne_of_none e hD)]
        exact r4 _ _ (r _ _ e)
      · rw [upd_same]
        have e : xs.take (i + 1) = xs.take i ++ [x] := by rw [List.take_add_one, hx]; rfl
        rw [e, List.map_append]
        rfl
  · rintro H1 ⟨r, hd⟩
    rw [List.take_length] at hd
    exact h D H1 hD r hd
theorem gm_name {n : Nat} : ∀ x σ1 H1 (P P' : L2.St → Hp → Prop), (∀ a b, P a b → P' a b) → gName n x σ1 H1 P → gName n x σ1 H1 P' := fun _ _ _ _ _ h q => h _ _ q
end
theorem s_all {K : PySem.W.Frag} {H : Hp} {Q : VK} {a : Addr} {bs : List Bool} (c : H a = some (.lst (bs.map V.bl))) (h : Q (.bl (bs.all id)) H) : rAll K [.ref a] H Q := ⟨a, bs, rfl, SqL.of c, h⟩
def sgV (S : Str) : V → V
  | .str z => .bl (match z.cps.toList with | [c] => decide (c ∈ S.cps.toList) | _ => false)
  | _ => .bl false
theorem sgV_map (S z : Str) : (strV z).map (sgV S) = (z.cps.toList.map fun c => decide (c ∈ S.cps.toList)).map V.bl := by
  unfold strV
  rw [List.map_map, List.map_map]
  rfl
theorem mem_strV {z : Str} {x : V} (h : x ∈ strV z) : ∃ c, x = .str ⟨#[c]⟩ := by
  obtain ⟨c, _, rfl⟩ := List.mem_map.mp h
  exact ⟨c, rfl⟩
theorem cons_of_len {z : Str} (h : 1 ≤ z.length) : ∃ c cs, z.cps.toList = c :: cs := by
  cases e : z.cps.toList with
  | nil =>
    have : z.cps.toList.length = 0 := by rw [e]; rfl
    rw [Array.length_toList] at this
    have h2 : z.length = z.cps.size := rfl
    omega
  | cons c cs => exact ⟨c, cs, rfl⟩
theorem strV_len {z : Str} : (strV z).length = z.length := by
  unfold strV
  rw [List.length_map, Array.length_toList]
  rfl
theorem atI_0 {α : Type} {x : α} {xs : List α} : atI (x :: xs) 0 = some x := by
  unfold atI ixN
  rw [if_pos (Int.le_refl 0), if_pos (by rw [List.length_cons]; omega)]
  rfl
theorem atI_of {α : Type} {xs : List α} {i : Nat} {x : α} (h : xs[i]? = some x) : atI xs (i : Int) = some x := by
  obtain ⟨hi, e⟩ := List.getElem?_eq_some_iff.mp h
  unfold atI ixN
  rw [if_pos (by omega), if_pos (by omega)]
  exact h
theorem atI_ofI {α : Type} {xs : List α} {i : Int} (h0 : 0 ≤ i) (h : i < xs.length) : ∃ x, atI xs i = some x ∧ x ∈ xs ∧ xs[i.toNat]? = some x := by
  have hi : i.toNat < xs.length := by omega
  refine ⟨xs[i.toNat], ?_, List.getElem_mem hi, by simp [hi]⟩
  unfold atI ixN
  rw [if_pos h0, if_pos h]
  show xs[i.toNat]? = _
  simp [hi]
end G


namespace G
open PySem PySem.Spec PyProof.Rows L2
def ltS (a b : Str) : Bool := decide (a.cps.toList < b.cps.toList)
theorem ascS_cons {a b : Str} {r : List Str} : ascS (a :: b :: r) = (ltS a b && ascS (b :: r)) := rfl
end G


namespace G
open PySem PySem.Spec PyProof.Rows L2
/-- plain signs -/
def asc (z : Str) : Prop := ∀ c ∈ z.cps.toList, c < 128
/-- one to eight plain signs -/
def Nm (z : Str) : Prop := 1 ≤ z.length ∧ z.length ≤ 8 ∧ asc z
instance (z : Str) : Decidable (asc z) := inferInstanceAs (Decidable (∀ c ∈ z.cps.toList, c < 128))
instance (z : Str) : Decidable (Nm z) := inferInstanceAs (Decidable (_ ∧ _ ∧ _))
def spLaw (K : PySem.W.Frag) : Sp := fun vs H Q _ => ∃ (a : Addr) (ns : List Int), vs = [.ref a] ∧ SqL K H a (ns.map V.int) ∧ ns.length ≤ 63 ∧ ∀ H', Q (.bl true) H'
theorem Same.sqt {K : PySem.W.Frag} {H H' : Hp} {a : Addr} {xs : List V} (e : Same H H') (h : SqT K H a xs) : SqT K H' a xs := by
  rcases h with (h | ⟨o, h⟩) | h
  · exact .inl (.inl (e _ _ h))
  · exact .inl (.inr ⟨o, e _ _ h⟩)
  · exact .inr h
theorem lc_of {J : It} {n : Nat} {G : Hp → Prop} {Y : Nat → Hp → V → Hp → Prop} {g : TG} {tb : TS} {D : Ends} {σ : L2.St} {H : Hp} (w : Walk J n G Y) (Pv : Nat → L2.St → Hp → Prop) (h0 : Pv 0 σ H) (hG : ∀ i σ H, i ≤ n → Pv i σ H → G H)
    (hs : ∀ i x σ H H', i < n → Pv i σ H → Y i H x H' → g x σ H' fun σ2 H2 => tb { D with nx := Pv (i + 1), ct := Pv (i + 1), bk := D.nx } σ2 H2) (hd : ∀ σ H, Pv n σ H → D.nx σ H) : FR J g tb D σ H := for_it w Pv h0 hG hs hd
theorem mem_cut {xs : List V} {lo hi : Option Int} {x : V} (h : x ∈ cutV xs lo hi) : x ∈ xs := List.mem_of_mem_drop (List.mem_of_mem_take h)
end G


namespace G
open PySem PySem.Spec PyProof.Rows L2 PySem.StrLaws
theorem len_app (a b : Str) : (a ++ b).length = a.length + b.length := by
  show (a.cps ++ b.cps).size = _
  rw [Array.size_append]
  rfl
theorem len_cut (z : Str) (lo hi : Option Int) : (cutS z lo hi).length ≤ z.length := by
  show (List.toArray _).size ≤ _
  rw [List.size_toArray, List.length_take, List.length_drop, Array.length_toList]
  have : z.length = z.cps.size := rfl
  omega
theorem len_cut_to (z : Str) (n : Nat) : (cutS z none (some (n : Int))).length ≤ n := by
  show (List.toArray _).size ≤ _
  rw [List.size_toArray, List.length_take]
  refine Nat.le_trans (Nat.min_le_left _ _) ?_
  show HT.sIx z.length z.length (some (n : Int)) - HT.sIx z.length 0 none ≤ n
  have h : HT.sIx z.length z.length (some (n : Int)) ≤ n := by
    unfold HT.sIx
    simp
    rw [if_neg (by omega)]
    exact Nat.min_le_left _ _
  omega
theorem len_join (ys : List Str) : (Txt.join (Str.ofString "") ys).length = (ys.map (·.length)).sum := by
  have h := size_glued (Str.ofString "") ys
  have e : (Str.ofString "").length = 0 := by decide
  rw [e, Nat.mul_zero, Nat.add_zero] at h
  exact h
/-- signs as texts -/
theorem sum_ones : ∀ {cs : List Nat}, ((cs.map fun c => (⟨#[c]⟩ : Str)).map (·.length)).sum = cs.length
  | [] => rfl
  | c :: cs => by
    rw [List.map_cons, List.map_cons, List.sum_cons, sum_ones, List.length_cons]
    show 1 + _ = _
    omega
theorem asc_app {a b : Str} (ha : asc a) (hb : asc b) : asc (a ++ b) := by
  intro c hc
  have e : (a ++ b).cps.toList = a.cps.toList ++ b.cps.toList := by
    show (a.cps ++ b.cps).toList = _
    rw [Array.toList_append]
  rw [e] at hc
  rcases List.mem_append.mp hc with h | h
  · exact ha c h
  · exact hb c h
theorem cps_app (a b : Str) : (a ++ b).cps.toList = a.cps.toList ++ b.cps.toList := by
  show (a.cps ++ b.cps).toList = _
  rw [Array.toList_append]
theorem ok_asc {z : Str} (h : asc z) : PyData.strOk z = true := by
  unfold PyData.strOk
  rw [← Array.all_toList, List.all_eq_true]
  intro c hc
  have := h c hc
  exact decide_eq_true (by omega)
theorem Nm.len {z : Str} (h : Nm z) : z.length ≤ 8 := h.2.1
end G


namespace G
open PySem PySem.Spec PyProof.Rows L2
theorem nodup_le {α : Type} [DecidableEq α] : ∀ (s l : List α), s.Nodup → (∀ x ∈ s, x ∈ l) → s.length ≤ l.length
  | [], _, _, _ => Nat.zero_le _
  | x :: s, l, nd, h => by
    have hx : x ∈ l := h x (by simp)
    have nd' := List.nodup_cons.mp nd
    have := nodup_le s (l.erase x) nd'.2 fun y hy => by
      refine (List.mem_erase_of_ne ?_).mpr (h y (by simp [hy]))
      rintro rfl
      exact nd'.1 hy
    rw [List.length_erase_of_mem hx] at this
    have := List.length_pos_of_mem hx
    simp
    omega
theorem pigeon {α : Type} [DecidableEq α] (f : Nat → α) (n : Nat) (l : List α) (inj : ∀ i j, i < n → j < n → f i = f j → i = j) (h : l.length < n) : ∃ i, i < n ∧ f i ∉ l := by
  refine Classical.byContradiction fun no => ?_
  have all : ∀ i, i < n → f i ∈ l := fun i hi => Classical.byContradiction fun z => no ⟨i, hi, z⟩
  have nd : ((List.range n).map f).Nodup := by
    rw [List.nodup_iff_pairwise_ne, List.pairwise_map]
    refine List.Pairwise.imp_of_mem ?_ List.nodup_range
    intro a b ha hb ne e
    exact ne (inj a b (List.mem_range.mp ha) (List.mem_range.mp hb) e)
  have := nodup_le _ l nd fun x hx => by
    obtain ⟨i, hi, rfl⟩ := List.mem_map.mp hx
    exact all i (List.mem_range.mp hi)
  simp at this
  omega
theorem app_inj {a b c : Str} (h : a ++ b = a ++ c) : b = c := by
  have h : a.cps ++ b.cps = a.cps ++ c.cps := congrArg Str.cps h
  have h := congrArg Array.toList h
  rw [Array.toList_append, Array.toList_append] at h
  have h2 : b.cps.toList = c.cps.toList := List.append_cancel_left h
  exact Str.ext' (Array.toList_inj.mp h2)
theorem inV_strs {s : Str} {zs : List Str} : inV (.str s) (zs.map V.str) = decide (s ∈ zs) := by
  unfold inV
  rw [List.any_map, Bool.eq_iff_iff, List.any_eq_true, decide_eq_true_eq]
  constructor
  · rintro ⟨x, hx, e⟩
    have e : (x == s) = true := e
    rw [beq_iff_eq] at e
    rw [← e]
    exact hx
  · intro h
    exact ⟨s, h, by show (s == s) = true; simp⟩
theorem flat_strs {zs : List Str} : (zs.map V.str).all flatV = true := by
  rw [List.all_map, List.all_eq_true]
  intro x _
  rfl
theorem small_log {j : Int} (h0 : 0 ≤ j) (h : j < 1000) : j.natAbs.log2 < 1920 := by
  have := Nat.log2_le_self j.natAbs
  omega
/-- a filter -/
theorem lcF {σ : L2.St} {H : Hp} {Q : VK} {tt : TT} {vs : List Nat} {n : Nat} {J : It} {xs : List V} {G : Hp → Prop} (w : Walk J xs.length G (YAt xs)) (b : V → Bool) (hG : ∀ H1, Same H H1 → G H1) (hl : xs.length ≤ 1000000)
    (hw : ∀ v : V, wipe ((wipe σ vs).set n (some v)) vs = wipe σ vs) (hv : ∀ v : V, ((wipe σ vs).set n (some v))[n]? = some (some v))
    (hs : ∀ x H1 (Q1 : Bool → Hp → Prop), x ∈ xs → Same H H1 → (∀ H2, Same H1 H2 → Q1 (b x) H2) → tt ((wipe σ vs).set n (some x)) H1 Q1)
    (h : ∀ D H', H D = none → Same H H' → H' D = some (.lst (xs.filter b)) → Q (.ref D) H') : LC J (gName n) tt (tVar n) vs σ Q H := by
  intro D hD
  refine lc_it w (fun i H1 => Same H H1 ∧ H1 D = some (.lst ((xs.take i).filter b))) ⟨?_, upd_same⟩ (fun i H1 _ q => hG H1 q.1) ?_ ?_
  · intro a o e
    rw [upd_ne (ne_of_none e hD)]
    exact e
  · rintro i x H1 H2 hi ⟨r, hd⟩ ⟨rfl, hx⟩
    have et : xs.take (i + 1) = xs.take i ++ [x] := by rw [List.take_add_one, hx]; rfl
    refine ⟨hw x, hs x H2 _ (List.mem_of_getElem? hx) r fun H3 r3 => ?_⟩
    refine ite_b (fun e => ?_) (fun e => ?_)
    · refine ⟨x, hv x, _, r3 _ _ hd, ?_, ?_, ?_⟩
      · have := List.length_filter_le b (xs.take i)
        rw [List.length_take] at this
        exact sz2 (by omega)
      · intro a o ea
        rw [upd_ne (ne_of_none ea hD)]
        exact r3 _ _ (r _ _ ea)
      · rw [upd_same, et, List.filter_append, List.filter_cons, if_pos e, List.filter_nil]
    · refine ⟨r.trans r3, ?_⟩
      rw [r3 _ _ hd, et, List.filter_append, List.filter_cons, if_neg (by rw [e]; exact Bool.false_ne_true), List.filter_nil, List.append_nil]
  · rintro H1 ⟨r, hd⟩
    rw [List.take_length] at hd
    exact h D H1 hD r hd
theorem dp_strs {K : PySem.W.Frag} {H : Hp} : ∀ {zs : List Str}, DpAll K H (zs.map V.str) (zs.map PyData.str)
  | [] => .nil
  | z :: zs => .cons (.str z) dp_strs
/-- ways that meet behind a statement -/
theorem s_seqJ {t u : TS} {D : Ends} {σ : L2.St} {H : Hp} (Pj : L2.St → Hp → Prop) (hu : ∀ σ' H', Pj σ' H' → u D σ' H') (ht : ∀ N : L2.St → Hp → Prop, (∀ σ' H', Pj σ' H' → N σ' H') → t { D with nx := N } σ H) : tSeq t u D σ H := ht (u D) hu
theorem s_seqIf {tt : TT} {t u v : TS} {D : Ends} {σ : L2.St} {H : Hp} (h : tSeq (tIfS tt t u) v D σ H) : tSeq (tIfS tt t u) v D σ H := h
theorem canLay_strs : ∀ {zs : List Str}, (∀ z ∈ zs, asc z) → PyData.canLayAll0 (zs.map PyData.str) = true ∧ PyData.depthAll (zs.map PyData.str) = 0
  | [], _ => ⟨rfl, rfl⟩
  | z :: zs, h => by
    obtain ⟨a, b⟩ := canLay_strs (zs := zs) fun y hy => h y (by simp [hy])
    constructor
    · show (PyData.strOk z && PyData.canLayAll0 (zs.map PyData.str)) = true
      rw [ok_asc (h z (by simp)), a]
      rfl
    · show max 0 (PyData.depthAll (zs.map PyData.str)) = 0
      rw [b]
      rfl
theorem shaped_strs {zs : List Str} (h : ∀ z ∈ zs, asc z) : SeqAt.shaped (.list (zs.map PyData.str)) = true := by
  obtain ⟨a, b⟩ := canLay_strs h
  show (PyData.canLayAll0 (zs.map PyData.str) && decide (PyData.depthAll (zs.map PyData.str) + 1 ≤ 64)) = true
  rw [a, b]
  rfl
end G


namespace G
open PySem PySem.Spec PyProof.Rows L2
theorem Th.str {A : Addr → Prop} {H : Hp} {z : Str} (h : z.length ≤ 100000) : ∀ {n : Nat}, Th A H n (.str z)
  | 0 => h
  | _ + 1 => h
theorem Th.int {A : Addr → Prop} {H : Hp} {i : Int} : ∀ {n : Nat}, Th A H n (.int i)
  | 0 => trivial
  | _ + 1 => trivial
/-- repr of a list of bools -/
def bsD (bs : List Bool) : PyData := .list (bs.map PyData.bool)
theorem dp_bls {K : PySem.W.Frag} {H : Hp} : ∀ {bs : List Bool}, DpAll K H (bs.map V.bl) (bs.map PyData.bool)
  | [] => .nil
  | b :: bs => .cons (.bl b) dp_bls
theorem has_fg {P : Program} {w : World} {K : PySem.W.Frag} {mg : Str → Option Value} {base : Heap} {CX : CXT} {x : Str} {st : Stmt} {ps : List Str} {k : Nat} {sp : Sp} {f : Addr} {fd : FuncData}
    (F : Fun K x x st f fd) (hm : mg x = some (.ref f)) (h : Has P w K mg base CX x st ps k sp) : Fg P w K mg base CX k f fd ps sp := by
  obtain ⟨f', fd', h⟩ := h
  have e := h.at_.symm.trans hm
  cases e
  obtain ⟨_, _, _, _, _, _, _, _, _, _, l1, _⟩ := F.ex
  obtain ⟨_, _, _, _, _, _, _, _, _, _, l2, _⟩ := h.fn.ex
  rw [l1] at l2
  cases l2
  exact h.ok
end G


namespace G
open PySem PySem.Spec PyProof.Rows L2
section
variable {prog : Program} {w : World} {K : Type} [DecidableEq K] {knd : KeyKind prog w K} {A : Around} {E : Value → Shared → Prop} {s : Shared}
/-- a key that is not there yet -/
theorem wpAny_putNew {d : Addr} {kvs : List (K × Value)} {k : K} {key v : Value} {Q : Unit → Shared → Prop} (hkey : knd.is k key = true) (hm : s.heap.DictOf knd d kvs) (hnew : k ∉ kvs.map (·.1))
    (hQ : ∀ h', h'.DictOf knd d (kvs ++ [(k, v)]) → Heap.SameBut d s.heap h' → Q () { s with heap := h' }) (hsz : kvs.length ≤ sizeLine) :
    wpAny (model prog w) A (dictPut d (knd.hash k) key v) Q E s := by
  obtain ⟨o, es, ep, ho, hc, hd, hk, hp, hn⟩ := hm
  have hl := hp.length
  have hes : es.size ≤ sizeLine := by
    rw [Array.length_toList] at hl
    omega
  have hidx : (es.findIdx? fun e => knd.is k e.key) = kvs.findIdx? fun kv => decide (kv.1 = k) := by
    rw [← hp.findIdx k]
    obtain ⟨l⟩ := es
    simp
  have hnone : (es.findIdx? fun e => knd.is k e.key) = none := by
    rw [hidx, List.findIdx?_eq_none_iff]
    intro x hx
    refine decide_eq_false ?_
    rintro rfl
    exact hnew (List.mem_map.mpr ⟨x, hx, rfl⟩)
  unfold dictPut
  refine wpAny_bind (wpAny_dictFind_of hkey ho hd hk ?_)
  rw [hnone]
  refine wpAny_updateDictKeys (hz := hes) ho hd (hQ _ ⟨_, _, ep + 1, Heap.get?_update_self _ ho (Obj.isFreed_of_dict (Obj.data_mapDictKeys hd _)), hc.mapDictKeys _, Obj.data_mapDictKeys hd _, hk.push hkey _, ?_, ?_⟩ (Heap.SameBut.update ..))
  · have := hp.append hkey (knd.hash k) v
    obtain ⟨l⟩ := es
    simpa using this
  · rw [List.map_append, List.nodup_append]
    refine ⟨hn, by simp, ?_⟩
    intro a ha b hb
    obtain rfl : b = k := by simpa using hb
    exact fun e => hnew (e ▸ ha)
theorem wp_merge {d a : Addr} {more : List (K × Value)} {Q : Unit → Shared → Prop} (ne : d ≠ a) (haS : (a == sysModules) = false)
    (hd : s.heap.DictOf knd d []) (ha : s.heap.DictOf knd a more) (hv : ∀ k v, knd.is k v = true → ∀ b, v ≠ .ref b)
    (hQ : ∀ h', h'.DictOf knd d more → Heap.SameBut d s.heap h' → Q () { s with heap := h' }) (hsz : more.length ≤ sizeLine) :
    wpAny (model prog w) A (mergeMapping d (.ref a) true) Q E s := by
  obtain ⟨od, esd, epd, hod, hcd, hdd, hkd, hpd, hnd⟩ := id hd
  obtain ⟨oo, eso, epo, hoo, hco, hdo', hko, hpo, hno⟩ := id ha
  have hlen : more.length = eso.size := by
    rw [← hpo.length]
    simp
  have tyA : s.TypeIs (.ref a) "dict" := ha.typeIs
  unfold mergeMapping
  refine wpAny_bind (wpAny_isInstance tyA (b := true) (by first | rfl | with_unfolding_all rfl | decide) ?_)
  simp only [if_true]
  refine wpAny_bind (wpAny_specialOf tyA F.slot_dict_iter.lookup ?_)
  refine wpAny_bind (wpAny_pure ?_)
  have e1 : (some (Value.builtin "dict.__iter__") == some (Value.builtin "dict.__iter__")) = true := by decide +kernel
  rw [e1]
  simp only []
  rw [if_neg (by rw [haS]; exact Bool.false_ne_true)]
  refine wpAny_bind (wpAny_dictEntries hod hdd ?_)
  have hemp : esd.isEmpty = true := by
    have := hpd.length
    rw [Array.length_toList] at this
    simpa using this
  rw [if_pos hemp]
  refine wpAny_bind (wpAny_dictEntries hoo hdo' ?_)
  refine wpAny_bind ?_
  rw [← Array.forIn_toList]
  refine wpAny_forIn_list _ (fun rest _ s' => s' = s ∧ ∀ e ∈ rest, e ∈ eso.toList) _ ?_ ?_ _ _ ⟨rfl, fun e he => he⟩
  · rintro e rest b s' ⟨rfl, hin⟩
    have he : e ∈ eso.toList := hin e (by simp)
    obtain ⟨k, hkey, _⟩ := hko e (by simpa using he)
    have nr := hv k e.key hkey
    split
    · rename_i z q
      exact (nr z q).elim
    · exact wpAny_pure ⟨rfl, fun x hx => hin x (by simp [hx])⟩
  · rintro b s' ⟨rfl, _⟩
    refine wpAny_bind (wpAny_dictEntries hoo hdo' ?_)
    refine wpAny_bind (wpAny_dictEpoch hoo hdo' ?_)
    refine wpAny_bind ?_
    refine wpAny_forIn_list _ (fun rest _ s2 => ∃ h' i, s2 = { s' with heap := h' } ∧ rest = List.range' i (eso.size - i) ∧ i ≤ eso.size ∧ h'.DictOf knd d (more.take i) ∧ h'.get? a = some oo ∧ Heap.SameBut d s'.heap h')
      _ ?_ ?_ _ _ ⟨s'.heap, 0, rfl, by rw [List.range_eq_range']; rfl, Nat.zero_le _, by simpa using hd, hoo, Heap.SameBut.refl _ _⟩
    · rintro x rest b s2 ⟨h', i, rfl, hr, hi, hd', hoo', hs'⟩
      have hlt : i < eso.size := by
        rcases Nat.lt_or_ge i eso.size with h | h
        · exact h
        · rw [Nat.sub_eq_zero_of_le h] at hr
          simp at hr
      obtain ⟨rfl, hrest⟩ : x = i ∧ rest = List.range' (i + 1) (eso.size - (i + 1)) := by
        have e : eso.size - i = (eso.size - (i + 1)) + 1 := by omega
        rw [e, List.range'_succ] at hr
        injection hr with h1 h2
        exact ⟨h1, h2⟩
      refine wpAny_bind (wpAny_dictEntries hoo' hdo' ?_)
      rw [Array.getElem?_eq_getElem hlt]
      have hxm : x < more.length := by rw [hlen]; exact hlt
      obtain ⟨kv, hkv⟩ : ∃ kv, more[x]? = some kv := ⟨more[x], List.getElem?_eq_getElem _⟩
      obtain ⟨k, v⟩ := kv
      obtain ⟨hkey, hval⟩ := hpo.get? (e := eso[x]) (by simp [hlt]) hkv
      obtain ⟨k', hkey', hhash⟩ := hko eso[x] (Array.getElem_mem hlt)
      obtain rfl : k' = k := knd.inj _ _ _ hkey' hkey
      have hsplit : more = more.take x ++ (k', v) :: more.drop (x + 1) := by
        have e := List.take_append_drop x more
        rw [List.drop_eq_getElem_cons hxm] at e
        have e2 : more[x] = (k', v) := by
          rw [List.getElem?_eq_getElem hxm] at hkv
          exact Option.some.inj hkv
        rw [e2] at e
        exact e.symm
      have hnew : k' ∉ (more.take x).map (·.1) := by
        rw [hsplit, List.map_append, List.nodup_append] at hno
        intro hm
        exact hno.2.2 k' hm k' (by simp) rfl
      have htl : (more.take x).length ≤ sizeLine := by
        rw [List.length_take]
        omega
      obtain ⟨o2, es2, ep2, ho2, hc2, hd2, hk2, hp2, hn2⟩ := id hd'
      have hidx : (es2.findIdx? fun e => knd.is k' e.key) = none := by
        have : (es2.findIdx? fun e => knd.is k' e.key) = (more.take x).findIdx? fun kv => decide (kv.1 = k') := by
          rw [← hp2.findIdx k']
          obtain ⟨l⟩ := es2
          simp
        rw [this, List.findIdx?_eq_none_iff]
        intro y hy
        refine decide_eq_false ?_
        rintro rfl
        exact hnew (List.mem_map.mpr ⟨y, hy, rfl⟩)
      show wpAny _ _ (holding [eso[x].key, eso[x].val] _ >>= _) _ _ _
      rw [hhash, hval]
      refine wpAny_bind (wpAny_holding (wpAny_bind (wpAny_dictFind_of hkey' ho2 hd2 hk2 ?_)))
      rw [hidx]
      refine (wpAny_putNew (hsz := htl) hkey' hd' hnew fun h'' hd'' hs'' => ?_)
      have hoo'' : h''.get? a = some oo := (hs''.2 a (Ne.symm ne)).trans hoo'
      refine wpAny_bind (wpAny_dictEpoch hoo'' hdo' ?_)
      rw [if_neg (by simp)]
      refine wpAny_pure ⟨h'', x + 1, rfl, hrest, hlt, ?_, hoo'', hs'.trans hs''⟩
      have e : more.take (x + 1) = more.take x ++ [(k', v)] := by rw [List.take_add_one, hkv]; rfl
      rw [e]
      exact hd''
    · rintro b s2 ⟨h', i, rfl, hr, hi, hd', hoo', hs'⟩
      have hin : i = eso.size := by
        rcases Nat.lt_or_ge i eso.size with h | h
        · have e : eso.size - i = (eso.size - (i + 1)) + 1 := by omega
          rw [e, List.range'_succ] at hr
          exact nomatch hr
        · exact Nat.le_antisymm hi h
      refine wpAny_pure (hQ h' ?_ hs')
      rw [hin, ← hlen, List.take_length] at hd'
      exact hd'
end
end G


namespace G
open PySem PySem.Spec PyProof.Rows L2
section
variable {prog : Program} {w : World} {A : Around} {E : Value → Shared → Prop} {s : Shared}
theorem mix_noref : ∀ k v, (mixKind prog w).is k v = true → ∀ b, v ≠ Value.ref b := by
  intro k v h b e
  rcases keyIs_shape h with ⟨i, t, _, q⟩ | ⟨x, t, _, q⟩
  · rw [q] at e; cases e
  · rw [q] at e; cases e
theorem wp_nsSetNew {d : Addr} {kvs : List (Key × Value)} {k : Str} {v : Value} {Q : Unit → Shared → Prop} (hm : s.heap.DictOf (mixKind prog w) d kvs) (hnew : (Sum.inr k : Key) ∉ kvs.map (·.1))
    (hQ : ∀ h', h'.DictOf (mixKind prog w) d (kvs ++ [(Sum.inr k, v)]) → Heap.SameBut d s.heap h' → Q () { s with heap := h', toks := s.toks + 1 }) :
    wpAny (model prog w) A (nsSet d k v) Q E s := by
  obtain ⟨o, es, ep, ho, hc, hd, hk, hp, hn⟩ := hm
  unfold nsSet
  refine wpAny_bind ?_
  unfold strHash
  refine wpAny_bind (wpAny_askSetting (wpAny_pure ?_))
  refine wpAny_bind (wpAny_mkText ?_)
  refine wpAny_bind (wpAny_loadPart ho ?_)
  rw [hd]
  have hall : ∀ e ∈ es, e.refKey = false := by
    intro e he
    obtain ⟨k', hk', _⟩ := hk e he
    have nr := mix_noref (prog := prog) (w := w) k' e.key hk'
    unfold DictEntry.refKey
    split
    · rename_i z q
      exact (nr z q).elim
    · rfl
  have hmay : aRefKeyMayBeTheName k es = false := by
    rw [aRefKeyMayBeTheName_at]
    have : es.any (·.refKey) = false := by
      rw [Array.any_eq_false']
      intro e he
      rw [hall e he]
      exact Bool.false_ne_true
    rw [this, Bool.and_false]
  dsimp only
  rw [if_neg (by rw [hmay]; exact Bool.false_ne_true)]
  have hnone : es.findIdx? (·.key.isStr k) = none := by
    rw [Array.findIdx?_eq_none_iff]
    intro e he
    obtain ⟨k', hk', _⟩ := hk e he
    cases q : e.key.isStr k with
    | false => rfl
    | true =>
      have hk2 : (mixKind prog w).is (Sum.inr k) e.key = true := by
        show Value.isStrOf k e.key = true
        cases z : e.key with
        | str y t => rw [z] at q; exact q
        | _ => rw [z] at q; cases q
      have ek : (Sum.inr k : Key) = k' := (mixKind prog w).inj _ _ _ hk2 hk'
      have hpos := hp.findIdx (Sum.inr k)
      have hmem : e ∈ es.toList := by simpa using he
      cases hf : (es.toList.findIdx? fun e => (mixKind prog w).is (Sum.inr k) e.key) with
      | none =>
        rw [List.findIdx?_eq_none_iff] at hf
        rw [hf e hmem] at hk2
        cases hk2
      | some i =>
        rw [hf] at hpos
        have := hpos.symm
        rw [List.findIdx?_eq_some_iff_getElem] at this
        obtain ⟨hi, hb, _⟩ := this
        have hb := of_decide_eq_true hb
        exact (hnew (List.mem_map.mpr ⟨kvs[i], List.getElem_mem hi, hb⟩)).elim
  refine wpAny_updatePart ho ?_
  have hkey : (mixKind prog w).is (Sum.inr k) (Value.str k s.toks) = true := mixKind_str prog w k s.toks
  have hput : Obj.putName k (hashStr w k) (Value.str k s.toks) v o = { o with data := .dict (es.push ⟨hashStr w k, .str k s.toks, v⟩) (ep + 1) } := by
    rw [Obj.putName_eq]
    obtain ⟨c, dd, dt, sl⟩ := o
    simp only at hd
    subst hd
    unfold Obj.putNameByArray
    simp only [hnone]
  have hget := Heap.get?_update_self (h := s.heap) (a := d) (Obj.putName k (hashStr w k) (Value.str k s.toks) v) ho (by rw [hput]; rfl)
  refine hQ _ ⟨_, _, ep + 1, hget.trans (congrArg some hput), ?_, rfl, hk.push hkey _, ?_, ?_⟩ (Heap.SameBut.update ..)
  · exact hc
  · have := hp.append hkey (hashStr w k) v
    obtain ⟨l⟩ := es
    simpa using this
  · rw [List.map_append, List.nodup_append]
    refine ⟨hn, by simp, ?_⟩
    intro a ha b hb
    obtain rfl : b = Sum.inr k := by simpa using hb
    exact fun e => hnew (e ▸ ha)
/-- pairs by text -/
def inrs {α : Type} (zs : List (Str × α)) : List (Key × α) := zs.map fun p => (Sum.inr p.1, p.2)
theorem inrs_fst {α : Type} (zs : List (Str × α)) : (inrs zs).map (·.1) = zs.map fun p => (Sum.inr p.1 : Key) := by
  unfold inrs
  rw [List.map_map]
  rfl
/-- the keywords of a dict -/
theorem wp_keywordsIn {d : Addr} {f : Value} {zs : List (Str × Value)} {Q : List (Str × Value) → Shared → Prop} (hd : s.heap.DictOf (mixKind prog w) d (inrs zs)) (h : Q zs s) : wpAny (model prog w) A (keywordsIn f d) Q E s := by
  obtain ⟨o, es, ep, ho, hc, hdd, hk, hp, hn⟩ := hd
  unfold keywordsIn
  refine wpAny_bind (wpAny_dictEntries ho hdd ?_)
  refine wpAny_bind ?_
  rw [← Array.forIn_toList]
  have hlen := hp.length
  refine wpAny_forIn_list _ (fun rest b s' => s' = s ∧ ∃ i, rest = es.toList.drop i ∧ i ≤ es.toList.length ∧ b = zs.take i) _ ?_ ?_ _ _ ⟨rfl, 0, rfl, Nat.zero_le _, rfl⟩
  · rintro e rest b s' ⟨rfl, i, hr, hi, rfl⟩
    have hlt : i < es.toList.length := by
      rcases Nat.lt_or_ge i es.toList.length with q | q
      · exact q
      · rw [List.drop_eq_nil_of_le q] at hr
        cases hr
    rw [List.drop_eq_getElem_cons hlt] at hr
    injection hr with h1 h2
    subst h1
    have hzl : i < zs.length := by
      rw [hlen] at hlt
      simpa [inrs] using hlt
    have hkv : (inrs zs)[i]? = some (Sum.inr zs[i].1, zs[i].2) := by
      simp [inrs, hzl]
    obtain ⟨hkey, hval⟩ := hp.get? (e := es.toList[i]) (by simp [hlt]) hkv
    obtain ⟨t, ht⟩ := Value.isStrOf_shape (show Value.isStrOf zs[i].1 es.toList[i].key = true from hkey)
    rw [ht]
    refine wpAny_pure ⟨rfl, i + 1, h2, hlt, ?_⟩
    have e2 : zs.take (i + 1) = zs.take i ++ [zs[i]] := by rw [List.take_add_one, List.getElem?_eq_getElem hzl]; rfl
    rw [hval, e2]
  · rintro b s' ⟨rfl, i, hr, hi, rfl⟩
    have hin : es.toList.length ≤ i := by
      rcases Nat.lt_or_ge i es.toList.length with q | q
      · rw [List.drop_eq_getElem_cons q] at hr
        cases hr
      · exact q
    have e : zs.take i = zs := List.take_of_length_le (by rw [hlen] at hin; simpa [inrs] using hin)
    rw [e]
    exact wpAny_pure h
end
end G


namespace G
open PySem PySem.Spec PyProof.Rows L2 StX
/-- a def's promise by its arguments as they are passed: by position, by keywords -/
def FkB (gb : Bool) (P : Program) (w : World) (K : PySem.W.Frag) (mg : Str → Option Value) (base : Heap) (CX : CXT) (k : Nat) (f : Addr) (sp : List V → List (Str × V) → Hp → VK → XK → Prop) : Prop :=
  ∀ (A : Around) (outer : List Env) (s : Shared) (H : Hp) (us : List Value) (vs : List V) (zs : List (Str × Value)) (ys : List (Str × V)) (Q : VK) (E : XK),
    Room k A → GdB gb A → Env0 P w K mg base A outer s H → Vals vs us → KV ys zs → sp vs ys H Q E → codeAny (model P w) A (.call (.ref f) ⟨us, zs⟩) (CR CX outer P w H s Q E) s
abbrev Fk := FkB true
section
variable {CX : CXT} {P : Program} {w : World} {K : PySem.W.Frag} {mg : Str → Option Value} {base : Heap} {k : Nat} {f : Addr} {fn qual : Str} {params : Arguments} {body : List Stmt} {scope : Scope} {dV kV doc pm cdv ct oc : Value} {an od : Option Addr}
  {osl : Array (Option Value)} {N ps : List Str}
theorem run_bndG {gb : Bool} {A : Around} {outer : List Env} {s : Shared} {H : Hp} {args : Args} {Q : VK} {E : XK} {Gv : List V → Hp → Prop}
    (lk : K.lookup f = some ⟨oc, od, .func (PySem.W.fnOf fn qual params body scope dV kV doc pm an cdv ct), osl⟩) (hcd : PySem.W.codeIn K cdv qual = true)
    (S : FnScope N ps scope) (hr : Room (k + 1) A) (hgd : GdB gb A) (e0 : Env0 P w K mg base A outer s H)
    (hb : Bnd CX P w K mg base (PySem.W.fnOf fn qual params body scope dV kV doc pm an cdv ct) args ps A outer s H E Gv)
    (hbody : ∀ (s2 : Shared) (H2 : Hp) (vs : List V), Gv vs H2 → Room k (A.deeper (envOfC qual scope s2.heap.objs.size f cdv)) → GdB gb (A.deeper (envOfC qual scope s2.heap.objs.size f cdv)) →
      ∃ t, PSs (cxOf CX P w K mg base N qual scope f cdv A outer s2 H2 E) body t ∧ t { nx := fun _ H' => Q .non H', rt := Q } (start N vs) H2) :
    codeAny (model P w) A (.call (.ref f) args) (CR CX outer P w H s Q E) s := by
  have KX : K.In s.heap := e0.mod.kin.keeps fun b o e => (e0.bs b o e).1
  apply codeAny_call_function hr.depth (KX _ _ lk) rfl S.co S.gen rfl (PySem.W.codeRec_of KX hcd)
  apply hb
  intro s2 H2 vs us e2 un ho hx r hl g
  have lim : s2.heap.NoLimit := e0.mod.nolimit.keeps fun b o e => (e2.bs b o e).1
  have hkind : ∀ y ∈ ps.zip us, scope.names.lookup y.1 = some .local ∨
      (scope.names.lookup y.1 = some .cell ∧ ((cellsFrom (s2.heap.objs.size + 1) scope.names []).lookup y.1).isSome = true) := by
    intro y hy
    cases S.par y.1 (List.of_mem_zip hy).1 with
    | inl q => exact Or.inl q
    | inr q => exact Or.inr ⟨q, PySem.W.cellsFrom_some _ _ _ (Or.inl q)⟩
  apply wpAny_newFunctionEnv_cells (s := s2) S.kind hkind
  intro env he s1 x
  subst he
  constructor
  · exact lim.keeps x.toInCall.keep
  apply codeAny_func
  obtain ⟨t, ht, hq⟩ := hbody s2 H2 vs g (hr.deeper _) hgd.deeper
  have I := inv_start (CX := CX) (E := E) S hr.hd e2 hl r x
  apply wpAny_mono (ht.run [] s1 _ _ _ I hq)
  · intro fl s' hs
    have fin : ∀ {σ' : L2.St} {H' : Hp} {v : V} {u : Value}, Inv (cxOf CX P w K mg base N qual scope f cdv A outer s2 H2 E) [] σ' H' s' →
        RelV v u → Q v H' → CE outer P w H s Q u s' := fun J rv q => ⟨_, _, J.os.trans ho, J.bare, un.trans J.base, J.hok, rv, q⟩
    cases fl with
    | ret u => obtain ⟨v, σ', H', J, rv, q⟩ := hs; exact fin J rv q
    | next => obtain ⟨σ', H', J, q⟩ := hs; exact fin (v := V.non) J rfl q
    | brk => obtain ⟨_, _, _, q⟩ := hs; exact q.elim
    | cont => obtain ⟨_, _, _, q⟩ := hs; exact q.elim
  · intro e s' hs
    exact wpAny_mono hs (fun _ s'' z => hx e s'' z) fun e' s'' z => hx e' s'' z
/-- the keywords that are left over, in a new dict -/
theorem wp_kwDict {prog : Program} {w : World} {A : Around} {E : Value → Shared → Prop} {d : Addr} : ∀ (zs acc : List (Str × Value)) (s : Shared) (Q : PUnit → Shared → Prop),
    s.heap.DictOf (mixKind prog w) d (inrs acc) → ((acc ++ zs).map (·.1)).Nodup →
    (∀ h' tk, h'.DictOf (mixKind prog w) d (inrs (acc ++ zs)) → Heap.SameBut d s.heap h' → Q PUnit.unit { s with heap := h', toks := tk }) →
    wpAny (model prog w) A (forIn zs PUnit.unit fun x (_ : PUnit) => (do nsSet d x.1 x.2; pure (ForInStep.yield PUnit.unit) : Sem (ForInStep PUnit))) Q E s
  | [], acc, s, Q, hd, hn, hQ => by
    rw [List.forIn_nil]
    refine wpAny_pure ?_
    have := hQ s.heap s.toks (by rw [List.append_nil]; exact hd) (Heap.SameBut.refl _ _)
    exact this
  | (k, v) :: zs, acc, s, Q, hd, hn, hQ => by
    rw [List.forIn_cons]
    have hnew : (Sum.inr k : Key) ∉ (inrs acc).map (·.1) := by
      rw [inrs_fst]
      intro hm
      obtain ⟨p, hp, e⟩ := List.mem_map.mp hm
      have e : p.1 = k := Sum.inr.inj e
      rw [List.map_append, List.nodup_append] at hn
      exact hn.2.2 p.1 (List.mem_map.mpr ⟨p, hp, rfl⟩) k (by simp) e
    refine wpAny_bind (wpAny_bind (wp_nsSetNew hd hnew fun h' hd' hs' => wpAny_pure ?_))
    have e1 : inrs acc ++ [(Sum.inr k, v)] = inrs (acc ++ [(k, v)]) := by
      unfold inrs
      rw [List.map_append]
      rfl
    rw [e1] at hd'
    refine wp_kwDict zs (acc ++ [(k, v)]) { s with heap := h', toks := s.toks + 1 } Q hd' (by simpa using hn) ?_
    intro h'' tk hd'' hs''
    refine hQ h'' tk (by simpa using hd'') (hs'.trans hs'')
end
end G


namespace G
open PySem PySem.Spec PyProof.Rows L2 StX
section
variable {prog : Program} {w : World} {A : Around} {E : Value → Shared → Prop} {s : Shared}
theorem wp_bindKw {fd : FuncData} {a1 a2 : Arg} {u : Value} {zs : List (Str × Value)} {Q : List (Str × Value) → Shared → Prop}
    (hp : fd.params = { posonlyargs := [], args := [a1], vararg := none, kwonlyargs := [], kw_defaults := [], kwarg := some a2, defaults := [] }) (hdf : fd.defaults = .none)
    (hz : ∀ p ∈ zs, (p.1 == a1.arg) = false) (hn : (zs.map (·.1)).Nodup) (hl : zs.length ≤ sizeLine)
    (hQ : ∀ h' tk, h'.DictOf (mixKind prog w) s.heap.objs.size (inrs zs) → (∀ b o, s.heap.get? b = some o → h'.get? b = some o) → s.heap.objs.size < h'.objs.size → Q [(a1.arg, u), (a2.arg, .ref s.heap.objs.size)] { s with heap := h', toks := tk }) :
    wpAny (model prog w) A (bindArgs fd ⟨[u], zs⟩) Q E s := by
  unfold bindArgs
  simp only [hp, hdf]
  refine wpAny_bind ?_
  refine wpAny_forIn_list _ (fun rest b s' => s' = s ∧ ∃ i, rest = zs.drop i ∧ i ≤ zs.length ∧ b = ([(a1.arg, u)], zs.take i)) _ ?_ ?_ _ _ ⟨rfl, 0, rfl, Nat.zero_le _, rfl⟩
  · rintro ⟨k, v⟩ rest b s' ⟨rfl, i, hr, hi, rfl⟩
    have hlt : i < zs.length := by
      rcases Nat.lt_or_ge i zs.length with q | q
      · exact q
      · rw [List.drop_eq_nil_of_le q] at hr
        cases hr
    rw [List.drop_eq_getElem_cons hlt] at hr
    injection hr with h1 h2
    have hk : (k == a1.arg) = false := by
      have := hz zs[i] (List.getElem_mem hlt)
      rw [← h1] at this
      exact this
    have hc : ((List.map (fun x => x.arg) [a1]).contains k || (List.map (fun (x : Arg) => x.arg) []).contains k) = false := by
      simp only [List.map_cons, List.map_nil, List.contains_cons, List.contains_nil, Bool.or_false]
      exact hk
    dsimp only
    rw [if_neg (by rw [hc]; exact Bool.false_ne_true), if_pos (show (some a2).isSome = true from rfl)]
    refine wpAny_pure ⟨rfl, i + 1, h2, hlt, ?_⟩
    have e2 : zs.take (i + 1) = zs.take i ++ [zs[i]] := by rw [List.take_add_one, List.getElem?_eq_getElem hlt]; rfl
    rw [e2, ← h1]
  · rintro b s' ⟨rfl, i, hr, hi, rfl⟩
    have hin : zs.length ≤ i := by
      rcases Nat.lt_or_ge i zs.length with q | q
      · rw [List.drop_eq_getElem_cons q] at hr
        cases hr
      · exact q
    have e : zs.take i = zs := List.take_of_length_le hin
    rw [e]
    dsimp only
    refine wpAny_bind ?_
    show wpAny (model prog w) A (pure none) _ _ _
    refine wpAny_pure ?_
    rw [if_neg (by simp)]
    have hmiss : (List.filter (fun n => (List.lookup n [(a1.arg, u)]).isNone) [a1.arg]) = [] := by
      simp [List.lookup]
    rw [if_neg (by simp [List.lookup])]
    simp only [List.map_cons, List.map_nil, List.nil_append, List.length_cons, List.length_nil, Option.getD_none]
    simp only [List.drop_nil, List.length_nil, List.zip_nil_right, List.forIn_nil]
    refine wpAny_bind (wpAny_pure ?_)
    refine wpAny_bind (wpAny_pure ?_)
    rw [if_neg (by simp), if_neg (by omega)]
    refine wpAny_bind (wpAny_alloc ?_)
    have hnew := Heap.DictOf.new (knd := mixKind prog w) s'.heap
    refine wpAny_bind (wp_kwDict zs [] _ _ hnew (by simpa using hn) ?_)
    intro h' tk hd' hs'
    refine wpAny_pure ?_
    have keep : ∀ b o, s'.heap.get? b = some o → h'.get? b = some o := by
      intro b o eb
      rw [hs'.2 b (Nat.ne_of_lt (Heap.lt_size eb))]
      exact Heap.get?_push_of_some _ eb
    have hlt : s'.heap.objs.size < h'.objs.size := by
      obtain ⟨o, _, _, ho, _⟩ := hd'
      exact Heap.lt_size ho
    have := hQ h' tk (by simpa using hd') keep hlt
    have e3 : List.filterMap (fun n => Option.map (fun x => (n, x)) (List.lookup n [(a1.arg, u)])) ([a1.arg] ++ []) ++ [(a2.arg, Value.ref s'.heap.objs.size)] = [(a1.arg, u), (a2.arg, Value.ref s'.heap.objs.size)] := by
      simp [List.lookup]
    rw [e3]
    exact this
end
end G


namespace G
open PySem PySem.Spec PyProof.Rows L2 StX
section
variable {P : Program} {w : World} {K : PySem.W.Frag} {mg : Str → Option Value} {base : Heap} {A : Around} {outer : List Env} {s : Shared} {H : Hp}
theorem env0_new {a : Addr} {u : HO} {h' : Heap} {tk : Nat} (e0 : Env0 P w K mg base A outer s H) (kp : ∀ b x, s.heap.get? b = some x → h'.get? b = some x) (ha : s.heap.objs.size ≤ a) (hz : s.heap.objs.size ≤ h'.objs.size)
    (new : ObjOk P w (upd H a u) h' a u) : Env0 P w K mg base A outer { s with heap := h', toks := tk } (upd H a u) := by
  refine ⟨e0.frames, e0.mod, ?_, Nat.le_trans e0.bsz hz, Heap.FunFrames.of_keeps (fun b x e _ => ⟨x, kp b x e, rfl⟩) e0.funs, ?_, e0.hok.laid kp ha new, e0.bare⟩
  · intro b x e
    have q := e0.bs b x e
    refine ⟨kp b x q.1, ?_⟩
    rw [upd_ne (Nat.ne_of_lt (Nat.lt_of_lt_of_le (Heap.lt_size q.1) ha))]
    exact q.2
  · intro b hb
    obtain ⟨_, x, hx, _⟩ := e0.funs.mem hb
    rw [upd_ne (Nat.ne_of_lt (Nat.lt_of_lt_of_le (Heap.lt_size hx) ha))]
    exact e0.frf b hb
end
section
variable {CX : CXT} {P : Program} {w : World} {K : PySem.W.Frag} {mg : Str → Option Value} {base : Heap} {k : Nat} {f : Addr} {fn qual : Str} {params : Arguments} {body : List Stmt} {scope : Scope} {kV doc pm cdv ct oc : Value} {an od : Option Addr}
  {osl : Array (Option Value)} {N : List Str}
theorem KV.fst {κ : Type} : ∀ {ys : List (κ × V)} {zs : List (κ × Value)}, KV ys zs → ys.map (·.1) = zs.map (·.1)
  | _, _, .nil => rfl
  | _, _, .cons h t => by rw [List.map_cons, List.map_cons, h.1, KV.fst t]
theorem KV.len {κ : Type} {ys : List (κ × V)} {zs : List (κ × Value)} (h : KV ys zs) : ys.length = zs.length := by
  have := congrArg List.length (KV.fst h)
  simpa using this
theorem KV.inrs : ∀ {ys : List (Str × V)} {zs : List (Str × Value)}, KV ys zs → KV (G.inrs ys) (G.inrs zs)
  | _, _, .nil => .nil
  | _, _, .cons h t => .cons ⟨congrArg Sum.inr h.1, h.2⟩ (KV.inrs t)
/-- def f(a, **d) -/
theorem fk_kw {gb : Bool} {a1 a2 : Arg} {sp : Sp} (lk : K.lookup f = some ⟨oc, od, .func (PySem.W.fnOf fn qual params body scope .none kV doc pm an cdv ct), osl⟩) (hcd : PySem.W.codeIn K cdv qual = true)
    (hp : params = { posonlyargs := [], args := [a1], vararg := none, kwonlyargs := [], kw_defaults := [], kwarg := some a2, defaults := [] })
    (S : FnScope N [a1.arg, a2.arg] scope) (hCX : CXUp CX)
    (hb : ∀ (A : Around) (outer : List Env) (s : Shared) (H : Hp) (vs : List V) (Q : VK) (E : XK), Room k (A.deeper (envOfC qual scope s.heap.objs.size f cdv)) → GdB gb (A.deeper (envOfC qual scope s.heap.objs.size f cdv)) →
      sp vs H Q E → ∃ t, PSs (cxOf CX P w K mg base N qual scope f cdv A outer s H E) body t ∧ t { nx := fun _ H' => Q .non H', rt := Q } (start N vs) H) :
    FkB gb P w K mg base CX (k + 1) f (fun vs ys H Q E => ∃ v, vs = [v] ∧ (∀ p ∈ ys, (p.1 == a1.arg) = false) ∧ (ys.map (·.1)).Nodup ∧ ys.length ≤ sizeLine ∧ ∀ d, H d = none → sp [v, .ref d] (upd H d (.dK (inrs ys))) Q E) := by
  intro A outer s H us vs zs ys Q E hr hgd e0 r rz hsp
  obtain ⟨v, rfl, hne, hnd, hln, hq⟩ := hsp
  obtain ⟨u, rfl, ru⟩ : ∃ u, us = [u] ∧ RelV v u := by
    cases r with
    | cons h t => cases t; exact ⟨_, rfl, h⟩
  have hn : H s.heap.objs.size = none := e0.hok.fresh (Nat.le_refl _)
  have ef := KV.fst rz
  have hne' : ∀ p ∈ zs, (p.1 == a1.arg) = false := by
    intro p hp'
    have : p.1 ∈ ys.map (·.1) := by rw [ef]; exact List.mem_map.mpr ⟨p, hp', rfl⟩
    obtain ⟨q, hq', e⟩ := List.mem_map.mp this
    rw [← e]
    exact hne q hq'
  refine run_bndG lk hcd S hr hgd e0 (Gv := fun xs H2 => ∃ d, H d = none ∧ xs = [v, .ref d] ∧ H2 = upd H d (.dK (inrs ys))) ?_ ?_
  · intro A' Ex Q' h
    refine wp_bindKw (a1 := a1) (a2 := a2) hp rfl hne' (by rw [← ef]; exact hnd) (by rw [← KV.len rz]; exact hln) ?_
    intro h' tk hd kp hlt
    have big := env0_big e0
    have new : ObjOk P w (upd H s.heap.objs.size (.dK (inrs ys))) h' s.heap.objs.size (.dK (inrs ys)) :=
      ⟨by unfold inrs; rw [List.length_map]; exact hln, beq_eq_false_iff_ne.mpr (Ne.symm (Nat.ne_of_lt big)), inrs zs, KV.inrs rz, hd⟩
    have un : Un (frs outer) [] H (upd H s.heap.objs.size (.dK (inrs ys))) s.heap h' := Un.laid kp (Nat.le_refl _) hn
    exact h { s with heap := h', toks := tk } _ [v, .ref s.heap.objs.size] [u, .ref s.heap.objs.size] (env0_new e0 kp (Nat.le_refl _) (Nat.le_of_lt hlt) new) un rfl (fun e s' => hCX outer s H _ _ E e s' un kp rfl) (.cons ru (.cons rfl .nil)) rfl ⟨_, hn, rfl, rfl⟩
  · rintro s2 H2 xs ⟨d, hd, rfl, rfl⟩ hr' hg'
    exact hb A outer s2 _ _ Q E hr' hg' (hq d hd)
end
section
variable {X : Cx} {CX : CXT} {k : Nat} {f C : Addr} {E : XK} {x : Str} {p pos kp : Pos} {e : Expr} {te : TE} {sp : List V → List (Str × V) → Hp → VK → XK → Prop}
theorem run_makeG {gb : Bool} {pins : List (Addr × Obj)} {σ : L2.St} {H : Hp} {s : Shared} {Q : VK} {us : List Value} {vs : List V} {zs : List (Str × Value)} {ys : List (Str × V)} (M : L2.Mk X.K C f) (F : FkB gb X.prog X.w X.K X.mg X.base CX k f sp) (hr : Room (k + 1) X.A) (hgd : GdB gb X.A) (hx : Passes CX X E)
    (I : Inv X pins σ H s) (r : Vals vs us) (rz : KV ys zs)
    (h : ∀ x dx, H x = none → H dx = none → dx ≠ x → sp (.ref x :: vs) ys (upd (upd H dx (.own x)) x (.ins C dx [])) (fun v H2 => v = .non ∧ Q (.ref x) H2) E) :
    wpAny (model X.prog X.w) X.A (call (.ref C) us zs) (EP X pins σ Q) X.xe s := by
  have hq := h (s.heap.objs.size + 1) s.heap.objs.size (I.hok.fresh (Nat.le_succ _)) (I.hok.fresh (Nat.le_refl _)) (Nat.ne_of_lt (Nat.lt_succ_self _))
  have I2 := Inv.made (C := C) I
  have gd2 : GdB gb (X.A.under (.builtin "type.__call__" ⟨.ref C :: us, zs⟩)) := hgd.under
  have run := F _ X.stack _ _ (Value.ref (s.heap.objs.size + 1) :: us) (V.ref (s.heap.objs.size + 1) :: vs) zs ys _ E (hr.make C us zs) gd2 (I2.env0.make C us zs) (.cons rfl r) rz hq
  refine wpAny_call (make_map (f := f) I.kIn M.makes M.init (beq_iff_eq.mp M.fn) (codeAny_mono run ?_))
  intro rs s' hq'
  cases rs with
  | error e => exact hx pins σ _ _ e s' I2 hq'
  | ok fl => cases fl with
    | ret u =>
      obtain ⟨v, H', I3, rv, ev, q3⟩ := I2.after hq'
      subst ev
      exact ⟨rv, ⟨V.ref (s.heap.objs.size + 1), H', I3, rfl, q3⟩⟩
    | next => exact hq'.elim
    | brk => exact hq'.elim
    | cont => exact hq'.elim
end
end G


namespace G
open PySem PySem.Spec PyProof.Rows L2 StX
def tMakeSS (C : Addr) (sp : List V → List (Str × V) → Hp → VK → XK → Prop) (E : XK) (te : TE) : TE := fun σ H Q => te σ H fun v H1 => ∃ d ys, v = .ref d ∧ H1 d = some (.dK (inrs ys)) ∧ ∀ x dx, H1 x = none → H1 dx = none → dx ≠ x →
  sp [.ref x] ys (upd (upd H1 dx (.own x)) x (.ins C dx [])) (fun v H2 => v = .non ∧ Q (.ref x) H2) E
theorem callWith_ss {M : Model} {A : Around} {E : Value → Shared → Prop} {s : Shared} {pos : Pos} {f : Value} {first : List Value} {Q : Value → Shared → Prop} {Ph : Heap → Prop} {args : List (Bool × Sem Value)} {keywords : List (Option Str × Sem Value)}
    (hst : (args.any (·.1) || keywords.any (·.1.isNone)) = true)
    (hk : ∀ h, Ph h → ∃ k, (k = Keeper.frame ∨ k = Keeper.machine ∨ k = Keeper.boundFrame) ∧ PySem.W.Looks M h (keeperOf f) k)
    (h : wpAny M A (evalArgs f true args keywords) (fun a s₁ => Ph s₁.heap ∧ wpAny M A (call f (first ++ a.pos) a.kw) Q E s₁) E s) : wpAny M A (callWith pos f first args keywords) Q E s := by
  unfold callWith
  refine wpAny_bind (wpAny_holding (wpAny_mono h ?_ fun _ _ x => x))
  intro a s₁ h₁
  refine wpAny_bind (wpAny_standAt ?_)
  obtain ⟨k, hk', L⟩ := hk _ h₁.1
  simp only [hst]
  refine wpAny_bind (L.here ?_)
  have tail : ∀ {t : Sem Value}, wpAny M A t Q E s₁ → wpAny M A (t >>= fun r => holding [r] point >>= fun _ => pure r) Q E s₁ := by
    intro t ht
    refine wpAny_bind (wpAny_mono ht ?_ fun _ _ x => x)
    intro r s₂ hr
    exact wpAny_bind (wpAny_holding (wpAny_point (wpAny_pure hr)))
  have marked : ∀ mk : Value, wpAny M A (callMarked mk f (first ++ a.pos) a.kw) Q E s₁ := by
    intro mk
    unfold callMarked
    exact Calls.wpAny_keep h₁.2
  rcases hk' with rfl | rfl | rfl
  · exact tail (marked _)
  · exact tail (PyProof.Rows.wpAny_operate' h₁.2)
  · exact tail (PyProof.Rows.wpAny_operate' h₁.2)
section
variable {X : Cx} {CX : CXT} {k : Nat} {f C : Addr} {E : XK} {x : Str} {p pos kp : Pos} {e : Expr} {te : TE} {sp : List V → List (Str × V) → Hp → VK → XK → Prop}
theorem KV.of_inrs : ∀ {ys : List (Str × V)} {vs : List (Key × Value)}, KV (G.inrs ys) vs → ∃ zs, vs = G.inrs zs ∧ KV ys zs
  | [], _, r => by
    cases r
    exact ⟨[], rfl, .nil⟩
  | y :: ys, _, r => by
    cases r with
    | @cons a b as bs h t =>
      obtain ⟨zs, e, q⟩ := KV.of_inrs (ys := ys) t
      obtain ⟨b1, b2⟩ := b
      refine ⟨(y.1, b2) :: zs, ?_, .cons ⟨rfl, h.2⟩ q⟩
      have h1 : Sum.inr y.1 = b1 := h.1
      subst h1
      rw [e]
      rfl
theorem pe_makeSS {gb : Bool} (M : L2.Mk X.K C f) (F : FkB gb X.prog X.w X.K X.mg X.base CX k f sp) (hr : Room (k + 1) X.A) (hgd : GdB gb X.A) (hg : Gl X x) (hm : X.mg x = some (.ref C)) (hx : Passes CX X E) (he : PE X e te)
    (hdb : (x == ("__debug__" : Str)) = false := by decide) : PE X (.Call (.Name x p) [] [⟨none, e, kp⟩] pos) (tMakeSS C sp E te) := by
  constructor
  intro pins s σ H Q I h
  apply wpAny_Call_Name_kw
  refine ld_glob I hg hm ?_ hdb
  have hkw : backToKw pos (keywordEach [⟨none, e, kp⟩] X.env) = [(none, do let v ← eval e X.env; standAt pos; pure v)] := rfl
  have hst : backTo pos (starEach [] X.env) = [] := rfl
  rw [hkw, hst]
  refine callWith_ss (Ph := X.K.In) rfl (fun h X' => PySem.W.keeps_K M.kp h X') ?_
  unfold evalArgs
  refine wpAny_bind ?_
  show wpAny _ _ (pure []) _ _ _
  refine wpAny_pure (wpAny_bind (wpAny_pure (wpAny_holding ?_)))
  dsimp only
  rw [if_neg (by simp)]
  refine wpAny_bind ?_
  unfold mergedKeywords
  refine wpAny_bind (wpAny_alloc (wpAny_bind (wpAny_holding ?_)))
  dsimp only
  rw [List.forIn_cons]
  refine wpAny_bind (wpAny_bind ?_)
  dsimp only
  refine wpAny_bind ?_
  rw [if_pos (show ([] : List (Str × Sem Value)).isEmpty = true from rfl)]
  refine wpAny_pure ?_
  have hfr : H s.heap.objs.size = none := I.hok.fresh (Nat.le_refl _)
  have kpt : ∀ b o, s.heap.get? b = some o → (s.heap.push ({ cls := .type "dict", data := .dict #[] } : Obj)).get? b = some o := fun b o q => Heap.get?_push_of_some _ q
  have I0 : Inv X pins σ H { s with heap := s.heap.push ({ cls := .type "dict", data := .dict #[] } : Obj), toks := s.toks } := I.kept kpt
  have I1 : Inv X ((s.heap.objs.size, ({ cls := .type "dict", data := .dict #[] } : Obj)) :: pins) σ H { s with heap := s.heap.push ({ cls := .type "dict", data := .dict #[] } : Obj), toks := s.toks } := by
    refine I0.pins_of ?_
    intro q hq
    rcases List.mem_cons.mp hq with rfl | hq
    · exact ⟨Heap.get?_push_size _ rfl, hfr, Nat.ne_of_gt I.lt, I.nofs (Nat.le_refl _), fun v z => nomatch z⟩
    · exact I0.pin q (List.mem_append_right _ hq)
  refine wpAny_bind (wpAny_bind (thn (he.run _ _ σ H _ I1 h) ?_))
  rintro u s2 ⟨v, H2, I2, rv, d, ys, rfl, hd, hq⟩
  obtain rfl : u = Value.ref d := rv
  refine wpAny_bind (wpAny_standAt (wpAny_pure ?_))
  obtain ⟨hz, hsys, vs, rk, hD⟩ := dk_of I2.hok hd
  obtain ⟨zs, rfl, rz⟩ := KV.of_inrs rk
  have hpin := I2.pin (s.heap.objs.size, ({ cls := .type "dict", data := .dict #[] } : Obj)) (List.mem_append_right _ List.mem_cons_self)
  obtain ⟨hg0, hf0, hl0, _, _⟩ := hpin
  have ned : s.heap.objs.size ≠ d := by
    intro z
    rw [z, hd] at hf0
    cases hf0
  have hempty : s2.heap.DictOf (mixKind X.prog X.w) s.heap.objs.size [] := ⟨_, #[], 0, hg0, ⟨rfl, rfl, rfl⟩, rfl, fun e he => absurd he (by simp), .nil, List.nodup_nil⟩
  refine wpAny_bind (wpAny_onRaise (wpAny_holding (wpAny_tryCatch (wpAny_onRaise (wp_merge ned hsys hempty hD mix_noref ?_ ?_)))))
  · intro h' hd' hs'
    refine wpAny_pure ?_
    dsimp only
    rw [List.forIn_nil]
    refine wpAny_pure ?_
    rw [if_pos (show ([] : List (Str × Sem Value)).isEmpty = true from rfl)]
    refine wpAny_pure (wpAny_pure ?_)
    refine wpAny_bind (wpAny_pure ?_)
    refine wpAny_bind (wpAny_holding (wp_keywordsIn hd' ?_))
    refine wpAny_pure ?_
    have I3 : Inv X pins σ H2 { s2 with heap := h', toks := s2.toks } := by
      have Ib : Inv X pins σ H2 s2 := I2.pins_of fun q hq => I2.pin q (List.mem_append_right _ (List.mem_cons_of_mem _ hq))
      refine Ib.turned (it := s.heap.objs.size) (fun b o hb eb => ?_) hf0 hl0 (.inr I.sz) ?_ ?_
      · rw [hs'.2 b hb]
        exact eb
      · intro y c ec z
        obtain ⟨v, o, ho, _⟩ := I.cell y c ec
        exact absurd (Heap.lt_size ho) (by rw [z]; exact Nat.lt_irrefl _)
      · intro q hq z
        have := (I.pin q hq).1
        exact absurd (Heap.lt_size this) (by rw [z]; exact Nat.lt_irrefl _)
    refine ⟨I3.kIn, ?_⟩
    exact run_makeG (us := []) (vs := []) M F hr hgd hx I3 .nil rz hq
  · have := KV.len rz
    unfold inrs at hz ⊢
    rw [List.length_map] at hz ⊢
    omega
end
end G


namespace G
open PySem PySem.Spec PyProof.Rows L2 StX
section
variable {X : Cx} {CX : CXT} {k : Nat} {f C : Addr} {fd : FuncData} {ps : List Str} {sp : Sp} {E : XK}
theorem RelV.back {Q : VK} {pins : List (Addr × Obj)} {σ : L2.St} {u : Value} {s : Shared} (h : EP X pins σ Q u s) : PySem.W.CmpBack (EP X pins σ Q) u s := by
  obtain ⟨v, H, I, r, q⟩ := h
  cases v with
  | non => cases r; exact ⟨.non, H, I, rfl, q⟩
  | bl b => cases r; exact ⟨.bl b, H, I, rfl, q⟩
  | int i => obtain ⟨t, rfl⟩ := r; exact ⟨.int i, H, I, ⟨t, rfl⟩, q⟩
  | str i => obtain ⟨t, rfl⟩ := r; exact ⟨.str i, H, I, ⟨t, rfl⟩, q⟩
  | byt i => obtain ⟨t, rfl⟩ := r; exact ⟨.byt i, H, I, ⟨t, rfl⟩, q⟩
  | flt i => obtain ⟨t, rfl⟩ := r; exact ⟨.flt i, H, I, ⟨t, rfl⟩, q⟩
  | ref a => cases r; exact ⟨.ref a, H, I, rfl, q⟩
  | ty a => cases r; exact ⟨.ty a, H, I, rfl, q⟩
end
end G


namespace G
open PySem PySem.Spec PyProof.Rows L2 StX ClX
section
variable {X : Cx} {CX : CXT} {k : Nat} {f g C : Addr} {fd : FuncData} {ps : List Str} {sp : Sp} {E : XK} {ds : List Value} {dvs : List V} {m : Str} {o e : Expr} {es : List Expr} {ta : TE} {t : TA} {apos pos : Pos}
/-- o.m(e, ..) -/
theorem peM {gb : Bool} {pl : Sem Bool} (he : PE X o ta) (c : Cls X.K C) (hm : Meth X.K C m f) (F : FgB gb X.prog X.w X.K X.mg X.base CX k f fd ps sp) (hr : Room k X.A) (hgd : GdB gb X.A) (hb : Binds X.K fd ps ds) (hd : Vals dvs ds) (hx : Passes CX X E) (ha : PA X (e :: es) t)
    (hst : starEach (e :: es) X.env = (false, eval e X.env) :: starEach es X.env := by rfl)
    (hpl : (backTo pos (starEach es X.env)).any (·.1) = false := by rfl)
    (ht : eval (.Call (.Attribute o m apos) (e :: es) [] pos) X.env = (do
      let ov ← eval o X.env
      standAt apos.atName
      let (f, first) ← holding [ov] (getMethod ov m pl)
      callWith pos f first (backTo pos (starEach (e :: es) X.env)) (backToKw pos (keywordEach [] X.env))) := by rfl) :
    PE X (.Call (.Attribute o m apos) (e :: es) [] pos) (tMeth C m sp dvs E ta t) := by
  constructor
  intro pins s σ H Q I h
  refine PySem.W.methodCall_KW (pl := pl) (thn (he.run pins s σ H _ I h) ?_) ht
  rintro u s1 ⟨x, H1, I1, rx, a, dx, fs, ex, ea, l, q⟩
  subst ex
  obtain rfl : u = Value.ref a := rx
  refine getmeth_ok I1 ea c hm l ?_
  refine PySem.W.callWith_K (first := [.ref a]) (h₀ := X.base) I.ok.mod.kin hm.kp (thn (ha.run pos pins s1 σ H1 _ I1 q) ?_) hst hpl
  rintro us s2 ⟨vs, H2, I2, r, q2⟩
  exact ⟨I2.kIn, runG (us := .ref a :: us) F hr hgd hx I2 (fun hl => hb s2 (.ref a :: us) I2.kIn hl) (Vals.append (xs := .ref a :: vs) (.cons rfl r) hd) q2⟩
/-- C.m is a staticmethod: its record at p, its def at g -/
structure SMet (K : PySem.W.Frag) (C : Addr) (mc : Value) (m : Str) (p g : Addr) : Prop where
  at_ : PySem.W.findCls K (.ref C) mc m = some (.get (.builtin "staticmethod.__get__") (.ref p) .none (.ref C))
  rc : ∃ rest, PySem.W.recIn K p "staticmethod" = some (.ref g :: rest)
  hd : PySem.W.handedIn (.ref g) = true
  kp : PySem.W.keepIn K (.ref g) = true
def tSMeth (C : Addr) (sp : Sp) (dvs : List V) (E : XK) (ta : TE) (t : TA) : TE := fun σ H Q => ta σ H fun x H1 => x = .ref C ∧ t σ H1 fun vs H2 => sp (vs ++ dvs) H2 Q E
/-- C.m(e, ..), m a staticmethod -/
theorem peSM {pl : Sem Bool} {mc : Value} {p : Addr} (he : PE X o ta) (r : CRead X.K C mc) (c : SMet X.K C mc m p g) (F : Fg X.prog X.w X.K X.mg X.base CX k g fd ps sp) (hr : Room k X.A) (hgd : Gd X.A) (hb : Binds X.K fd ps ds) (hd : Vals dvs ds) (hx : Passes CX X E) (ha : PA X (e :: es) t)
    (hst : starEach (e :: es) X.env = (false, eval e X.env) :: starEach es X.env := by rfl)
    (hpl : (backTo pos (starEach es X.env)).any (·.1) = false := by rfl)
    (ht : eval (.Call (.Attribute o m apos) (e :: es) [] pos) X.env = (do
      let ov ← eval o X.env
      standAt apos.atName
      let (f, first) ← holding [ov] (getMethod ov m pl)
      callWith pos f first (backTo pos (starEach (e :: es) X.env)) (backToKw pos (keywordEach [] X.env))) := by rfl) :
    PE X (.Call (.Attribute o m apos) (e :: es) [] pos) (tSMeth C sp dvs E ta t) := by
  constructor
  intro pins s σ H Q I h
  refine PySem.W.methodCall_KW (pl := pl) (thn (he.run pins s σ H _ I h) ?_) ht
  rintro u s1 ⟨x, H1, I1, rx, ex, q⟩
  subst ex
  obtain rfl : u = Value.ref C := rx
  obtain ⟨rest, hp⟩ := c.rc
  refine PySem.W.method_cls I1.kIn r.ga (PySem.W.cls_bind I1.kIn r.rd c.at_ ?_)
  refine wpAny_call (PySem.W.sm_get (s := { s1 with toks := s1.toks + 1 }) I1.kIn hp (PySem.W.handed_on c.hd ?_))
  have I2 := I1.tok (s1.toks + 1)
  refine PySem.W.callWith_K (first := []) (h₀ := X.base) I.ok.mod.kin c.kp (thn (ha.run pos pins _ σ H1 _ I2 q) ?_) hst hpl
  rintro us s2 ⟨vs, H2, I3, rv, q2⟩
  exact ⟨I3.kIn, runG (us := us) F hr hgd hx I3 (fun hl => hb s2 us I3.kIn hl) (rv.append hd) q2⟩
end
end G


namespace SrtG
open SrtO hiding Str
open PySem PySem.Spec PyProof.Rows
def lxB (p q : Str × Int) : Bool := if p.1 = q.1 then decide (p.2 < q.2) else decide (p.1.cps.toList < q.1.cps.toList)
theorem cps_inj {a b : Str} (h : a.cps.toList = b.cps.toList) : a = b := by
  cases a with
  | mk x =>
    cases b with
    | mk y =>
      have : x = y := Array.toList_inj.mp h
      rw [this]
theorem lxB_iff {p q : Str × Int} : lxB p q = true ↔ p.1.cps.toList < q.1.cps.toList ∨ (p.1 = q.1 ∧ p.2 < q.2) := by
  unfold lxB
  by_cases e : p.1 = q.1
  · rw [if_pos e, decide_eq_true_eq]
    constructor
    · exact fun h => .inr ⟨e, h⟩
    · rintro (h | h)
      · rw [e] at h
        exact absurd h (List.lt_irrefl _)
      · exact h.2
  · rw [if_neg e, decide_eq_true_eq]
    constructor
    · exact .inl
    · rintro (h | h)
      · exact h
      · exact absurd h.1 e
theorem lxB_no {p q : Str × Int} : lxB p q = false ↔ ¬ (p.1.cps.toList < q.1.cps.toList ∨ (p.1 = q.1 ∧ p.2 < q.2)) := by
  rw [← lxB_iff]
  cases lxB p q <;> simp
theorem lst_asym {a b : List Nat} (h : a < b) : ¬ b < a := fun h' => List.lt_irrefl _ (List.lt_trans h h')
theorem lst_tri {a b : List Nat} (h : ¬ a < b) (h' : ¬ b < a) : a = b := List.le_antisymm h' h
theorem swo_lx (α : Type) (k : α → Str × Int) : Swo fun v u => lxB (k v) (k u) := by
  refine ⟨fun x y h => ?_, fun x y z h1 h2 => ?_⟩
  · refine lxB_no.mpr ?_
    rcases lxB_iff.mp h with a | ⟨a, b⟩
    · rintro (c | ⟨c, d⟩)
      · exact lst_asym a c
      · rw [c] at a
        exact List.lt_irrefl _ a
    · rintro (c | ⟨c, d⟩)
      · rw [a] at c
        exact List.lt_irrefl _ c
      · omega
  · have a := lxB_no.mp h1
    have b := lxB_no.mp h2
    refine lxB_no.mpr ?_
    have a1 : ¬ (k y).1.cps.toList < (k x).1.cps.toList := fun h => a (.inl h)
    have b1 : ¬ (k z).1.cps.toList < (k y).1.cps.toList := fun h => b (.inl h)
    rintro (c | ⟨c, d⟩)
    · by_cases e : (k x).1.cps.toList < (k y).1.cps.toList
      · exact b1 (List.lt_trans c e)
      · have e1 := lst_tri e a1
        rw [e1] at c
        exact b1 c
    · rw [c] at b1
      have e1 := cps_inj (lst_tri b1 a1)
      have a2 : ¬ (k y).2 < (k x).2 := fun h => a (.inr ⟨e1.symm, h⟩)
      have b2 : ¬ (k z).2 < (k y).2 := fun h => b (.inr ⟨c.trans e1, h⟩)
      omega
def IsSI (h : Heap) (v : Value) (x : Str) (y : Int) : Prop := ∃ a o t u n, v = .ref a ∧ h.get? a = some o ∧ o.cls = .type "tuple" ∧ o.data = .seq #[.str x t, .int y u] n
theorem IsSI.keeps {h h' : Heap} {v : Value} {x : Str} {y : Int} (p : IsSI h v x y) (k : ∀ b o, h.get? b = some o → o.cls = .type "tuple" → h'.get? b = some o) : IsSI h' v x y := by
  obtain ⟨a, o, t, u, n, e, ho, hc, hd⟩ := p
  exact ⟨a, o, t, u, n, e, k a o ho hc, hc, hd⟩
theorem firsts_si {h : Heap} : ∀ {vs : List Value}, (∀ v ∈ vs, ∃ x y, IsSI h v x y) → ∃ fs : List Value, PySem.W.KatTups h vs fs ∧ fs.length = vs.length ∧ ∀ f ∈ fs, ∃ x t, f = Value.str x t
  | [], _ => ⟨[], PySem.W.KatTups.nil, rfl, fun _ hm => by simp at hm⟩
  | v :: vs, hp => by
    obtain ⟨fs, h1, h2, h3⟩ := firsts_si (vs := vs) fun v' hm => hp v' (List.mem_cons_of_mem _ hm)
    obtain ⟨x, y, a, o, t, u, n, e, ho, hc, hd⟩ := hp v (List.mem_cons_self ..)
    subst e
    refine ⟨.str x t :: fs, PySem.W.KatTups.cons ho hc hd rfl h1, by rw [List.length_cons, List.length_cons, h2], fun f hm => ?_⟩
    rcases List.mem_cons.mp hm with rfl | hm
    · exact ⟨x, t, rfl⟩
    · exact h3 f hm
section
variable {prog : Program} {w : World} {A : Around} {s : Shared} {E : Value → Shared → Prop}
theorem si_cmp {vs : List Value} {k : Value → Str × Int} (hp : ∀ v ∈ vs, IsSI s.heap v (k v).1 (k v).2) : Cmp prog w A s (tuples' true) (fun p => p.1 ∈ vs) (lt2 fun v u => lxB (k v) (k u)) := by
  intro p q hm hm'
  have h1 := hp _ hm
  have h2 := hp _ hm'
  show wpAny (model prog w) A (keyLt' (tuples' true) p.1 q.1) (fun r s' => s' = s ∧ r = lxB (k p.1) (k q.1)) (fun _ _ => False) s
  unfold lxB
  generalize (k p.1).1 = x at h1 ⊢
  generalize (k p.1).2 = y at h1 ⊢
  generalize (k q.1).1 = x' at h2 ⊢
  generalize (k q.1).2 = y' at h2 ⊢
  obtain ⟨a, o, t, u, n, e, ho, hc, hd⟩ := h1
  obtain ⟨a', o', t', u', n', e', ho', hc', hd'⟩ := h2
  rw [e, e']
  refine PySem.W.kat_lt ho hd ho' hd' ?_
  show PySem.W.KatLex prog w A true (decide (2 < 2)) _ [(.str x t, .str x' t'), (.int y u, .int y' u')] 0 s
  refine PySem.W.kat_cons (SeqAt.EqAt.str_str x t x' t' prog w _ _ ?_)
  refine PySem.W.kat_go (fun e1 => ?_) (fun e1 => ?_)
  · have ex : x = x' := by simpa using e1
    refine PySem.W.kat_yes (PySem.W.kat_cons (SeqAt.EqAt.int_int y u y' u' prog w _ _ ?_))
    refine PySem.W.kat_go (fun e2 => ?_) (fun e2 => ?_)
    · have ey : y = y' := by simpa using e2
      have e3 : (if x = x' then decide (y < y') else decide (x.cps.toList < x'.cps.toList)) = false := by
        rw [if_pos ex, ey]
        exact decide_eq_false (Int.lt_irrefl _)
      exact PySem.W.kat_yes (PySem.W.kat_nil ⟨rfl, e3.symm⟩)
    · have e3 : (if x = x' then decide (y < y') else decide (x.cps.toList < x'.cps.toList)) = decide (y < y') := if_pos ex
      refine PySem.W.kat_no (PySem.W.kat_one _ _ (PyProof.Rows.lt_int ?_))
      exact (show s = s ∧ decide (y < y') = (if x = x' then decide (y < y') else decide (x.cps.toList < x'.cps.toList)) from ⟨rfl, e3.symm⟩)
  · have ex : ¬ x = x' := by simpa using e1
    have e3 : (if x = x' then decide (y < y') else decide (x.cps.toList < x'.cps.toList)) = decide (x.cps.toList < x'.cps.toList) := if_neg ex
    exact PySem.W.kat_no (PyProof.Rows.oneLt_any_str ⟨rfl, e3.symm⟩)
theorem si_sortableO {a : Addr} {vs : List Value} {k : Value → Str × Int} (h0 : 0 < vs.length) (hp : ∀ v ∈ vs, IsSI s.heap v (k v).1 (k v).2) (ha : ∀ o, s.heap.get? a = some o → o.cls ≠ .type "tuple") : SortableO prog w A s a vs fun v u => lxB (k v) (k u) := by
  intro h' keep
  have hp' : ∀ v ∈ vs, IsSI h' v (k v).1 (k v).2 := fun v hm => (hp v hm).keeps fun b o e c => keep b o (fun z => by subst z; exact ha o e c) e
  obtain ⟨fs, h1, h2, h3⟩ := firsts_si fun v hm => ⟨_, _, hp' v hm⟩
  refine ⟨tuples' true, fun Q E hq => ?_, si_cmp hp'⟩
  refine PySem.W.kat_kind (T := .type "str") h1 (by omega) (fun f hm => ?_) (by rfl) ?_
  · obtain ⟨x, t, rfl⟩ := h3 f hm
    exact PySem.W.Looks.now
  · have e : (Value.type "str" != Value.type "tuple") = true := by first | decide +kernel | rfl | decide
    rw [e]
    exact hq
theorem sorted_si {l : Addr} {vs : List Value} {k : Value → Str × Int} {Q : Value → Shared → Prop} (hl : s.heap.IsList l vs.toArray) (hz : vs.length ≤ sizeLine) (hp : ∀ v ∈ vs, IsSI s.heap v (k v).1 (k v).2)
    (h : ∀ (h' : Heap) (d : Addr) (out : List Value), Srtd (fun v u => lxB (k v) (k u)) out → Stb (fun v u => lxB (k v) (k u)) out vs → (∀ b o, s.heap.get? b = some o → h'.get? b = some o) → s.heap.objs.size ≤ d → (∃ n, h'.get? d = some (seqObj "list" out.toArray n)) → Q (.ref d) { s with heap := h' }) :
    wpAny (model prog w) A (call (.builtin "sorted") [.ref l]) Q E s := by
  refine sorted_ord (swo_lx _ k) hl hz (fun h2 h₁ a ha kk => ?_) fun out hs hb => ?_
  · refine si_sortableO (s := { s with heap := h₁ }) (by omega) (fun v hm => (hp v hm).keeps fun b o e _ => (kk b o e).2) fun o e => ?_
    have e' : some o = some (seqObj "list" vs.toArray 0) := e.symm.trans ha
    cases e'
    intro c
    exact absurd (Value.type.inj c) (by decide)
  · exact h _ _ out hs hb (fun b o e => sortedAll_old e) (Nat.le_succ _) (sortedAll_at s.heap vs out.toArray)
end
end SrtG
namespace G
open PySem PySem.Spec PyProof.Rows L2
/-- the rows of a list of pair tuples -/
inductive PrsL (H : Hp) : List V → List (Str × Int) → Prop
  | nil : PrsL H [] []
  | cons {t : Addr} {x : Str} {i : Int} {xs : List V} {r : List (Str × Int)} : H t = some (.tup [.str x, .int i]) → PrsL H xs r → PrsL H (.ref t :: xs) ((x, i) :: r)
theorem PrsL.len {H : Hp} : ∀ {xs : List V} {r : List (Str × Int)}, PrsL H xs r → xs.length = r.length
  | _, _, .nil => rfl
  | _, _, .cons _ h => by simp [h.len]
theorem PrsL.same {H H' : Hp} (s : ∀ (a : Addr) o, H a = some o → H' a = some o) : ∀ {xs : List V} {r : List (Str × Int)}, PrsL H xs r → PrsL H' xs r
  | _, _, .nil => .nil
  | _, _, .cons h t => .cons (s _ _ h) (t.same s)
theorem PrsL.mem {H : Hp} : ∀ {xs : List V} {r : List (Str × Int)} {v : V}, PrsL H xs r → v ∈ xs → ∃ t p, v = .ref t ∧ p ∈ r ∧ H t = some (.tup [.str p.1, .int p.2])
  | _, _, _, .nil, e => by simp at e
  | _, _, v, .cons (t := t) (x := x) (i := i) h hr, e => by
    rcases List.mem_cons.mp e with rfl | e
    · exact ⟨t, (x, i), rfl, List.mem_cons_self, h⟩
    · obtain ⟨t, p, a, b, c⟩ := hr.mem e
      exact ⟨t, p, a, List.mem_cons_of_mem _ b, c⟩
theorem PrsL.app {H : Hp} : ∀ {xs ys : List V} {r q : List (Str × Int)}, PrsL H xs r → PrsL H ys q → PrsL H (xs ++ ys) (r ++ q)
  | _, _, _, _, .nil, h => h
  | _, _, _, _, .cons a h, h' => .cons a (h.app h')
/-- what row an item holds -/
def rowOf (H : Hp) (v : V) : Str × Int := match v with
  | .ref t => match H t with
    | some (.tup [.str x, .int i]) => (x, i)
    | _ => (Str.empty, 0)
  | _ => (Str.empty, 0)
theorem PrsL.rows {H : Hp} : ∀ {xs : List V} {r : List (Str × Int)}, PrsL H xs r → xs.map (rowOf H) = r
  | _, _, .nil => rfl
  | _, _, .cons h t => by
    rw [List.map_cons, t.rows]
    congr 1
    simp [rowOf, h]
theorem PrsL.of {H : Hp} : ∀ {xs : List V}, (∀ x ∈ xs, ∃ t p, x = .ref t ∧ H t = some (.tup [.str (p : Str × Int).1, .int p.2])) → PrsL H xs (xs.map (rowOf H))
  | [], _ => .nil
  | x :: xs, h => by
    obtain ⟨t, p, rfl, e⟩ := h x List.mem_cons_self
    have e1 : rowOf H (.ref t) = p := by simp [rowOf, e]
    rw [List.map_cons, e1]
    exact .cons e (PrsL.of fun y hy => h y (List.mem_cons_of_mem _ hy))
/-- sorted(xs) of pairs of a text and an int -/
def rSortSI (K : PySem.W.Frag) : List V → Hp → VK → Prop := fun vs H Q => ∃ (a : Addr) (xs : List V) (r : List (Str × Int)), vs = [V.ref a] ∧ SqL K H a xs ∧ PrsL H xs r ∧
  ∀ ys q p, SrtO.Srtd SrtG.lxB q → q.Perm r → PrsL H ys q → H p = none → Q (.ref p) (upd H p (.lst ys))
theorem cr_sortSI {X : Cx} : CallR X (.builtin "sorted") (rSortSI X.K) := by
  intro pins s σ H vs us Q I r h
  obtain ⟨a, xs, rw_, rfl, hs, hx, q⟩ := h
  obtain ⟨its, rv, hl, hz⟩ := I.list hs
  obtain ⟨u, rfl, ru⟩ := vals1 r
  obtain rfl : u = Value.ref a := ru
  obtain ⟨e1, e2⟩ := refs_back rv fun x m => by
    obtain ⟨t, _, e, _, _⟩ := hx.mem m
    exact ⟨t, e⟩
  have O := SrtG.swo_lx V (rowOf H)
  refine SrtG.sorted_si (k := fun u => rowOf H (backV u)) hl.isList (by rw [← rv.length]; exact hz) (fun v hv => ?_) fun h' d out h1 h2 kp hd hn => ?_
  · obtain ⟨t, rfl⟩ := e2 v hv
    have hm : V.ref t ∈ xs := by rw [e1]; exact List.mem_map.mpr ⟨_, hv, rfl⟩
    obtain ⟨t', p, e, _, ht⟩ := hx.mem hm
    cases e
    have er : rowOf H (.ref t) = p := by simp [rowOf, ht]
    obtain ⟨_, its2, r2, o, ho, hc, n, hd⟩ := I.hok _ _ ht
    obtain ⟨u1, u2, rfl, ri, rj⟩ := vals2 r2
    obtain ⟨t1, rfl⟩ := ri
    obtain ⟨t2, rfl⟩ := rj
    show SrtG.IsSI _ _ (rowOf H (.ref t)).1 (rowOf H (.ref t)).2
    rw [er]
    exact ⟨t, o, t1, t2, n, rfl, ho, hc, hd⟩
  · have h3 : ∀ u ∈ out, ∃ a, u = Value.ref a := fun u hu => e2 u (h2.perm.mem_iff.mp hu)
    obtain ⟨n, hn⟩ := hn
    have hb : SrtO.Stb (fun x y => SrtG.lxB (rowOf H x) (rowOf H y)) (out.map backV) xs := by
      rw [e1]
      exact SrtO.Stb.map O backV h2
    have hp : ((out.map backV).map (rowOf H)).Perm rw_ := by
      rw [← hx.rows]
      exact hb.perm.map _
    refine ⟨.ref d, upd H d (.lst (out.map backV)), I.laid (t' := s.toks) kp hd ⟨?_, out, n, vals_back h3, hn⟩, rfl, q _ ((out.map backV).map (rowOf H)) d ?_ hp (PrsL.of fun x hxm => ?_) (I.hok.fresh hd)⟩
    · rw [hb.len]
      exact hz
    · exact SrtO.srtd_map (f := rowOf H) (SrtO.srtd_map h1)
    · obtain ⟨t, p, e, _, ht⟩ := hx.mem (hb.perm.mem_iff.mp hxm)
      exact ⟨t, p, e, ht⟩
end G


namespace G
open PySem PySem.Spec PyProof.Rows L2
abbrev Row := List (Str × Int)
/-- a row as a dict's entries -/
def kvR (r : Row) : List (Key × V) := r.map fun p => (Sum.inr p.1, V.int p.2)
/-- a tuple whose own object is known to have no dict -/
def FT (H : Hp) (a : Addr) (xs : List V) : Prop := ∃ o : Obj, o.dict = none ∧ H a = some (.frz o (.tup xs))
theorem FT.sqt {K : PySem.W.Frag} {H : Hp} {a : Addr} {xs : List V} (h : FT H a xs) : SqT K H a xs := by
  obtain ⟨o, _, h⟩ := h
  exact .inl (.inr ⟨o, h⟩)
theorem FT.same {H H' : Hp} {a : Addr} {xs : List V} (r : Same H H') (h : FT H a xs) : FT H' a xs := by
  obtain ⟨o, d, h⟩ := h
  exact ⟨o, d, r _ _ h⟩
/-- tuple(list), told so -/
def rTupF (K : PySem.W.Frag) : RC := fun vs H Q => ∃ p ys, vs = [.ref p] ∧ SqL K H p ys ∧ ∀ l (o : Obj), o.dict = none → H l = none → Q (.ref l) (upd H l (.frz o (.tup ys)))
theorem cr_tupF {X : Cx} : CallR X (.type "tuple") (rTupF X.K) := by
  intro pins s σ H xs us Q I r h
  obtain ⟨p, ys, rfl, hq, q⟩ := h
  obtain ⟨u, rfl, rx⟩ := vals1 r
  cases rx
  obtain ⟨its, r', pl, hz⟩ := I.list hq
  have hlen := r'.length
  refine call_tuple_list pl.isList (fun h' kp => ?_) (by simp only [List.size_toArray] <;> omega)
  have I1 : Inv X pins σ H { s with heap := h' } := I.kept (t' := s.toks) kp
  have I2 : Inv X pins σ (upd H h'.objs.size (.frz { cls := .type "tuple", data := .seq its.toArray } (.tup ys))) { s with heap := h'.push { cls := .type "tuple", data := .seq its.toArray } } :=
    I1.laid (t' := s.toks) (fun b o e => Heap.get?_push_of_some _ e) (Nat.le_refl _) (show ObjOk X.prog X.w _ _ _ (.frz _ (.tup ys)) from ⟨Heap.get?_push_size _ rfl, hz, its, r', IsTup.new _ _⟩)
  exact ⟨.ref h'.objs.size, _, I2, rfl, q _ _ rfl (I1.hok.fresh (Nat.le_refl _))⟩
/-- pair tuples as the machine has them -/
theorem prsV {X : Cx} {pins : List (Addr × Obj)} {σ : L2.St} {H : Hp} {s : Shared} (I : Inv X pins σ H s) : ∀ {xs : List V} {r : Row}, PrsL H xs r →
    ∃ (ts : List Addr) (ps : List (Value × Value)) (kvs : List (Key × Value)), xs = ts.map V.ref ∧ ps.length = ts.length ∧ kvs.length = ts.length ∧ KV (kvR r) kvs ∧
      ∀ (j : Nat) (k v : Value), ps[j]? = some (k, v) → (∃ b, ts[j]? = some b ∧ IsTup s.heap b #[k, v]) ∧ ∃ q, kvs[j]? = some (q, v) ∧ keyIs q k = true
  | _, _, .nil => ⟨[], [], [], rfl, rfl, rfl, .nil, fun j k v e => by simp at e⟩
  | _, _, .cons (t := t) (x := x) (i := i) h hr => by
    obtain ⟨ts, ps, kvs, e, l1, l2, kv, hj⟩ := prsV I hr
    obtain ⟨_, its, r2, ht⟩ := I.hok _ _ h
    obtain ⟨u1, u2, rfl, ri, rj⟩ := vals2 r2
    refine ⟨t :: ts, (u1, u2) :: ps, (Sum.inr x, u2) :: kvs, by rw [e]; rfl, by simp [l1], by simp [l2], .cons ⟨rfl, rj⟩ kv, ?_⟩
    intro j k v e
    cases j with
    | zero =>
      cases e
      exact ⟨⟨t, rfl, ht⟩, Sum.inr x, rfl, kV_is (P := X.prog) (w := X.w) (k := Sum.inr x) ri⟩
    | succ j =>
      obtain ⟨⟨b, e1, e2⟩, q, e3, e4⟩ := hj j k v (by simpa using e)
      exact ⟨⟨b, by simpa using e1, e2⟩, q, by simpa using e3, e4⟩
end G


namespace G
open PySem PySem.Spec PyProof.Rows L2
end G


namespace G
open PySem PySem.Spec PyProof.Rows L2
/-- the tuples stay -/
def Tp (H H' : Hp) : Prop := ∀ a xs, H a = some (.tup xs) → H' a = some (.tup xs)
theorem Tp.trans {H H1 H2 : Hp} (a : Tp H H1) (b : Tp H1 H2) : Tp H H2 := fun x o h => b x o (a x o h)
theorem Tp.same {H H' : Hp} (h : Same H H') : Tp H H' := fun a xs e => h a _ e
theorem Tp.lst {H : Hp} {D : Addr} {ys : List V} {o : HO} (h : H D = some (.lst ys)) : Tp H (upd H D o) := fun a xs e => by
  have : a ≠ D := fun z => by rw [z, h] at e; cases e
  rw [upd_ne this]
  exact e
/-- a claim about a value that tuples alone decide -/
def TpR {β : Type} (Rel : Hp → V → β → Prop) : Prop := ∀ H H' v b, Tp H H' → Rel H v b → Rel H' v b
theorem paired_tp {β : Type} {Rel : Hp → V → β → Prop} (st : TpR Rel) {H H' : Hp} (t : Tp H H') : ∀ {vs : List V} {bs : List β}, Paired (Rel H) vs bs → Paired (Rel H') vs bs
  | _, _, .nil => .nil
  | _, _, .cons h r => .cons (st _ _ _ _ t h) (paired_tp st t r)
theorem range_snoc {β : Type} (F : Nat → Option β) (i : Nat) : (List.range (i + 1)).filterMap F = (List.range i).filterMap F ++ (F i).toList := by
  rw [List.range_succ, List.filterMap_append]
  congr 1
/-- a comprehension that writes nothing but new things: the i-th turn gives F i -/
theorem lcR {β : Type} {J : It} {n : Nat} {GG : Hp → Prop} {Y : Nat → Hp → V → Hp → Prop} {g : TG} {tt : TT} {te : TE} {vs : List Nat} {σ : L2.St} {H : Hp} {Q : VK} (w : Walk J n GG Y) (F : Nat → Option β) (Rel : Hp → V → β → Prop) (st : TpR Rel)
    (hG : ∀ H1, Same H H1 → GG H1) (hY : ∀ i H1 x H2, Y i H1 x H2 → Same H1 H2) (hl : n ≤ 1000000)
    (hs : ∀ i x H1 H2 (K1 : VK) (K2 : Hp → Prop), i < n → Same H H1 → Y i H1 x H2 → (∀ y H4 b, F i = some b → Same H2 H4 → Rel H4 y b → K1 y H4) → (∀ H4, F i = none → Same H2 H4 → K2 H4) →
      g x (wipe σ vs) H2 fun σ2 H3 => wipe σ2 vs = wipe σ vs ∧ tt σ2 H3 fun b H4 => if b = true then te σ2 H4 K1 else K2 H4)
    (h : ∀ D H' ys, H D = none → Same H H' → H' D = some (.lst ys) → Paired (Rel H') ys ((List.range n).filterMap F) → Q (.ref D) H') : LC J g tt te vs σ Q H := by
  intro D hD
  refine lc_it w (fun i H1 => Same H H1 ∧ ∃ ys, H1 D = some (.lst ys) ∧ ys.length ≤ i ∧ Paired (Rel H1) ys ((List.range i).filterMap F)) ⟨?_, [], upd_same, Nat.le_refl _, .nil⟩ (fun i H1 _ q => hG H1 q.1) ?_ ?_
  · intro a o e
    rw [upd_ne (ne_of_none e hD)]
    exact e
  · rintro i x H1 H2 hi ⟨r, ys, hd, hy, hp⟩ hyl
    have r12 := hY i H1 x H2 hyl
    refine hs i x H1 H2 _ _ hi r hyl ?_ ?_
    · intro y H4 b hb r4 rel
      have hd4 : H4 D = some (.lst ys) := r4 _ _ (r12 _ _ hd)
      refine ⟨ys, hd4, sz2 (by omega), ?_, ys ++ [y], upd_same, by simp; omega, ?_⟩
      · intro a o e
        rw [upd_ne (ne_of_none e hD)]
        exact r4 _ _ (r12 _ _ (r _ _ e))
      · rw [range_snoc, hb]
        exact Paired.snoc (paired_tp st ((Tp.same (r12.trans r4)).trans (Tp.lst hd4)) hp) (st _ _ _ _ (Tp.lst hd4) rel)
    · intro H4 hb r4
      refine ⟨r.trans (r12.trans r4), ys, r4 _ _ (r12 _ _ hd), by omega, ?_⟩
      rw [range_snoc, hb]
      show Paired _ _ (_ ++ [])
      rw [List.append_nil]
      exact paired_tp st (Tp.same (r12.trans r4)) hp
  · rintro H1 ⟨r, ys, hd, hy, hp⟩
    exact h D H1 ys hD r hd hp
/-- the values themselves -/
theorem paired_eq {β : Type} {f : β → V} : ∀ {vs : List V} {bs : List β}, Paired (fun v b => v = f b) vs bs → vs = bs.map f
  | _, _, .nil => rfl
  | _, _, .cons h r => by rw [h, paired_eq r]; rfl
def PrR (H : Hp) (v : V) (p : Str × Int) : Prop := ∃ t, v = .ref t ∧ H t = some (.tup [.str p.1, .int p.2])
theorem tpR_pr : TpR PrR := by
  rintro H H' v p t ⟨a, e, h⟩
  exact ⟨a, e, t _ _ h⟩
theorem tpR_eq {β : Type} {f : β → V} : TpR (fun _ v b => v = f b) := fun _ _ _ _ _ h => h
theorem PrsL.of_paired {H : Hp} : ∀ {vs : List V} {bs : Row}, Paired (PrR H) vs bs → PrsL H vs bs
  | _, _, .nil => .nil
  | _, _, .cons ⟨t, e, h⟩ r => by
    subst e
    exact .cons h (PrsL.of_paired r)
theorem PrsL.tp {H H' : Hp} (t : Tp H H') : ∀ {xs : List V} {r : Row}, PrsL H xs r → PrsL H' xs r
  | _, _, .nil => .nil
  | _, _, .cons h r => .cons (t _ _ h) (r.tp t)
/-- by index -/
theorem range_get {α β : Type} (f : α → Option β) : ∀ l : List α, (List.range l.length).filterMap (fun i => l[i]?.bind f) = l.filterMap f := by
  intro l
  induction l with
  | nil => rfl
  | cons a l ih =>
    rw [List.length_cons, List.range_succ_eq_map, List.filterMap_cons, List.filterMap_map]
    have e : ((fun i => (a :: l)[i]?.bind f) ∘ Nat.succ) = fun i => l[i]?.bind f := by
      funext i
      simp
    rw [e, ih, List.filterMap_cons]
    rfl
theorem lock_same {H H' : Hp} {d : Addr} {od : Obj} {u : HO} (h : H d = some u) (r : Same (upd H d (.frz od u)) H') : H' d = some (.frz od u) ∧ Same H (upd H' d u) := by
  refine ⟨r _ _ upd_same, fun a o e => ?_⟩
  by_cases z : a = d
  · subst z
    rw [h] at e
    cases e
    exact upd_same
  · rw [upd_ne z]
    exact r _ _ (by rw [upd_ne z]; exact e)
theorem s_lock {t : TS} {D : Ends} {σ : L2.St} {H : Hp} {d : Addr} {kvs : List (Key × V)} (h : H d = some (.dK kvs))
    (k : ∀ od, t ⟨fun σ' H' => H' d = some (.frz od (.dK kvs)) ∧ D.nx σ' (upd H' d (.dK kvs)), fun v H' => H' d = some (.frz od (.dK kvs)) ∧ D.rt v (upd H' d (.dK kvs)), fun σ' H' => H' d = some (.frz od (.dK kvs)) ∧ D.bk σ' (upd H' d (.dK kvs)), fun σ' H' => H' d = some (.frz od (.dK kvs)) ∧ D.ct σ' (upd H' d (.dK kvs))⟩ σ (upd H d (.frz od (.dK kvs)))) : tLock t D σ H :=
  ⟨d, _, h, trivial, k⟩
theorem s_lockE {t : TE} {σ : L2.St} {H : Hp} {Q : VK} {d : Addr} {kvs : List (Key × V)} (h : H d = some (.dK kvs))
    (k : ∀ od, t σ (upd H d (.frz od (.dK kvs))) fun v H' => H' d = some (.frz od (.dK kvs)) ∧ Q v (upd H' d (.dK kvs))) : tLockE t σ H Q := ⟨d, _, h, trivial, k⟩
theorem s_keys {td : TE} {σ : L2.St} {H : Hp} {R : It → Hp → Prop} (h : td σ H fun x H1 => ∃ d o, x = .ref d ∧ ((∃ kvs, H1 d = some (.frz o (.dK kvs)) ∧ R (Itk d o kvs) H1) ∨ ∃ kvs, H1 d = some (.frz o (.dT kvs)) ∧ R (Itkt d o kvs) H1)) : iKeys td σ H R := h
section
variable {X : Cx} {o e a c : Expr} {to te ta tb : TE} {z : Str} {j : Nat} {pos p : Pos}
theorem pet_split {apos pos : Pos} (ho : L2.PET X o to) (he : PE X e te) (hs : starEach [e] X.env = [(false, eval e X.env)] := by rfl) (hbase : attributeBase o "split" X.env (eval o X.env) = eval o X.env := by rfl) (hline : (apos.endLine == pos.line) = true := by rfl) :
    L2.PET X (.Call (.Attribute o "split" apos) [e] [] pos) (tM1 (fun x xs H Q => ∃ a b, x = .str a ∧ xs = [.str b] ∧ (b.length == 0) = false ∧ a.length + 2 ≤ sizeLine ∧ rNewStrs (Txt.split a b) H Q) to te) := by
  intro pins s σ H Q h0 I h
  refine PySem.Call_method1 hbase hs hline (thn (ho pins s σ H _ h0 I h) fun v s1 ⟨x, H1, I1, r1, q1⟩ => ?_)
  obtain ⟨⟨a, rfl⟩, q1⟩ := q1
  obtain ⟨t, rfl⟩ := _root_.id r1
  refine ⟨"str", _, F.plainAttrs_str, F.slot_str_split, F.type_str_split, typeIs_str _ _ _, (fun _ e => nomatch e), Calls.callWith_builtin rfl (Calls.evalArgs_plain (Calls.spliced_cons ?_))⟩
  exact thn (he.run pins s1 σ H1 _ I1 q1) fun u s2 ⟨y, H2, I2, r2, q2⟩ => Calls.spliced_nil (mt_split pins s2 σ H2 _ [y] _ [u] Q I2 r1 (.cons r2 .nil) q2)
/-- a if e == "z" else c -/
theorem pe_ifC (he : PE X e te) (ha : PE X a ta) (hc : L2.PET X c tb) {p1 p2 : Pos} : PE X (.IfExp (.Compare e [.Eq] [.Constant (.str z) j p1] p2) a c pos) (tIf (tTest (tOp rEq te (tC (.str z)))) ta tb) := by
  refine ⟨fun pins s σ H Q I h => ?_⟩
  refine wpAny_IfExp (wpAny_isTrue_Compare1 (thn (he.run pins s σ H _ I h) fun v s1 ⟨x, H1, I1, r1, q1⟩ => Calls.Constant_str ?_) (nomark _))
  have I2 := I1.tok (s1.toks + 1)
  have q1 : rEq x (.str z) H1 fun x H' => ∃ k, x = V.bl k ∧ (if k = true then ta σ H' Q else tb σ H' Q) := q1
  have run := PySem.wpAny_toks (op_eq pins { s1 with toks := s1.toks + 1 } σ H1 x (.str z) v (.str z s1.toks) _ I2 r1 ⟨_, rfl⟩ q1)
  refine wpAny_mono run (fun b s3 q => ?_) fun _ _ z => z.2
  obtain ⟨hk, w', H3, I3, r3, k, e3, q3⟩ := q
  subst e3
  cases r3
  refine wpAny_truthy_bool ?_
  cases k with
  | true => exact ha.run pins s3 σ H3 Q I3 q3
  | false => exact hc pins s3 σ H3 Q (Nat.le_trans (Nat.succ_le_succ (Nat.zero_le _)) hk) I3 q3
end
end G


namespace G
open PySem PySem.Spec PyProof.Rows L2
def keysR (r : Row) : List Str := r.map (·.1)
def putR (r : Row) (x : Str) (i : Int) : Row := if (r.any fun p => decide (p.1 = x)) = true then r.map (fun p => if p.1 = x then (p.1, i) else p) else r ++ [(x, i)]
def valR (r : Row) (x : Str) : Option Int := (r.find? fun p => decide (p.1 = x)).map (·.2)
def fac (r : Row) (x : Str) : Int := (valR r x).getD 0
def mergeR (r s : Row) : Row := s.foldl (fun acc p => putR acc p.1 p.2) r
/-- a row and a multiple of another one -/
def sumR (r s : Row) (t : Int) : Row := s.foldl (fun acc p => putR acc p.1 (fac acc p.1 + p.2 * t)) r
theorem kvR_any (r : Row) (x : Str) : ((kvR r).any fun kv => decide (kv.1 = Sum.inr x)) = r.any fun p => decide (p.1 = x) := by
  unfold kvR
  rw [List.any_map]
  congr 1
  funext p
  simp
theorem kvR_put (r : Row) (x : Str) (i : Int) : putK (kvR r) (Sum.inr x) (.int i) = kvR (putR r x i) := by
  unfold putK putR
  rw [kvR_any]
  by_cases h : (r.any fun p => decide (p.1 = x)) = true
  · rw [if_pos h, if_pos h]
    unfold kvR
    rw [List.map_map, List.map_map]
    refine List.map_congr_left fun p _ => ?_
    by_cases e : p.1 = x
    · simp [e]
    · simp [e]
  · rw [if_neg h, if_neg h]
    unfold kvR
    rw [List.map_append]
    rfl
theorem kvR_val (r : Row) (x : Str) : valV (kvR r) (Sum.inr x) = (valR r x).map V.int := by
  unfold valV valR kvR
  rw [List.find?_map]
  have e : ((fun kv : Key × V => decide (kv.1 = Sum.inr x)) ∘ fun p : Str × Int => ((Sum.inr p.1 : Key), V.int p.2)) = fun p => decide (p.1 = x) := by
    funext p
    simp
  rw [e]
  cases r.find? fun p => decide (p.1 = x) <;> rfl
theorem kvR_merge : ∀ (s r : Row), mergeK (kvR r) (kvR s) = kvR (mergeR r s)
  | [], r => rfl
  | p :: s, r => by
    show mergeK (putK (kvR r) (Sum.inr p.1) (V.int p.2)) (kvR s) = _
    rw [kvR_put, kvR_merge s]
    rfl
theorem kvR_len (r : Row) : (kvR r).length = r.length := by unfold kvR; exact List.length_map _
theorem valR_none {r : Row} {x : Str} : valR r x = none ↔ x ∉ keysR r := by
  unfold valR keysR
  rw [Option.map_eq_none_iff, List.find?_eq_none]
  constructor
  · rintro h m
    obtain ⟨p, hp, e⟩ := List.mem_map.mp m
    exact h p hp (by simpa using e)
  · intro h p hp e
    exact h (List.mem_map.mpr ⟨p, hp, by simpa using e⟩)
theorem any_keys {r : Row} {x : Str} : (r.any fun p => decide (p.1 = x)) = true ↔ x ∈ keysR r := by
  unfold keysR
  rw [List.any_eq_true, List.mem_map]
  simp
theorem keysR_put (r : Row) (x : Str) (i : Int) : keysR (putR r x i) = if x ∈ keysR r then keysR r else keysR r ++ [x] := by
  unfold putR
  by_cases h : x ∈ keysR r
  · rw [if_pos (any_keys.mpr h), if_pos h]
    unfold keysR
    rw [List.map_map]
    refine List.map_congr_left fun p _ => ?_
    by_cases e : p.1 = x <;> simp [e]
  · rw [if_neg (fun z => h (any_keys.mp z)), if_neg h]
    unfold keysR
    rw [List.map_append]
    rfl
theorem nodup_put {r : Row} {x : Str} {i : Int} (h : (keysR r).Nodup) : (keysR (putR r x i)).Nodup := by
  rw [keysR_put]
  split
  · exact h
  · rename_i hx
    rw [List.nodup_append]
    refine ⟨h, by simp, fun a ha b hb e => ?_⟩
    have : b = x := by simpa using hb
    exact hx (by rw [← this, ← e]; exact ha)
theorem find_map_put (x y : Str) (i : Int) : ∀ r : Row, valR (r.map fun p => if p.1 = x then (p.1, i) else p) y = if y = x then (if x ∈ keysR r then some i else none) else valR r y
  | [] => by simp [valR, keysR]
  | p :: r => by
    have ih := find_map_put x y i r
    unfold valR at ih ⊢
    rw [List.map_cons, List.find?_cons, List.find?_cons]
    by_cases e : p.1 = x
    · simp only [e, if_true]
      by_cases e2 : x = y
      · subst e2
        simp [keysR, e]
      · have e3 : ¬ y = x := fun z => e2 z.symm
        simp only [e2, decide_false, e3, if_false] at ih ⊢
        exact ih
    · simp only [e, if_false]
      by_cases e2 : p.1 = y
      · have e3 : ¬ y = x := fun z => e (e2.trans z)
        simp [e2, e3]
      · simp only [e2, decide_false]
        rw [ih]
        have e4 : x ∈ keysR (p :: r) ↔ x ∈ keysR r := by
          unfold keysR
          rw [List.map_cons, List.mem_cons]
          exact ⟨fun h => h.resolve_left fun z => e z.symm, .inr⟩
        simp only [e4]
theorem valR_app (r s : Row) (y : Str) : valR (r ++ s) y = (valR r y).or (valR s y) := by
  unfold valR
  rw [List.find?_append]
  cases r.find? fun p => decide (p.1 = y) <;> simp
theorem valR_put (r : Row) (x y : Str) (i : Int) : valR (putR r x i) y = if y = x then some i else valR r y := by
  unfold putR
  by_cases h : x ∈ keysR r
  · rw [if_pos (any_keys.mpr h), find_map_put]
    simp [h]
  · rw [if_neg (fun z => h (any_keys.mp z)), valR_app]
    by_cases e : y = x
    · subst e
      rw [valR_none.mpr h]
      simp [valR]
    · have e2 : ¬ x = y := fun z => e z.symm
      have : valR [(x, i)] y = none := by simp [valR, e2]
      rw [this, if_neg e]
      cases valR r y <;> rfl
theorem fac_put (r : Row) (x y : Str) (i : Int) : fac (putR r x i) y = if y = x then i else fac r y := by
  unfold fac
  rw [valR_put]
  split <;> rfl
theorem fac_nil (x : Str) : fac [] x = 0 := rfl
theorem fac_cons (p : Str × Int) (r : Row) (x : Str) : fac (p :: r) x = if p.1 = x then p.2 else fac r x := by
  unfold fac valR
  rw [List.find?_cons]
  by_cases e : p.1 = x <;> simp [e]
theorem fac_out {r : Row} {x : Str} (h : x ∉ keysR r) : fac r x = 0 := by
  unfold fac
  rw [valR_none.mpr h]
  rfl
theorem fac_mem {r : Row} (nd : (keysR r).Nodup) {p : Str × Int} (h : p ∈ r) : fac r p.1 = p.2 := by
  induction r with
  | nil => simp at h
  | cons q r ih =>
    rw [fac_cons]
    unfold keysR at nd
    rw [List.map_cons, List.nodup_cons] at nd
    rcases List.mem_cons.mp h with rfl | h
    · simp
    · have : q.1 ≠ p.1 := fun z => nd.1 (by rw [z]; exact List.mem_map.mpr ⟨p, h, rfl⟩)
      rw [if_neg this]
      exact ih nd.2 h
theorem mem_keys {r : Row} {p : Str × Int} (h : p ∈ r) : p.1 ∈ keysR r := List.mem_map.mpr ⟨p, h, rfl⟩
theorem sum_snoc (r s : Row) (p : Str × Int) (t : Int) : sumR r (s ++ [p]) t = putR (sumR r s t) p.1 (fac (sumR r s t) p.1 + p.2 * t) := by
  unfold sumR
  rw [List.foldl_append]
  rfl
theorem sum_nodup (t : Int) : ∀ (s r : Row), (keysR r).Nodup → (keysR (sumR r s t)).Nodup
  | [], r, h => h
  | p :: s, r, h => sum_nodup t s _ (nodup_put h)
theorem sum_keys (t : Int) (P : Str → Prop) : ∀ (s r : Row), (∀ x ∈ keysR r, P x) → (∀ x ∈ keysR s, P x) → ∀ x ∈ keysR (sumR r s t), P x
  | [], r, h, _ => h
  | p :: s, r, h, h2 => by
    refine sum_keys t P s _ ?_ fun x hx => h2 x (List.mem_cons_of_mem _ hx)
    intro x hx
    rw [keysR_put] at hx
    split at hx
    · exact h x hx
    · rcases List.mem_append.mp hx with hx | hx
      · exact h x hx
      · have : x = p.1 := by simpa using hx
        exact h2 x (by rw [this]; exact List.mem_cons_self)
theorem len_put (r : Row) (x : Str) (i : Int) : (putR r x i).length ≤ r.length + 1 := by
  unfold putR
  split <;> simp
theorem sum_len (t : Int) : ∀ (s r : Row), (sumR r s t).length ≤ r.length + s.length
  | [], r => Nat.le_refl _
  | p :: s, r => by
    have h1 := sum_len t s (putR r p.1 (fac r p.1 + p.2 * t))
    have h2 := len_put r p.1 (fac r p.1 + p.2 * t)
    show (sumR (putR r p.1 (fac r p.1 + p.2 * t)) s t).length ≤ _
    rw [List.length_cons]
    omega
theorem put_new {r : Row} {x : Str} {i : Int} (h : x ∉ keysR r) : putR r x i = r ++ [(x, i)] := by
  unfold putR
  rw [if_neg (fun z => h (any_keys.mp z))]
theorem merge_new : ∀ (s r : Row), (keysR (r ++ s)).Nodup → mergeR r s = r ++ s
  | [], r, _ => by rw [List.append_nil]; rfl
  | p :: s, r, h => by
    have hn : p.1 ∉ keysR r := by
      intro z
      unfold keysR at h z
      rw [List.map_append, List.nodup_append] at h
      exact h.2.2 _ z p.1 (by simp) rfl
    have e : r ++ p :: s = (r ++ [p]) ++ s := by simp
    show mergeR (putR r p.1 p.2) s = _
    rw [put_new hn, e]
    exact merge_new s (r ++ [p]) (by rw [← e]; exact h)
structure Can (q : Row) : Prop where
  asc : (keysR q).Pairwise fun a b => a.cps.toList < b.cps.toList
  nz : ∀ p ∈ q, p.2 ≠ 0
theorem Can.nodup {q : Row} (h : Can q) : (keysR q).Nodup := List.Pairwise.imp (fun {a b} h e => by rw [e] at h; exact List.lt_irrefl _ h) h.asc
theorem Can.nil : Can [] := ⟨.nil, fun _ h => (List.not_mem_nil h).elim⟩
/-- q is the form's row of r -/
structure CanOf (r q : Row) : Prop where
  can : Can q
  fc : ∀ x, fac q x = fac r x
theorem Can.self {q : Row} (h : Can q) : CanOf q q := ⟨h, fun _ => rfl⟩
theorem can_keys {q : Row} (h : Can q) {x : Str} : x ∈ keysR q ↔ fac q x ≠ 0 := by
  constructor
  · intro m
    obtain ⟨p, hp, rfl⟩ := List.mem_map.mp m
    rw [fac_mem h.nodup hp]
    exact h.nz p hp
  · intro n
    exact Classical.byContradiction fun z => n (fac_out z)
theorem asc_uniq : ∀ {a b : List Str}, a.Pairwise (fun a b => a.cps.toList < b.cps.toList) → b.Pairwise (fun a b => a.cps.toList < b.cps.toList) → (∀ x, x ∈ a ↔ x ∈ b) → a = b
  | [], [], _, _, _ => rfl
  | [], y :: b, _, _, h => absurd ((h y).mpr List.mem_cons_self) List.not_mem_nil
  | x :: a, [], _, _, h => absurd ((h x).mp List.mem_cons_self) List.not_mem_nil
  | x :: a, y :: b, ha, hb, h => by
    have ha' := List.pairwise_cons.mp ha
    have hb' := List.pairwise_cons.mp hb
    have exy : x = y := by
      rcases List.mem_cons.mp ((h x).mp List.mem_cons_self) with e | m
      · exact e
      · rcases List.mem_cons.mp ((h y).mpr List.mem_cons_self) with e | m2
        · exact e.symm
        · exact absurd (hb'.1 x m) (SrtG.lst_asym (ha'.1 y m2))
    subst exy
    congr 1
    refine asc_uniq ha'.2 hb'.2 fun z => ?_
    have nx : ∀ {l : List Str}, (∀ b ∈ l, x.cps.toList < b.cps.toList) → x ∉ l := fun hl m => List.lt_irrefl _ (hl x m)
    constructor
    · intro m
      rcases List.mem_cons.mp ((h z).mp (List.mem_cons_of_mem _ m)) with e | m2
      · exact absurd (by rw [← e]; exact m) (nx ha'.1)
      · exact m2
    · intro m
      rcases List.mem_cons.mp ((h z).mpr (List.mem_cons_of_mem _ m)) with e | m2
      · exact absurd (by rw [← e]; exact m) (nx hb'.1)
      · exact m2
theorem row_eq : ∀ {a b : Row}, keysR a = keysR b → (keysR a).Nodup → (∀ x, fac a x = fac b x) → a = b
  | [], [], _, _, _ => rfl
  | [], _ :: _, h, _, _ => by simp [keysR] at h
  | _ :: _, [], h, _, _ => by simp [keysR] at h
  | p :: a, q :: b, h, nd, hf => by
    have h' : p.1 = q.1 ∧ keysR a = keysR b := by simpa [keysR] using h
    have nd' := List.nodup_cons.mp (show (p.1 :: keysR a).Nodup from nd)
    have e2 : p.2 = q.2 := by
      have := hf p.1
      rw [fac_cons, fac_cons, if_pos rfl, if_pos h'.1.symm] at this
      exact this
    have e : p = q := Prod.ext h'.1 e2
    subst e
    congr 1
    refine row_eq h'.2 nd'.2 fun x => ?_
    by_cases ex : p.1 = x
    · subst ex
      rw [fac_out nd'.1, fac_out (by rw [← h'.2]; exact nd'.1)]
    · have := hf x
      rw [fac_cons, fac_cons, if_neg ex, if_neg ex] at this
      exact this
theorem can_uniq {a b : Row} (ha : Can a) (hb : Can b) (h : ∀ x, fac a x = fac b x) : a = b := by
  refine row_eq (asc_uniq ha.asc hb.asc fun x => ?_) ha.nodup h
  rw [can_keys ha, can_keys hb, h x]
theorem CanOf.uniq {r a b : Row} (ha : CanOf r a) (hb : CanOf r b) : a = b := can_uniq ha.can hb.can fun x => (ha.fc x).trans (hb.fc x).symm
theorem fac_perm {a b : Row} (p : a.Perm b) (nd : (keysR a).Nodup) (x : Str) : fac a x = fac b x := by
  have nb : (keysR b).Nodup := (p.map _).nodup_iff.mp nd
  by_cases h : x ∈ keysR a
  · obtain ⟨q, hq, rfl⟩ := List.mem_map.mp h
    rw [fac_mem nd hq, fac_mem nb (p.mem_iff.mp hq)]
  · rw [fac_out h, fac_out (fun z => h ((p.map (·.1)).mem_iff.mpr z))]
theorem keys_filter {r : Row} {f : Str × Int → Bool} (nd : (keysR r).Nodup) : (keysR (r.filter f)).Nodup := List.Nodup.sublist ((List.filter_sublist).map _) nd
theorem fac_filter {r : Row} (nd : (keysR r).Nodup) (x : Str) : fac (r.filter fun p => decide (p.2 ≠ 0)) x = fac r x := by
  by_cases h : x ∈ keysR r
  · obtain ⟨q, hq, rfl⟩ := List.mem_map.mp h
    rw [fac_mem nd hq]
    by_cases z : q.2 = 0
    · rw [z]
      refine fac_out fun m => ?_
      obtain ⟨q', hq', e⟩ := List.mem_map.mp m
      have hq2 := List.mem_filter.mp hq'
      have := fac_mem nd hq2.1
      rw [e, fac_mem nd hq, z] at this
      have h2 := hq2.2
      simp [← this] at h2
    · exact fac_mem (keys_filter nd) (List.mem_filter.mpr ⟨hq, by simpa using z⟩)
  · rw [fac_out h]
    refine fac_out fun m => h ?_
    obtain ⟨q', hq', e⟩ := List.mem_map.mp m
    exact e ▸ mem_keys (List.mem_filter.mp hq').1
/-- what sorted gives of a row without its 0s -/
theorem can_of_sorted {r q : Row} (nd : (keysR r).Nodup) (s : SrtO.Srtd SrtG.lxB q) (p : q.Perm (r.filter fun p => decide (p.2 ≠ 0))) : CanOf r q := by
  have nq : (keysR q).Nodup := (p.map _).nodup_iff.mpr (keys_filter nd)
  refine ⟨⟨?_, fun x hx => ?_⟩, fun x => by rw [fac_perm p nq, fac_filter nd]⟩
  · have : q.Pairwise fun a b => a.1.cps.toList < b.1.cps.toList := by
      have s' : q.Pairwise fun a b => SrtG.lxB b a = false := s
      have nq' : q.Pairwise fun a b => a.1 ≠ b.1 := List.pairwise_map.mp nq
      refine List.Pairwise.imp ?_ (List.Pairwise.and s' nq')
      rintro a b ⟨h1, h2⟩
      have h1 := SrtG.lxB_no.mp h1
      refine Classical.byContradiction fun h3 => ?_
      exact h2 (SrtG.cps_inj (SrtG.lst_tri h3 fun z => h1 (.inl z)))
    exact List.pairwise_map.mpr this
  · have := (List.mem_filter.mp (p.mem_iff.mp hx)).2
    simpa using this
theorem CanOf.mem {r q : Row} (h : CanOf r q) {p : Str × Int} (hp : p ∈ q) : p.1 ∈ keysR r ∧ p.2 = fac r p.1 := by
  have e : p.2 = fac r p.1 := by rw [← h.fc, fac_mem h.can.nodup hp]
  refine ⟨Classical.byContradiction fun z => h.can.nz p hp ?_, e⟩
  rw [e, fac_out z]
theorem nodup_sub_len {a b : List Str} (nd : a.Nodup) (h : ∀ x ∈ a, x ∈ b) : a.length ≤ b.length := nodup_le a b nd h
theorem CanOf.len {r q : Row} (h : CanOf r q) : q.length ≤ r.length := by
  have : (keysR q).length ≤ (keysR r).length := nodup_sub_len h.can.nodup fun x hx => by
    obtain ⟨p, hp, rfl⟩ := List.mem_map.mp hx
    exact (h.mem hp).1
  unfold keysR at this
  simpa using this
end G


namespace G
open PySem PySem.Spec PyProof.Rows L2 TL
def symS (z : Str) : Bool := decide (z = "@") || nameS z
def absI (i : Int) : Int := if i < 0 then -i else i
/-- a term without its sign -/
def wordR (p : Str × Int) : Str := if absI p.2 = 1 then p.1 else Str.ofString (toString (absI p.2)) ++ "*" ++ p.1
def partR (p : Str × Int) : Str := if p.2 < 0 then "-" ++ wordR p else wordR p
def tailR (p : Str × Int) : Str := if p.2 < 0 then " - " ++ wordR p else " + " ++ wordR p
def wordsR : Row → List Str
  | [] => []
  | p :: r => partR p :: r.map tailR
/-- the text of a form -/
def textR (r : Row) : Str := if r = [] then "0" else Txt.join "" (wordsR r)
abbrev Mi : List Nat := [32, 45, 32]
abbrev Pl : List Nat := [32, 43, 32]
abbrev Pm : List Nat := [32, 43, 32, 45]
theorem spl_free {acc rest : List Nat} : ∀ {h : List Nat}, 32 ∉ h → ∀ {acc : List Nat}, spl Mi 0 acc (h ++ rest) = spl Mi 0 (acc ++ h) rest
  | [], _, acc => by simp
  | c :: h, n, acc => by
    have hc : c ≠ 32 := fun z => n (by simp [z])
    have e : pre Mi (c :: (h ++ rest)) = false := by
      simp [pre]
      intro z
      exact absurd z hc
    show spl Mi 0 acc (c :: (h ++ rest)) = _
    rw [spl_miss e, spl_free (acc := acc ++ [c]) (fun z => n (by simp [z]))]
    simp
/-- a text of parts and signs -/
def tgl (h : List Nat) (rest : List (Bool × List Nat)) : List Nat := h ++ rest.flatMap fun b => (if b.1 then Mi else Pl) ++ b.2
theorem tgl_cons (h : List Nat) (b : Bool) (w : List Nat) (rest : List (Bool × List Nat)) : tgl h ((b, w) :: rest) = h ++ ((if b then Mi else Pl) ++ tgl w rest) := by
  simp [tgl, List.append_assoc]
theorem cut_minus : ∀ (rest : List (Bool × List Nat)) (h acc : List Nat), 32 ∉ h → (∀ b ∈ rest, 32 ∉ b.2 ∧ b.2.head? ≠ some 45 ∧ b.2 ≠ []) →
    joinL Pm (spl Mi 0 acc (tgl h rest)) = acc ++ joinL Pl (h :: rest.map fun b => if b.1 then 45 :: b.2 else b.2)
  | [], h, acc, hn, _ => by
    have e : tgl h [] = h := by simp [tgl]
    rw [e, spl_last1 hn]
    rfl
  | (true, w) :: rest, h, acc, hn, hr => by
    have hw := hr _ List.mem_cons_self
    rw [tgl_cons]
    have e := spl_part1 (s := 32) (S := [45, 32]) (p := h) (rest := tgl w rest) (acc := acc) hn
    have e' : spl Mi 0 acc (h ++ ((if true = true then Mi else Pl) ++ tgl w rest)) = (acc ++ h) :: spl Mi 0 [] (tgl w rest) := e
    rw [e']
    have ih := cut_minus rest w [] hw.1 fun b hb => hr b (List.mem_cons_of_mem _ hb)
    rw [List.nil_append] at ih
    cases hs : spl Mi 0 [] (tgl w rest) with
    | nil => exact absurd hs (by
        have : ∀ (k : Nat) (acc l : List Nat), spl Mi k acc l ≠ [] := by
          intro k acc l
          induction l generalizing k acc with
          | nil => rw [spl_nil]; simp
          | cons c r ih =>
            cases k with
            | zero =>
              unfold spl
              split
              · simp
              · exact ih _ _
            | succ k => exact ih k acc
        exact this _ _ _)
    | cons x xs =>
      rw [hs] at ih
      show (acc ++ h) ++ (Pm ++ joinL Pm (x :: xs)) = _
      rw [ih]
      show _ = acc ++ (h ++ (Pl ++ joinL Pl ((45 :: w) :: rest.map fun b => if b.1 then 45 :: b.2 else b.2)))
      have e2 : ∀ r : List (List Nat), joinL Pl ((45 :: w) :: r) = 45 :: joinL Pl (w :: r) := by
        intro r
        cases r <;> rfl
      rw [e2]
      simp
  | (false, w) :: rest, h, acc, hn, hr => by
    have hw := hr _ List.mem_cons_self
    rw [tgl_cons]
    have e' : spl Mi 0 acc (h ++ ((if false = true then Mi else Pl) ++ tgl w rest)) = spl Mi 0 (acc ++ h) (Pl ++ tgl w rest) := spl_free (acc := acc) hn
    rw [e']
    obtain ⟨c, cs, ec⟩ : ∃ c cs, tgl w rest = c :: cs := by
      cases hw2 : w with
      | nil => exact absurd hw2 hw.2.2
      | cons c cs => exact ⟨c, _, by simp [tgl]; rfl⟩
    have hc : c ≠ 45 := by
      intro z
      refine hw.2.1 ?_
      show w.head? = some 45
      cases hw2 : w with
      | nil => exact absurd hw2 hw.2.2
      | cons d ds =>
        rw [hw2] at ec
        simp [tgl] at ec
        rw [← z, ← ec.1]
        rfl
    have s1 : spl Mi 0 (acc ++ h) (32 :: 43 :: 32 :: c :: cs) = spl Mi 0 (acc ++ h ++ [32, 43, 32]) (c :: cs) := by
      rw [spl_miss (by simp [pre]), spl_miss (by simp [pre]), spl_miss (by simp [pre]; intro z; exact absurd z hc)]
      simp
    have ih := cut_minus rest w (acc ++ h ++ [32, 43, 32]) hw.1 fun b hb => hr b (List.mem_cons_of_mem _ hb)
    rw [ec] at ih ⊢
    show joinL Pm (spl Mi 0 (acc ++ h) (32 :: 43 :: 32 :: c :: cs)) = _
    rw [s1, ih]
    show _ = acc ++ (h ++ (Pl ++ joinL Pl (w :: rest.map fun b => if b.1 then 45 :: b.2 else b.2)))
    simp
theorem replace_join {x y z : Str} (hy : tl y ≠ []) (hk : y.cps.all (· < 256) = true) : Txt.replace x y z = Txt.join z (Txt.split x y) := by
  obtain ⟨f, g, hn⟩ := PySem.StrLaws.occ_tight x y (len1 hy)
  unfold Txt.replace Txt.split
  have hl : (y.length == 0) = false := by
    have := len1 hy
    simp
    omega
  by_cases h2 : (Builtin.Str.occurrences x y 0 x.length (x.length + 1)).isEmpty = true
  · rw [if_pos (by rw [h2]; rfl)]
    have j1 : Txt.join z [x] = x := by rw [join_eq]; rfl
    split
    · exact j1.symm
    · exact j1.symm
  · rw [if_neg (by rw [hl]; simp; simpa using h2)]
    have h1 : ¬ (decide (x.length < y.length) || decide (Builtin.Str.strKind x < Builtin.Str.strKind y)) = true := by
      simp only [Bool.or_eq_true, decide_eq_true_eq]
      rintro (h | h)
      · cases ho : Builtin.Str.occurrences x y 0 x.length (x.length + 1) with
        | nil => rw [ho] at h2; exact h2 rfl
        | cons c r =>
          rw [ho] at g
          have hc : c + y.length ≤ x.length := g.2.1.1
          omega
      · exact kind_ok hk h
    rw [if_neg h1, if_neg h2]
    rfl
theorem signs_ls {c : Nat} (h : c ∈ (letS ++ digS).cps.toList) : (48 ≤ c ∧ c ≤ 57) ∨ (97 ≤ c ∧ c ≤ 122) := by
  have : ∀ c ∈ (letS ++ digS).cps.toList, (48 ≤ c ∧ c ≤ 57) ∨ (97 ≤ c ∧ c ≤ 122) := by decide +kernel
  exact this c h
theorem name_signs {z : Str} (h : nameS z = true) : ∀ c ∈ tl z, (48 ≤ c ∧ c ≤ 57) ∨ (97 ≤ c ∧ c ≤ 122) := by
  unfold nameS at h
  simp only [Bool.and_eq_true, List.all_eq_true, decide_eq_true_eq] at h
  exact fun c hc => signs_ls (h.2 c hc)
theorem name_len {z : Str} (h : nameS z = true) : 1 ≤ z.length ∧ z.length ≤ 8 := by
  unfold nameS at h
  simp only [Bool.and_eq_true, List.all_eq_true, decide_eq_true_eq] at h
  exact h.1.1.1
theorem sym_signs {z : Str} (h : symS z = true) : ∀ c ∈ tl z, (48 ≤ c ∧ c ≤ 57) ∨ (97 ≤ c ∧ c ≤ 122) ∨ c = 64 := by
  unfold symS at h
  rw [Bool.or_eq_true, decide_eq_true_eq] at h
  rcases h with rfl | h
  · decide +kernel
  · intro c hc
    have := name_signs h c hc
    omega
theorem sym_len {z : Str} (h : symS z = true) : 1 ≤ z.length ∧ z.length ≤ 8 := by
  unfold symS at h
  rw [Bool.or_eq_true, decide_eq_true_eq] at h
  rcases h with rfl | h
  · decide +kernel
  · exact name_len h
theorem sym_ne {z : Str} (h : symS z = true) : tl z ≠ [] := by
  have := (sym_len h).1
  rw [len_tl] at this
  intro e
  rw [e] at this
  simp at this
/-- a first sign that is no digit -/
theorem sym_first {z : Str} (h : symS z = true) : ∃ c cs, tl z = c :: cs ∧ ((97 ≤ c ∧ c ≤ 122) ∨ c = 64) := by
  unfold symS at h
  rw [Bool.or_eq_true, decide_eq_true_eq] at h
  rcases h with rfl | h
  · exact ⟨64, [], by decide +kernel, .inr rfl⟩
  · unfold nameS at h
    simp only [Bool.and_eq_true, List.all_eq_true, decide_eq_true_eq] at h
    have h1 := h.1.2
    cases e : z.cps.toList with
    | nil => rw [e] at h1; simp at h1
    | cons c cs =>
      rw [e] at h1
      have : ∀ c ∈ letS.cps.toList, 97 ≤ c ∧ c ≤ 122 := by decide +kernel
      exact ⟨c, cs, e, .inl (this c (by simpa using h1))⟩
theorem absI_nat (i : Int) : absI i = (i.natAbs : Int) := by
  unfold absI
  split <;> omega
theorem tl_star : tl ("*" : Str) = [42] := by decide +kernel
theorem tl_word (p : Str × Int) : tl (wordR p) = if p.2.natAbs = 1 then tl p.1 else numL p.2.natAbs ++ 42 :: tl p.1 := by
  unfold wordR
  rw [absI_nat]
  by_cases h : p.2.natAbs = 1
  · rw [if_pos (by omega), if_pos h]
  · rw [if_neg (by omega), if_neg h, tl_append, tl_append, tl_num, tl_star]
    simp
theorem word_free {p : Str × Int} (h : symS p.1 = true) : ∀ c ∈ tl (wordR p), (48 ≤ c ∧ c ≤ 57) ∨ (97 ≤ c ∧ c ≤ 122) ∨ c = 64 ∨ c = 42 := by
  intro c hc
  rw [tl_word] at hc
  split at hc
  · have := sym_signs h c hc
    omega
  · rcases List.mem_append.mp hc with hc | hc
    · have := numL_digits _ c hc
      omega
    · rcases List.mem_cons.mp hc with hc | hc
      · omega
      · have := sym_signs h c hc
        omega
theorem word_ne {p : Str × Int} (h : symS p.1 = true) : tl (wordR p) ≠ [] := by
  rw [tl_word]
  split
  · exact sym_ne h
  · intro z
    have := congrArg List.length z
    simp at this
theorem tl_minus : tl ("-" : Str) = [45] := by decide +kernel
theorem tl_mi : tl (" - " : Str) = Mi := by decide +kernel
theorem tl_pl : tl (" + " : Str) = Pl := by decide +kernel
theorem tl_pm : tl (" + -" : Str) = Pm := by decide +kernel
theorem tl_part (p : Str × Int) : tl (partR p) = if p.2 < 0 then 45 :: tl (wordR p) else tl (wordR p) := by
  unfold partR
  split
  · rw [tl_append, tl_minus]; rfl
  · rfl
theorem tl_tail (p : Str × Int) : tl (tailR p) = (if decide (p.2 < 0) = true then Mi else Pl) ++ tl (wordR p) := by
  unfold tailR
  by_cases h : p.2 < 0
  · rw [if_pos h, tl_append, tl_mi, if_pos (by simpa using h)]
  · rw [if_neg h, tl_append, tl_pl, if_neg (by simpa using h)]
theorem joinL_nil : ∀ l : List (List Nat), joinL [] l = l.flatten
  | [] => rfl
  | [p] => by simp [joinL]
  | p :: q :: r => by
    show p ++ ([] ++ joinL [] (q :: r)) = _
    rw [joinL_nil (q :: r)]
    simp
theorem tl_text (p : Str × Int) (r : Row) : tl (textR (p :: r)) = tgl (tl (partR p)) (r.map fun q => (decide (q.2 < 0), tl (wordR q))) := by
  unfold textR
  rw [if_neg (by simp), join_eq, tl_join]
  have e0 : tl ("" : Str) = [] := by decide +kernel
  rw [e0, joinL_nil]
  unfold tgl wordsR
  rw [List.map_cons, List.flatten_cons, List.map_map, List.flatMap_map]
  congr 1
  rw [List.flatMap_def]
  congr 1
  refine List.map_congr_left fun q _ => ?_
  exact tl_tail q
/-- the parts of a form's text -/
theorem parts_text {r : Row} (hr : r ≠ []) (h : ∀ p ∈ r, symS p.1 = true) : Txt.split (Txt.replace (textR r) " - " " + -") " + " = r.map partR := by
  cases r with
  | nil => exact absurd rfl hr
  | cons p r =>
    have hm : tl (" - " : Str) ≠ [] := by rw [tl_mi]; simp
    have hk : (" - " : Str).cps.all (· < 256) = true := by decide +kernel
    have hk2 : (" + " : Str).cps.all (· < 256) = true := by decide +kernel
    have fr : ∀ {q : Str × Int}, symS q.1 = true → 32 ∉ tl (partR q) := by
      intro q hq z
      rw [tl_part] at z
      split at z
      · rcases List.mem_cons.mp z with z | z
        · omega
        · have := word_free hq _ z
          omega
      · have := word_free hq _ z
        omega
    have e : Txt.replace (textR (p :: r)) " - " " + -" = Txt.join " + " ((p :: r).map partR) := by
      refine ext_tl ?_
      rw [replace_join hm hk, join_eq, tl_join, split_spl _ _ hm (kind_ok hk), tl_mi, tl_pm, tl_text, cut_minus _ _ _ (fr (h p List.mem_cons_self)), join_eq, tl_join, tl_pl, List.nil_append]
      · congr 1
        rw [List.map_cons, List.map_cons, List.map_map, List.map_map]
        congr 1
        refine List.map_congr_left fun q _ => ?_
        show (if decide (q.2 < 0) = true then 45 :: tl (wordR q) else tl (wordR q)) = tl (partR q)
        rw [tl_part]
        by_cases hq : q.2 < 0 <;> simp [hq]
      · intro b hb
        obtain ⟨q, hq, rfl⟩ := List.mem_map.mp hb
        have hs := h q (List.mem_cons_of_mem _ hq)
        refine ⟨fun z => ?_, fun z => ?_, word_ne hs⟩
        · have := word_free hs _ z
          omega
        · have := word_free hs 45 (List.mem_of_mem_head? z)
          omega
    rw [e]
    refine split_join (s := 32) (S := [43, 32]) tl_pl hk2 (by simp) ?_
    intro q hq
    obtain ⟨q', hq', rfl⟩ := List.mem_map.mp hq
    exact fr (h q' hq')
end G


namespace G
open PySem PySem.Spec PyProof.Rows L2 TL
def signF (z : Str) : Int × Str := if cutS z none (some 1) = "-" then (0 - 1, cutS z (some 1) none) else (1, z)
def numF (z : Str) : Str × Str := if (Txt.partition z "*").2.1 = "" then ("1", z) else ((Txt.partition z "*").1, (Txt.partition z "*").2.2)
def digF (z : Str) : Bool := (tl z).all fun c => decide (c ∈ digS.cps.toList)
def termF (z : Str) : Option (Str × Int) :=
  if symS (numF (signF z).2).2 = true ∧ (numF (signF z).2).1 ≠ "" ∧ digF (numF (signF z).2).1 = true then some ((numF (signF z).2).2, (signF z).1 * (NumText.digitsVal (tl (numF (signF z).2).1) : Nat)) else none
def partsF (z : Str) : List Str := if z = "0" then [] else Txt.split (Txt.replace z " - " " + -") " + "
/-- the factors that a text tells -/
def rawF (z : Str) : Option Row := (partsF z).foldlM (fun acc part => (termF part).map fun t => putR acc t.1 t.2) []
theorem dig_of {c : Nat} : c ∈ digS.cps.toList ↔ 48 ≤ c ∧ c ≤ 57 := by
  constructor
  · have : ∀ c ∈ digS.cps.toList, 48 ≤ c ∧ c ≤ 57 := by decide +kernel
    exact this c
  · rintro ⟨h1, h2⟩
    have : ∀ k : Fin 10, 48 + k.1 ∈ digS.cps.toList := by decide +kernel
    have := this ⟨c - 48, by omega⟩
    have e : 48 + (c - 48) = c := by omega
    simpa [e] using this
theorem digF_all {z : Str} : digF z = true ↔ NumText.AllDigits (tl z) := by
  unfold digF NumText.AllDigits
  rw [List.all_eq_true]
  constructor
  · intro h c hc
    exact dig_of.mp (by simpa using h c hc)
  · intro h c hc
    exact decide_eq_true (dig_of.mpr (h c hc))
theorem cut1_tl (z : Str) : tl (cutS z none (some 1)) = (tl z).take 1 := by
  unfold cutS
  have e1 : HT.sIx z.length 0 none = 0 := rfl
  have e2 : HT.sIx z.length z.length (some 1) = min 1 z.length := by
    have := HT.sIx_nat z.length z.length 1
    simpa using this
  rw [tl_mk, e1, e2, len_tl, List.drop_zero, Nat.sub_zero]
  show List.take (min 1 z.cps.toList.length) z.cps.toList = List.take 1 z.cps.toList
  generalize z.cps.toList = l
  cases l with
  | nil => rfl
  | cons c cs => simp
theorem cutT_tl (z : Str) : tl (cutS z (some 1) none) = (tl z).drop 1 := by
  unfold cutS
  have e1 : HT.sIx z.length z.length none = z.length := rfl
  have e2 : HT.sIx z.length 0 (some 1) = min 1 z.length := by
    have := HT.sIx_nat z.length 0 1
    simpa using this
  rw [tl_mk, e1, e2, len_tl]
  show List.take (z.cps.toList.length - min 1 z.cps.toList.length) (List.drop (min 1 z.cps.toList.length) z.cps.toList) = List.drop 1 z.cps.toList
  generalize z.cps.toList = l
  cases l with
  | nil => rfl
  | cons c cs => simp
theorem signF_neg {w : Str} : signF ("-" ++ w) = (0 - 1, w) := by
  have h1 : tl ("-" ++ w) = 45 :: tl w := by rw [tl_append, tl_minus]; rfl
  unfold signF
  have e1 : cutS ("-" ++ w) none (some 1) = "-" := ext_tl (by rw [cut1_tl, h1, tl_minus]; rfl)
  have e2 : cutS ("-" ++ w) (some 1) none = w := ext_tl (by rw [cutT_tl, h1]; rfl)
  rw [if_pos e1, e2]
theorem signF_pos {w : Str} (h : (tl w).head? ≠ some 45) : signF w = (1, w) := by
  unfold signF
  rw [if_neg]
  intro e
  have := congrArg tl e
  rw [cut1_tl, tl_minus] at this
  cases hw : tl w with
  | nil => rw [hw] at this; simp at this
  | cons c cs =>
    rw [hw] at this h
    simp at this
    exact h (by rw [this]; rfl)
theorem numF_word {p : Str × Int} (h : symS p.1 = true) : numF (wordR p) = if p.2.natAbs = 1 then (("1" : Str), p.1) else (Str.ofString (toString ((p.2.natAbs : Nat) : Int)), p.1) := by
  have hs : tl ("*" : Str) = 42 :: [] := tl_star
  have nf : 42 ∉ tl p.1 := fun z => by
    have := sym_signs h _ z
    omega
  by_cases h1 : p.2.natAbs = 1
  · have e : wordR p = p.1 := ext_tl (by rw [tl_word, if_pos h1])
    rw [e, if_pos h1]
    unfold numF
    rw [partition_none hs nf]
    rfl
  · have e : wordR p = Str.ofString (toString ((p.2.natAbs : Nat) : Int)) ++ "*" ++ p.1 := ext_tl (by rw [tl_word, if_neg h1, tl_append, tl_append, tl_num, tl_star]; simp)
    rw [e, if_neg h1]
    unfold numF
    rw [partition_app hs (by rw [tl_num]; exact numL_free (by omega))]
    rfl
/-- a term's text tells the term -/
theorem termF_part {p : Str × Int} (h : symS p.1 = true) (h0 : p.2 ≠ 0) : termF (partR p) = some p := by
  have hd : (tl (wordR p)).head? ≠ some 45 := fun z => by
    have := word_free h 45 (List.mem_of_mem_head? z)
    omega
  have e1 : signF (partR p) = (if p.2 < 0 then 0 - 1 else 1, wordR p) := by
    unfold partR
    split
    · exact signF_neg
    · exact signF_pos hd
  have e2 := numF_word h
  have main : ∀ n : Str, numF (wordR p) = (n, p.1) → n ≠ "" → digF n = true → (NumText.digitsVal (tl n) : Nat) = p.2.natAbs → termF (partR p) = some p := by
    intro n hn hne hdg hv
    unfold termF
    rw [e1]
    simp only [hn]
    rw [if_pos ⟨h, hne, hdg⟩, hv]
    congr 1
    refine Prod.ext rfl ?_
    show (if p.2 < 0 then (0 - 1 : Int) else 1) * ((p.2.natAbs : Nat) : Int) = p.2
    split <;> omega
  by_cases h1 : p.2.natAbs = 1
  · rw [if_pos h1] at e2
    exact main "1" e2 (by decide) (by decide +kernel) (by rw [h1]; decide +kernel)
  · rw [if_neg h1] at e2
    refine main _ e2 ?_ ?_ ?_
    · intro z
      have := congrArg tl z
      rw [tl_num] at this
      exact numL_ne _ (this.trans (by decide +kernel))
    · rw [digF_all, tl_num]
      exact numL_digits _
    · rw [tl_num, numL_val]
theorem text_nil : textR [] = "0" := rfl
theorem text_ne {p : Str × Int} {r : Row} (h : symS p.1 = true) : textR (p :: r) ≠ "0" := by
  intro z
  have := congrArg tl z
  rw [tl_text, tl_part] at this
  have e0 : tl ("0" : Str) = [48] := by decide +kernel
  rw [e0] at this
  unfold tgl at this
  split at this
  · simp at this
  · obtain ⟨c, cs, e, hc⟩ := sym_first h
    rw [tl_word] at this
    have hl := congrArg List.length this
    split at this
    · rw [e] at this
      simp at this
      omega
    · rw [e] at this
      rename_i h1 h2
      rw [if_neg h2, e] at hl
      have := List.length_pos_iff.mpr (numL_ne p.2.natAbs)
      simp at hl
      omega
theorem fold_parts : ∀ (r acc : Row), (∀ p ∈ r, symS p.1 = true ∧ p.2 ≠ 0) → (r.map partR).foldlM (fun acc part => (termF part).map fun t => putR acc t.1 t.2) acc = some (mergeR acc r)
  | [], acc, _ => rfl
  | p :: r, acc, h => by
    obtain ⟨h1, h2⟩ := h p List.mem_cons_self
    rw [List.map_cons, List.foldlM_cons, termF_part h1 h2]
    exact fold_parts r _ fun q hq => h q (List.mem_cons_of_mem _ hq)
/-- a form's text tells its row -/
theorem rawF_text {r : Row} (c : Can r) (h : ∀ p ∈ r, symS p.1 = true) : rawF (textR r) = some r := by
  unfold rawF partsF
  cases r with
  | nil => rfl
  | cons p r =>
    rw [if_neg (text_ne (h p List.mem_cons_self)), parts_text (by simp) h, fold_parts _ _ fun q hq => ⟨h q hq, c.nz q hq⟩, merge_new _ _ (by simpa using c.nodup)]
    rfl
end G


namespace G
open PySem PySem.Spec PyProof.Rows L2 StX ClX
section
variable {P : Program} {w : World} {K : PySem.W.Frag} {mg : Str → Option Value} {base : Heap}
/-- the class at C has the def m -/
def AtM (K : PySem.W.Frag) (C : Addr) (m q : Str) (st : Stmt) : Prop := ∃ (f : Addr) (fd : FuncData), Fun K m q st f fd ∧ Meth K C m f
structure HasMB0 (gb : Bool) (P : Program) (w : World) (K : PySem.W.Frag) (mg : Str → Option Value) (base : Heap) (C : Addr) (m : Str) (ps : List Str) (k : Nat) (sp : Sp) (f : Addr) (fd : FuncData) : Prop where
  me : Meth K C m f
  bi : Binds K fd ps []
  ok : FgB gb P w K mg base CX0 k f fd ps sp
abbrev HasM0 := HasMB0 true
def HasMB (gb : Bool) (P : Program) (w : World) (K : PySem.W.Frag) (mg : Str → Option Value) (base : Heap) (C : Addr) (m : Str) (st : Stmt) (ps : List Str) (k : Nat) (sp : Sp) : Prop := ∃ f fd q, Fun K m q st f fd ∧ HasMB0 gb P w K mg base C m ps k sp f fd
abbrev HasM := HasMB true
theorem hasM_mk {gb : Bool} {C : Addr} {m q : Str} {st : Stmt} {N ps : List Str} {k : Nat} {sp : Sp} (D : AtM K C m q st)
    (S : FnScope N ps (defScope st)) (len : ∀ vs H Q E, sp vs H Q E → vs.length = ps.length)
    (hbi : ∀ (kV doc pm : Value) (an : Option Addr) (cdv ct : Value) (us : List Value), us.length = ps.length →
      bindArgs (PySem.W.fnOf m q (defArgs st) (defBody st) (defScope st) .none kV doc pm an cdv ct) ⟨us, []⟩ = pure (ps.zip us))
    (hb : ∀ (f : Addr) (cdv : Value) (A : Around) (outer : List Env) (s : Shared) (H : Hp) (vs : List V) (Q : VK) (E : XK),
      Room k (A.deeper (envOfC q (defScope st) s.heap.objs.size f cdv)) → GdB gb (A.deeper (envOfC q (defScope st) s.heap.objs.size f cdv)) →
      sp vs H Q E → ∃ t, PSs (cxOf CX0 P w K mg base N q (defScope st) f cdv A outer s H E).nox (defBody st) t ∧
        t { nx := fun _ H' => Q .non H', rt := Q } (start N vs) H) :
    HasMB gb P w K mg base C m st ps (k + 1) sp := by
  obtain ⟨f, fd, F, hm⟩ := D
  exact ⟨f, fd, q, F, hm, F.binds hbi, ok0 F S len fun cdv A outer s H vs Q E hr hg h => hb f cdv A outer s H vs Q E hr hg h⟩
/-- .. a staticmethod m -/
def AtS (K : PySem.W.Frag) (C : Addr) (m q : Str) (st : Stmt) : Prop := ∃ (f : Addr) (fd : FuncData), Fun K m q st f fd ∧ ∃ mc p, CRead K C mc ∧ SMet K C mc m p f
structure HasS0 (P : Program) (w : World) (K : PySem.W.Frag) (mg : Str → Option Value) (base : Heap) (C : Addr) (m : Str) (ps : List Str) (k : Nat) (sp : Sp) (f : Addr) (fd : FuncData) : Prop where
  me : ∃ mc p, CRead K C mc ∧ SMet K C mc m p f
  bi : Binds K fd ps []
  ok : Fg P w K mg base CX0 k f fd ps sp
def HasS (P : Program) (w : World) (K : PySem.W.Frag) (mg : Str → Option Value) (base : Heap) (C : Addr) (m : Str) (st : Stmt) (ps : List Str) (k : Nat) (sp : Sp) : Prop := ∃ f fd q, Fun K m q st f fd ∧ HasS0 P w K mg base C m ps k sp f fd
theorem hasS_mk {C : Addr} {m q : Str} {st : Stmt} {N ps : List Str} {k : Nat} {sp : Sp} (D : AtS K C m q st)
    (S : FnScope N ps (defScope st)) (len : ∀ vs H Q E, sp vs H Q E → vs.length = ps.length)
    (hbi : ∀ (kV doc pm : Value) (an : Option Addr) (cdv ct : Value) (us : List Value), us.length = ps.length →
      bindArgs (PySem.W.fnOf m q (defArgs st) (defBody st) (defScope st) .none kV doc pm an cdv ct) ⟨us, []⟩ = pure (ps.zip us))
    (hb : ∀ (f : Addr) (cdv : Value) (A : Around) (outer : List Env) (s : Shared) (H : Hp) (vs : List V) (Q : VK) (E : XK),
      Room k (A.deeper (envOfC q (defScope st) s.heap.objs.size f cdv)) → Gd (A.deeper (envOfC q (defScope st) s.heap.objs.size f cdv)) →
      sp vs H Q E → ∃ t, PSs (cxOf CX0 P w K mg base N q (defScope st) f cdv A outer s H E).nox (defBody st) t ∧
        t { nx := fun _ H' => Q .non H', rt := Q } (start N vs) H) :
    HasS P w K mg base C m st ps (k + 1) sp := by
  obtain ⟨f, fd, F, hm⟩ := D
  exact ⟨f, fd, q, F, hm, F.binds hbi, ok0 F S len fun cdv A outer s H vs Q E hr hg h => hb f cdv A outer s H vs Q E hr hg h⟩
/-- .. it is made by its def __init__(a, **d) -/
def AtK (K : PySem.W.Frag) (mg : Str → Option Value) (C : Addr) (x q : Str) (st : Stmt) : Prop := ∃ (f : Addr) (fd : FuncData), Fun K "__init__" q st f fd ∧ L2.Mk K C f ∧ mg x = some (.ref C)
def HasKB (gb : Bool) (P : Program) (w : World) (K : PySem.W.Frag) (mg : Str → Option Value) (base : Heap) (C : Addr) (x : Str) (k : Nat) (sp : List V → List (Str × V) → Hp → VK → XK → Prop) : Prop := ∃ f, L2.Mk K C f ∧ mg x = some (.ref C) ∧ FkB gb P w K mg base CX0 k f sp
abbrev HasK := HasKB true
theorem hasK_mk {gb : Bool} {C : Addr} {x q : Str} {st : Stmt} {N : List Str} {k : Nat} {a1 a2 : Arg} {sp : Sp} (D : AtK K mg C x q st)
    (hp : defArgs st = { posonlyargs := [], args := [a1], vararg := none, kwonlyargs := [], kw_defaults := [], kwarg := some a2, defaults := [] })
    (S : FnScope N [a1.arg, a2.arg] (defScope st))
    (hb : ∀ (f : Addr) (cdv : Value) (A : Around) (outer : List Env) (s : Shared) (H : Hp) (vs : List V) (Q : VK) (E : XK),
      Room k (A.deeper (envOfC q (defScope st) s.heap.objs.size f cdv)) → GdB gb (A.deeper (envOfC q (defScope st) s.heap.objs.size f cdv)) →
      sp vs H Q E → ∃ t, PSs (cxOf CX0 P w K mg base N q (defScope st) f cdv A outer s H E).nox (defBody st) t ∧
        t { nx := fun _ H' => Q .non H', rt := Q } (start N vs) H) :
    HasKB gb P w K mg base C x (k + 1) (fun vs ys H Q E => ∃ v, vs = [v] ∧ (∀ p ∈ ys, (p.1 == a1.arg) = false) ∧ (ys.map (·.1)).Nodup ∧ ys.length ≤ sizeLine ∧ ∀ d, H d = none → sp [v, .ref d] (upd H d (.dK (inrs ys))) Q E) := by
  obtain ⟨f, fd, F, hm, hg⟩ := D
  obtain ⟨oc, od, kV, doc, pm, an, cdv, ct, osl, rfl, lk, hcd⟩ := F.ex
  refine ⟨f, hm, hg, fk_kw lk hcd hp S cxUp_none fun A outer s H vs Q E hr hg' hsp => ?_⟩
  obtain ⟨t, h, q⟩ := hb f cdv A outer s H vs Q E hr hg' hsp
  exact ⟨t, h.nox, q⟩
end
section
variable {X : Cx} {k : Nat} {C : Addr} {st : Stmt} {ps ks : List Str} {sp : Sp} {spk : List V → List (Str × V) → Hp → VK → XK → Prop} {x m : Str} {p pos apos kp : Pos} {o e : Expr} {es : List Expr} {ta te : TE} {t tk : TA} {kws : List Keyword}
/-- C(**e) -/
theorem peMk {gb : Bool} (h : HasKB gb X.prog X.w X.K X.mg X.base C x k spk) (hr : Room (k + 1) X.A) (hgd : GdB gb X.A) (hg : Gl X x) (he : PE X e te) (hdb : (x == ("__debug__" : Str)) = false := by decide) :
    PE X (.Call (.Name x p) [] [⟨none, e, kp⟩] pos) (tMakeSS C spk E0 te) := by
  obtain ⟨f, M, hm, F⟩ := h
  exact pe_makeSS M F hr hgd hg hm pass0 he hdb
/-- C.m(e, ..), m a staticmethod -/
theorem peHS {pl : Sem Bool} (h : HasS X.prog X.w X.K X.mg X.base C m st ps k sp) (hr : Room k X.A) (hgd : Gd X.A) (he : PE X o ta) (ha : PA X (e :: es) t)
    (hst : starEach (e :: es) X.env = (false, eval e X.env) :: starEach es X.env := by rfl)
    (hpl : (backTo pos (starEach es X.env)).any (·.1) = false := by rfl)
    (ht : eval (.Call (.Attribute o m apos) (e :: es) [] pos) X.env = (do
      let ov ← eval o X.env
      standAt apos.atName
      let (f, first) ← holding [ov] (getMethod ov m pl)
      callWith pos f first (backTo pos (starEach (e :: es) X.env)) (backToKw pos (keywordEach [] X.env))) := by rfl) :
    PE X (.Call (.Attribute o m apos) (e :: es) [] pos) (tSMeth C sp [] E0 ta t) := by
  obtain ⟨f, fd, q, _, ⟨⟨mc, p, r, c⟩, bi, ok⟩⟩ := h
  exact peSM he r c ok hr hgd bi .nil pass0 ha hst hpl ht
/-- the facts that a op int wants of an own class -/
structure OwnI (K : PySem.W.Frag) (C : Addr) (op : Operator) : Prop where
  r : ∃ rc, PySem.W.findIn K (.ref C) (PySem.dunderR op.info.2) = some rc ∧ (rc = none ∨ ∃ g : Addr, rc = some (.ref g))
  a : ∃ fo, PySem.W.findIn K (.type "int") (PySem.dunder op.info.2) = some fo
  b : ∃ ro, PySem.W.findIn K (.type "int") (PySem.dunderR op.info.2) = some ro
  sub : PySem.W.subIn K (.type "int") (.ref C) = some false
end
end G


namespace G
open PySem PySem.Spec PyProof.Rows L2 StX ClX TL
section
variable {X : Cx} {K : PySem.W.Frag} {σ : L2.St} {H : Hp} {Q : VK} {D : Ends} {te ta tb td ty tv : TE} {ts : List TE} {v x y : V} {i j : Nat}
/-- f-strings -/
def tJn (ts : List TE) : TE := fun σ H Q => tJs ts Str.empty σ H fun out H1 => Q (.str out) H1
theorem pe_joinedN {v1 v2 : Expr} {rest : List Expr} {pos : Pos} (h : PJ X (v1 :: v2 :: rest) ts) : PE X (.JoinedStr (v1 :: v2 :: rest) pos) (tJn ts) := pe_joined h
theorem s_jn (h : tJs ts Str.empty σ H fun out H1 => Q (.str out) H1) : tJn ts σ H Q := h
theorem s_js0 {acc : Str} {QS : Str → Hp → Prop} (h : QS acc H) : tJs [] acc σ H QS := h
theorem s_js {acc : Str} {QS : Str → Hp → Prop} {t : TE} (h : t σ H fun x H1 => ∃ y : Str, x = .str y ∧ (acc ++ y).length ≤ sizeLine ∧ tJs ts (acc ++ y) σ H1 QS) : tJs (t :: ts) acc σ H QS := h
theorem s_jsE {acc y : Str} {QS : Str → Hp → Prop} (c : (acc ++ y).length ≤ sizeLine) (h : tJs ts (acc ++ y) σ H QS) : ∃ y' : Str, V.str y = .str y' ∧ (acc ++ y').length ≤ sizeLine ∧ tJs ts (acc ++ y') σ H QS := ⟨y, rfl, c, h⟩
def rFmt : V → Hp → VK → Prop := fun x H1 Q => (∃ y : Str, x = .str y ∧ y.length ≤ sizeLine ∧ Q (.str y) H1) ∨ ∃ i : Int, x = .int i ∧ i.natAbs.log2 < 1920 ∧ Q (.str (toString i)) H1
theorem s_fmt (h : te σ H fun x H1 => rFmt x H1 Q) : tFmt te σ H Q := h
theorem s_fmtS {z : Str} (c : z.length ≤ sizeLine) (h : Q (.str z) H) : rFmt (.str z) H Q := .inl ⟨z, rfl, c, h⟩
theorem s_fmtI {k : Int} (c : k.natAbs.log2 < 1920) (h : Q (.str (toString k)) H) : rFmt (.int k) H Q := .inr ⟨k, rfl, c, h⟩
/-- targets -/
theorem s_g2 {P : L2.St → Hp → Prop} {t : Addr} (c : SqT K H t [x, y]) (h : P ((σ.set i (some x)).set j (some y)) H) : gTup K 2 (gCons (gName i) (gCons (gName j) gNil)) (.ref t) σ H P :=
  ⟨t, _, rfl, c, rfl, x, [y], rfl, y, [], rfl, rfl, h⟩
theorem s_g3 {P : L2.St → Hp → Prop} {t : Addr} {k : Nat} {z : V} (c : SqT K H t [x, y, z]) (h : P (((σ.set i (some x)).set j (some y)).set k (some z)) H) : gTup K 3 (gCons (gName i) (gCons (gName j) (gCons (gName k) gNil))) (.ref t) σ H P :=
  ⟨t, _, rfl, c, rfl, x, [y, z], rfl, y, [z], rfl, z, [], rfl, rfl, h⟩
theorem s_u3 {P : L2.St → Hp → Prop} {t : Addr} {k : Nat} {z : V} (c : SqL K H t [x, y, z]) (h : P (((σ.set i (some x)).set j (some y)).set k (some z)) H) : gUnl K 3 (gCons (gName i) (gCons (gName j) (gCons (gName k) gNil))) (.ref t) σ H P :=
  ⟨t, _, rfl, c, rfl, x, [y, z], rfl, y, [z], rfl, z, [], rfl, rfl, h⟩
/-- attributes -/
def rFld (K : PySem.W.Frag) (f : Str) : V → Hp → VK → Prop := fun x H1 Q => ∃ a C dx fs v, x = .ref a ∧ H1 a = some (.ins C dx fs) ∧ Cls K C ∧ NoAttr K C f ∧ fs.lookup f = some v ∧ Q v H1
theorem s_fld {f : Str} (h : ta σ H fun x H1 => rFld K f x H1 Q) : tFld K ta f σ H Q := h
theorem s_fldE {f : Str} {a C dx : Addr} {fs : List (Str × V)} (e : H a = some (.ins C dx fs)) (c : Cls K C) (n : NoAttr K C f) (l : fs.lookup f = some v) (h : Q v H) : rFld K f (.ref a) H Q := ⟨a, C, dx, fs, v, rfl, e, c, n, l, h⟩
def rSfld (K : PySem.W.Frag) (f : Str) (D : Ends) (σ : L2.St) (y : V) : V → Hp → Prop := fun x H2 => ∃ a C dx fs, x = .ref a ∧ H2 a = some (.ins C dx fs) ∧ Cls K C ∧ NoAttr K C f ∧ fs.length < 1000 ∧ D.nx σ (upd H2 a (.ins C dx (putF f y fs)))
theorem s_sfld {f : Str} (h : tv σ H fun y H1 => ta σ H1 fun x H2 => rSfld K f D σ y x H2) : sFld K ta tv f D σ H := h
theorem s_sfldE {f : Str} {a C dx : Addr} {fs : List (Str × V)} (e : H a = some (.ins C dx fs)) (c : Cls K C) (n : NoAttr K C f) (l : fs.length < 1000) (h : D.nx σ (upd H a (.ins C dx (putF f y fs)))) : rSfld K f D σ y (.ref a) H := ⟨a, C, dx, fs, rfl, e, c, n, l, h⟩
/-- dicts -/
def rDget : V → V → Hp → VK → Prop := fun x y H2 Q => ∃ a v, x = .ref a ∧ DGet H2 a y (some v) ∧ Q v H2
theorem s_dget (h : td σ H fun x H1 => ty σ H1 fun y H2 => rDget x y H2 Q) : tDGet td ty σ H Q := h
theorem s_dgetE {a : Addr} {r : Row} {z : Str} {k : Int} (e : Rd H a (.dK (kvR r))) (l : valR r z = some k) (h : Q (.int k) H) : rDget (.ref a) (.str z) H Q :=
  ⟨a, .int k, rfl, .inl ⟨kvR r, Sum.inr z, e, rfl, by rw [kvR_val, l]; rfl⟩, h⟩
def rDg2 (a : Addr) : V → V → Hp → VK → Prop := fun y z H3 Q => ∃ o, DGet H3 a y o ∧ Q (o.getD z) H3
def rDg1 : V → Hp → (Addr → Prop) → Prop := fun x H1 P => ∃ a, x = .ref a ∧ IsD H1 a ∧ P a
theorem s_dget2 {tx : TE} (h : td σ H fun x H1 => rDg1 x H1 fun a => ty σ H1 fun y H2 => tx σ H2 fun z H3 => rDg2 a y z H3 Q) : tDGet2 td ty tx σ H Q := h
theorem s_dg1 {a : Addr} {kvs : List (Key × V)} {P : Addr → Prop} (e : H a = some (.dK kvs)) (h : P a) : rDg1 (.ref a) H P := ⟨a, rfl, .inl ⟨kvs, .inl e⟩, h⟩
theorem s_dg2 {a : Addr} {r : Row} {z : Str} {k : Int} (e : H a = some (.dK (kvR r))) (h : Q (.int ((valR r z).getD k)) H) : rDg2 a (.str z) (.int k) H Q :=
  ⟨_, .inl ⟨kvR r, Sum.inr z, .inl e, rfl, rfl⟩, by rw [kvR_val]; cases q : valR r z <;> (rw [q] at h; exact h)⟩
def rDput (D : Ends) (σ : L2.St) (v : V) : V → V → Hp → Prop := fun x y H3 => ∃ a H4, x = .ref a ∧ DPut H3 a y v H4 ∧ D.nx σ H4
theorem s_dput (h : tv σ H fun v H1 => td σ H1 fun x H2 => ty σ H2 fun y H3 => rDput D σ v x y H3) : sDPut td ty tv D σ H := h
theorem s_dputE {a : Addr} {r : Row} {z : Str} {k : Int} (e : H a = some (.dK (kvR r))) (l : r.length ≤ 1000) (h : D.nx σ (upd H a (.dK (kvR (putR r z k))))) : rDput D σ (.int k) (.ref a) (.str z) H :=
  ⟨a, _, rfl, .inl ⟨kvR r, Sum.inr z, e, rfl, by rw [kvR_len]; exact sz2 (by omega), rfl⟩, by rw [kvR_put]; exact h⟩
/-- texts -/
def rRepl (y z : Str) : V → Hp → VK → Prop := fun v H1 Q => ∃ x, v = .str x ∧ x.length + (x.length + 1) * z.length ≤ 16777216 ∧ Q (.str (Txt.replace x y z)) H1
theorem s_repl {y z : Str} (h : te σ H fun v H1 => rRepl y z v H1 Q) : CwR.tReplC te y z σ H Q := h
theorem s_replE {x y z : Str} (c : x.length + (x.length + 1) * z.length ≤ 16777216) (h : Q (.str (Txt.replace x y z)) H) : rRepl y z (.str x) H Q := ⟨x, rfl, c, h⟩
def rSplit : V → List V → Hp → VK → Prop := fun x xs H Q => ∃ a b, x = .str a ∧ xs = [.str b] ∧ (b.length == 0) = false ∧ a.length + 2 ≤ sizeLine ∧ rNewStrs (Txt.split a b) H Q
theorem pet_splitN {o e : Expr} {to : TE} {apos pos : Pos} (ho : L2.PET X o to) (he : PE X e te) (hs : starEach [e] X.env = [(false, eval e X.env)] := by rfl) (hbase : attributeBase o "split" X.env (eval o X.env) = eval o X.env := by rfl) (hline : (apos.endLine == pos.line) = true := by rfl) :
    L2.PET X (.Call (.Attribute o "split" apos) [e] [] pos) (tM1 rSplit to te) := pet_split ho he hs hbase hline
theorem s_splitE {a b : Str} (n : (b.length == 0) = false) (c : a.length + 2 ≤ sizeLine) (h : ∀ p H', H p = none → Same H H' → H' p = some (.lst ((Txt.split a b).map V.str)) → Q (.ref p) H') : rSplit (.str a) [.str b] H Q := ⟨a, b, rfl, rfl, n, c, s_new (P := fun p H' => Q (.ref p) H') h⟩
def rPart : V → List V → Hp → VK → Prop := fun x xs H Q => ∃ a b, x = .str a ∧ xs = [.str b] ∧ (b.length == 0) = false ∧ a.length ≤ sizeLine ∧
      ∀ p, H p = none → Q (.ref p) (upd H p (.tup [.str (Txt.partition a b).1, .str (Txt.partition a b).2.1, .str (Txt.partition a b).2.2]))
theorem pe_partN {o e : Expr} {to : TE} {apos pos : Pos} (ho : PE X o to) (he : PE X e te) (hs : starEach [e] X.env = [(false, eval e X.env)] := by rfl) (hbase : attributeBase o "partition" X.env (eval o X.env) = eval o X.env := by rfl) (hline : (apos.endLine == pos.line) = true := by rfl) :
    PE X (.Call (.Attribute o "partition" apos) [e] [] pos) (tM1 rPart to te) := pe_partition ho he hs hbase hline
theorem s_partE {a b : Str} (n : (b.length == 0) = false) (c : a.length ≤ sizeLine) (h : ∀ p H', H p = none → Same H H' → H' p = some (.tup [.str (Txt.partition a b).1, .str (Txt.partition a b).2.1, .str (Txt.partition a b).2.2]) → Q (.ref p) H') : rPart (.str a) [.str b] H Q := ⟨a, b, rfl, rfl, n, c, s_new (P := fun p H' => Q (.ref p) H') h⟩
def rIntS : RC := fun xs H Q => ∃ a n, xs = [.str a] ∧ PySem.intText? a = some n ∧ a.length ≤ 640 ∧ Q (.int n) H
theorem c_intS : CallR X (.type "int") rIntS := call_int_str
theorem s_intS {z : Str} (d : digF z = true) (n : z ≠ "") (l : z.length ≤ 640) (h : Q (.int (NumText.digitsVal (tl z) : Nat)) H) : rIntS [.str z] H Q :=
  ⟨z, _, rfl, intText_digits (digF_all.mp d) (fun e => n (ext_tl (e.trans (by decide +kernel)))) (by omega), l, h⟩
theorem s_isN (h : Q (.bl (decide (x = .non))) H) : rIsN x .non H Q := ⟨rfl, h⟩
theorem s_tupFE {p : Addr} {ys : List V} (c : SqL K H p ys) (h : ∀ p H', H p = none → Same H H' → FT H' p ys → Q (.ref p) H') : rTupF K [.ref p] H Q :=
  ⟨p, ys, rfl, c, fun l o hd hl => h l _ hl (fun a u e => by rw [upd_ne (ne_of_none e hl)]; exact e) ⟨o, hd, upd_same⟩⟩
theorem s_sortSI {a : Addr} {xs : List V} {r : Row} (c : SqL K H a xs) (pr : PrsL H xs r) (h : ∀ p H' ys q, H p = none → Same H H' → H' p = some (.lst ys) → PrsL H' ys q → SrtO.Srtd SrtG.lxB q → q.Perm r → Q (.ref p) H') : rSortSI K [.ref a] H Q :=
  ⟨a, xs, r, rfl, c, pr, fun ys q p s pe pr' hp => by
    have sm : Same H (upd H p (.lst ys)) := fun a u e => by rw [upd_ne (ne_of_none e hp)]; exact e
    exact h p _ ys q hp sm upd_same (pr'.same sm) s pe⟩
/-- products of great ints -/
def bd (i : Int) : Prop := i.natAbs < 2 ^ 1900
theorem bd_log {i : Int} (h : bd i) : i.natAbs.log2 < 1920 := by
  by_cases z : i.natAbs = 0
  · rw [z]; decide
  · exact Nat.lt_trans ((Nat.log2_lt z).mpr h) (by decide)
end
/-- a row that a form may have -/
structure RowB (q : Row) : Prop where
  len : q.length ≤ 1000
  sym : ∀ p ∈ q, symS p.1 = true
  bd : ∀ p ∈ q, bd p.2
def fsF (t y : Addr) (z : Str) : List (Str × V) := [("terms", .ref t), ("symbols", .ref y), ("text", .str z)]
/-- a form of this row -/
structure FormIn (C : Addr) (H : Hp) (q : Row) (a dx t y : Addr) (xs : List V) : Prop where
  ins : H a = some (.ins C dx (fsF t y (textR q)))
  ft : FT H t xs
  prs : PrsL H xs q
  sy : H y = some (.tup ((keysR q).map V.str))
  can : Can q
  rb : RowB q
def FormAt (C : Addr) (H : Hp) (v : V) (q : Row) : Prop := ∃ a dx t y xs, v = .ref a ∧ FormIn C H q a dx t y xs
theorem FormIn.same {C : Addr} {H H' : Hp} {q : Row} {a dx t y : Addr} {xs : List V} (r : Same H H') (h : FormIn C H q a dx t y xs) : FormIn C H' q a dx t y xs :=
  ⟨r _ _ h.ins, h.ft.same r, h.prs.same r, r _ _ h.sy, h.can, h.rb⟩
theorem FormAt.same {C : Addr} {H H' : Hp} {v : V} {q : Row} (r : Same H H') (h : FormAt C H v q) : FormAt C H' v q := by
  obtain ⟨a, dx, t, y, xs, e, h⟩ := h
  exact ⟨a, dx, t, y, xs, e, h.same r⟩
/-- all but lists stays -/
def Nl (H H' : Hp) : Prop := ∀ a o, (∀ xs, o ≠ .lst xs) → H a = some o → H' a = some o
end G


namespace G
open PySem PySem.Spec PyProof.Rows L2 StX ClX TL
/-- the class Form stands at C -/
structure FormC (K : PySem.W.Frag) (mg : Str → Option Value) (C : Addr) : Prop where
  at_ : mg "Form" = some (.ref C)
  cls : Cls K C
  nt : NoAttr K C "terms"
  ns : NoAttr K C "symbols"
  nx : NoAttr K C "text"
  sf : PySem.W.selfFirst K C = true
  i1 : PySem.W.findIn K (.ref C) "__class__" = some (some (.builtin "object.__class__"))
  i2 : PySem.W.specialIn K (.builtin "object.__class__") "__get__" = some (some (.builtin "getset_descriptor.__get__"))
  i3 : PySem.W.takesIn K (.builtin "object.__class__") = some true
  i4 : PySem.W.mroIn K C (.type "object") = some true
  one : PySem.W.kitOne K (.ref C) (.ref C) = some true
theorem FormC.isi {K : PySem.W.Frag} {mg : Str → Option Value} {C : Addr} {H : Hp} {Q : VK} {a dx : Addr} {fs : List (Str × V)} (f : FormC K mg C) (e : H a = some (.ins C dx fs)) (h : Q (.bl true) H) : rIsi K [.ref a, .ref C] H Q :=
  ⟨_, _, _, _, _, rfl, .own C, .base (.ins e f.cls f.i1 f.i2 f.i3 f.i4), f.one, h⟩
def spTextOf (K : PySem.W.Frag) : Sp := fun vs H Q _ => ∃ (t : Addr) (xs : List V) (q : Row), vs = [.ref t] ∧ SqT K H t xs ∧ PrsL H xs q ∧ RowB q ∧ ∀ H', Same H H' → Q (.str (textR q)) H'
def spInit (C : Addr) : Sp := fun vs H Q _ => ∃ (a dx d : Addr) (r : Row), vs = [.ref a, .ref d] ∧ H a = some (.ins C dx []) ∧ H d = some (.dK (kvR r)) ∧ (keysR r).Nodup ∧ RowB r ∧
  ∀ q H', CanOf r q → Rx [a] H H' → FormAt C H' (.ref a) q → Q .non H'
/-- what hasK_mk makes of it -/
def spMake (C : Addr) : List V → List (Str × V) → Hp → VK → XK → Prop := fun vs ys H Q E => ∃ v, vs = [v] ∧ (∀ p ∈ ys, (p.1 == "own_form") = false) ∧ (ys.map (·.1)).Nodup ∧ ys.length ≤ sizeLine ∧ ∀ d, H d = none → spInit C [v, .ref d] (upd H d (.dK (inrs ys))) Q E
def spStr (C : Addr) : Sp := fun vs H Q _ => ∃ (v1 : V) (q1 : Row), vs = [v1] ∧ FormAt C H v1 q1 ∧ (textR q1).length ≤ 100000 ∧ Q (.str (textR q1)) H
def spCheckForm (C : Addr) : Sp := fun vs H Q _ => ∃ (v1 : V) (q1 : Row), vs = [v1] ∧ FormAt C H v1 q1 ∧ Q .non H
def spTermOf : Sp := fun vs H Q _ => ∃ z : Str, vs = [.str z] ∧ z.length ≤ 570 ∧ (termF z = none → ∀ H', Same H H' → Q .non H') ∧ (∀ p, termF z = some p → ∀ t H', H t = none → Same H H' → H' t = some (.tup [.str p.1, .int p.2]) → Q (.ref t) H')
def spFormOf (C : Addr) : Sp := fun vs H Q _ => ∃ z : Str, vs = [.str z] ∧ z.length ≤ 280 ∧ ((∀ q, Can q → RowB q → textR q ≠ z) → ∀ H', Same H H' → Q .non H') ∧ (∀ v q H', Same H H' → FormAt C H' v q → textR q = z → Q v H')
def spRead (C : Addr) : Sp := fun vs H Q _ => ∃ q : Row, vs = [.str (textR q)] ∧ Can q ∧ RowB q ∧ (textR q).length ≤ 280 ∧ ∀ v H', Same H H' → FormAt C H' v q → Q v H'
theorem own_not_sym : symS "own_form" = false := by decide +kernel
theorem kvR_inrs (r : Row) : kvR r = inrs (r.map fun p => (p.1, V.int p.2)) := by
  unfold kvR inrs
  rw [List.map_map]
  rfl
theorem s_make {C : Addr} {H : Hp} {Qa : Addr → Hp → Prop} {d0 : Addr} {r : Row} (h : H d0 = some (.dK (kvR r))) (nd : (keysR r).Nodup) (b : RowB r)
    (k : ∀ x q H', CanOf r q → Same H H' → FormAt C H' (.ref x) q → Qa x H') : ∃ d ys, V.ref d0 = .ref d ∧ H d = some (.dK (inrs ys)) ∧ ∀ x dx, H x = none → H dx = none → dx ≠ x →
      spMake C [.ref x] ys (upd (upd H dx (.own x)) x (.ins C dx [])) (fun v H2 => v = .non ∧ Qa x H2) E0 := by
  refine ⟨d0, r.map fun p => (p.1, V.int p.2), rfl, by rw [← kvR_inrs]; exact h, fun x dx hx hd ne => ?_⟩
  refine ⟨_, rfl, ?_, ?_, ?_, ?_⟩
  · intro p hp
    obtain ⟨q, hq, rfl⟩ := List.mem_map.mp hp
    have hs := b.sym q hq
    refine beq_eq_false_iff_ne.mpr fun z => ?_
    have z : q.1 = "own_form" := z
    rw [z, own_not_sym] at hs
    cases hs
  · rw [List.map_map]
    exact nd
  · rw [List.length_map]
    have := b.len
    exact sz1 (by omega)
  · intro d hd2
    rw [← kvR_inrs]
    have nx : x ≠ d := by
      rintro rfl
      rw [upd_same] at hd2
      cases hd2
    have hd3 : H d = none := by
      rw [upd_ne (Ne.symm nx)] at hd2
      by_cases z : d = dx
      · subst z
        rw [upd_same] at hd2
        cases hd2
      · rw [upd_ne z] at hd2
        exact hd2
    refine ⟨x, dx, d, r, rfl, by rw [upd_ne nx, upd_same], upd_same, nd, b, fun q H' cq rx fa => ⟨rfl, k x q H' cq ?_ fa⟩⟩
    intro a o e
    have n1 : a ≠ x := ne_of_none e hx
    refine rx a o (by simpa using n1) ?_
    rw [upd_ne (ne_of_none e hd3), upd_ne n1, upd_ne (ne_of_none e hd)]
    exact e
theorem RowB.can {r q : Row} (h : RowB r) (c : CanOf r q) (nd : (keysR r).Nodup) : RowB q := by
  refine ⟨Nat.le_trans c.len h.len, fun p hp => ?_, fun p hp => ?_⟩
  · obtain ⟨m, _⟩ := c.mem hp
    obtain ⟨p', hp', e⟩ := List.mem_map.mp m
    rw [← e]
    exact h.sym p' hp'
  · obtain ⟨m, e⟩ := c.mem hp
    obtain ⟨p', hp', e'⟩ := List.mem_map.mp m
    have := fac_mem nd hp'
    rw [e'] at this
    rw [e, this]
    exact h.bd p' hp'
end G


namespace G
open PySem PySem.Spec PyProof.Rows L2 StX ClX TL
section
variable {X : Cx} (K : PySem.W.Frag) (h : X.K = K := by rfl)
include h
theorem fldK {e : Expr} {ta : TE} {f : Str} {pos : Pos} (he : PE X e ta) (hb : attributeBase e f X.env (eval e X.env) = eval e X.env := by rfl) : PE X (.Attribute e f pos) (tFld K ta f) := by subst h; exact pe_fld he hb
theorem sfldK {o value : Expr} {ta tv : TE} {f : Str} {pos pos' : Pos} (ha : PE X o ta) (hv : PE X value tv) (hs : swapsWith value (some (.Attribute o f pos')) pos.line X.env = pure false := by rfl) : PS X (.Assign [.Attribute o f pos'] value pos) (sFld K ta tv f) := by subst h; exact ps_fld ha hv hs
theorem sortSIK : CallR X (.builtin "sorted") (rSortSI K) := by subst h; exact cr_sortSI
theorem tupFK : CallR X (.type "tuple") (rTupF K) := by subst h; exact cr_tupF
theorem gT {es : List Expr} {k : Nat} {t : TGs} {n : Nat} {pos : Pos} (hc : X.calm = true) (hg : PGs X es t)
    (hn : (assignEach es X.env).length = n := by rfl) (hst : (assignEach es X.env).findIdx? (·.1) = none := by rfl) : PG X (.Tuple es k pos) (gTup K n t) := by subst h; exact pg_tup hc hg hn hst
theorem gU {es : List Expr} {k : Nat} {t : TGs} {n : Nat} {pos : Pos} (hc : X.calm = true) (hg : PGs X es t)
    (hn : (assignEach es X.env).length = n := by rfl) (hst : (assignEach es X.env).findIdx? (·.1) = none := by rfl) : PG X (.Tuple es k pos) (gUnl K n t) := by subst h; exact pg_unl hc hg hn hst
end
section
variable {K : PySem.W.Frag} {σ : L2.St} {H : Hp} {Q : VK} {te ta : TE} {t : TA} {C : Addr} {sp : Sp} {m : Str}
/-- own calls -/
theorem s_mk2 (h : te σ H fun v H1 => ∃ d ys, v = .ref d ∧ H1 d = some (.dK (inrs ys)) ∧ ∀ x dx, H1 x = none → H1 dx = none → dx ≠ x → spMake C [.ref x] ys (upd (upd H1 dx (.own x)) x (.ins C dx [])) (fun v H2 => v = .non ∧ Q (.ref x) H2) E0) : tMakeSS C (spMake C) E0 te σ H Q := h
theorem s_smeth (h : ta σ H fun x H1 => x = .ref C ∧ t σ H1 fun vs H2 => sp (vs ++ []) H2 Q E0) : tSMeth C sp [] E0 ta t σ H Q := h
end
end G
namespace G
open PySem PySem.Spec PyProof.Rows L2
theorem PrsL.at {H : Hp} : ∀ {xs : List V} {r : Row} {i : Nat} {x : V}, PrsL H xs r → xs[i]? = some x → ∃ p t, r[i]? = some p ∧ x = .ref t ∧ H t = some (.tup [.str p.1, .int p.2])
  | _, _, _, _, .nil, e => by simp at e
  | _, _, 0, _, .cons (t := t) (x := x) (i := j) h _, e => by
    cases e
    exact ⟨(x, j), t, rfl, rfl, h⟩
  | _, _, i + 1, _, .cons _ h, e => h.at (i := i) (by simpa using e)
end G


namespace G
open PySem PySem.Spec PyProof.Rows L2 StX ClX TL
theorem bd_abs {i : Int} (h : bd i) : (if i < 0 then -i else i).natAbs.log2 < 1920 := by
  have e : (if i < 0 then -i else i).natAbs = i.natAbs := by split <;> omega
  rw [e]
  exact bd_log h
theorem pow_1900 : 2 ^ 1900 < 10 ^ 573 := by decide +kernel
theorem len_num {n : Nat} (h : n < 2 ^ 1900) : (numL n).length ≤ 573 := numL_len (by decide) (Nat.lt_trans h pow_1900)
theorem len_abs {i : Int} (h : bd i) : (Str.ofString (toString (if i < 0 then -i else i))).length ≤ 573 := by
  have e : (if i < 0 then -i else i) = ((i.natAbs : Nat) : Int) := by split <;> omega
  rw [e, len_tl, tl_num]
  exact len_num h
theorem len_word {p : Str × Int} (s : symS p.1 = true) (h : bd p.2) : (wordR p).length ≤ 582 := by
  rw [len_tl, tl_word]
  have h1 := (sym_len s).2
  rw [len_tl] at h1
  have h2 := len_num h
  split
  · omega
  · rw [List.length_append, List.length_cons]
    omega
theorem emp_app (a : Str) : Str.empty ++ a = a := ext_tl (by rw [tl_append]; rfl)
theorem asc_word {p : Str × Int} (s : symS p.1 = true) : asc (wordR p) := by
  intro c hc
  have := word_free s c hc
  omega
theorem asc_part {p : Str × Int} (s : symS p.1 = true) : asc (partR p) := by
  unfold partR
  split
  · exact asc_app (by decide +kernel) (asc_word s)
  · exact asc_word s
theorem asc_tail {p : Str × Int} (s : symS p.1 = true) : asc (tailR p) := by
  unfold tailR
  split
  · exact asc_app (by decide +kernel) (asc_word s)
  · exact asc_app (by decide +kernel) (asc_word s)
theorem asc_words : ∀ {q : Row}, (∀ p ∈ q, symS p.1 = true) → ∀ z ∈ wordsR q, asc z
  | [], _, z, h => (List.not_mem_nil h).elim
  | p :: q, hs, z, h => by
    rcases List.mem_cons.mp h with rfl | h
    · exact asc_part (hs p List.mem_cons_self)
    · obtain ⟨p', hp', rfl⟩ := List.mem_map.mp h
      exact asc_tail (hs p' (List.mem_cons_of_mem _ hp'))
theorem eqv_nil (zs : List Str) : PyData.eqv (.list (zs.map PyData.str)) (.list []) = decide (zs = []) := by
  cases zs with
  | nil => decide +kernel
  | cons z zs => first | rfl | (simp [PyData.eqv]; done) | decide
theorem s_eqNil {K : PySem.W.Frag} {H : Hp} {Q : VK} {a b : Addr} {zs : List Str} (e : H a = some (.lst (zs.map V.str))) (f : H b = some (.lst [])) (ha : ∀ z ∈ zs, asc z) (h : Q (.bl (decide (zs = []))) H) : rEqD K (.ref a) (.ref b) H Q :=
  ⟨_, _, .lst (SqL.of e) dp_strs, .lst (SqL.of f) .nil, shaped_strs ha, rfl, by rw [eqv_nil]; exact h⟩
theorem s_neNil {K : PySem.W.Frag} {H : Hp} {Q : VK} {a b : Addr} {zs : List Str} (e : H a = some (.lst (zs.map V.str))) (f : H b = some (.lst [])) (ha : ∀ z ∈ zs, asc z) (h : Q (.bl (!decide (zs = []))) H) : rNeD K (.ref a) (.ref b) H Q :=
  ⟨_, _, .lst (SqL.of e) dp_strs, .lst (SqL.of f) .nil, shaped_strs ha, rfl, by rw [eqv_nil]; exact h⟩
theorem take_snoc {α : Type} {l : List α} {i : Nat} {p : α} (h : l[i]? = some p) : l.take (i + 1) = l.take i ++ [p] := by rw [List.take_add_one, h]; rfl
theorem words_snoc (q : Row) (p : Str × Int) : wordsR (q ++ [p]) = wordsR q ++ [if q = [] then partR p else tailR p] := by
  cases q with
  | nil => rfl
  | cons a q => simp [wordsR]
theorem words_nil {q : Row} : wordsR q = [] ↔ q = [] := by
  cases q <;> simp [wordsR]
theorem words_len : ∀ q : Row, (wordsR q).length = q.length
  | [] => rfl
  | p :: q => by simp [wordsR]
theorem len_lit (a b : Str) : (a ++ b).length = a.length + b.length := len_app a b
theorem sum_words {q : Row} (b : RowB q) : ((wordsR q).map (·.length)).sum ≤ 585 * q.length := by
  have part : ∀ p ∈ q, (partR p).length ≤ 585 ∧ (tailR p).length ≤ 585 := by
    intro p hp
    have h := len_word (b.sym p hp) (b.bd p hp)
    have h1 : ("-" : Str).length = 1 := by decide +kernel
    have h2 : (" - " : Str).length = 3 := by decide +kernel
    have h3 : (" + " : Str).length = 3 := by decide +kernel
    unfold partR tailR
    constructor <;> split <;> first | (simp only [len_lit]; omega) | omega
  cases q with
  | nil => simp [wordsR]
  | cons p q =>
    have h0 := (part p List.mem_cons_self).1
    have ht : ∀ l : Row, (∀ p ∈ l, (tailR p).length ≤ 585) → ((l.map tailR).map (·.length)).sum ≤ 585 * l.length := by
      intro l
      induction l with
      | nil => intro _; simp
      | cons a l ih =>
        intro hl
        have := ih fun p hp => hl p (List.mem_cons_of_mem _ hp)
        have h2 := hl a List.mem_cons_self
        simp only [List.map_cons, List.sum_cons, List.length_cons]
        omega
    have h1 := ht q fun p' hp' => (part p' (List.mem_cons_of_mem _ hp')).2
    simp only [wordsR, List.map_cons, List.sum_cons, List.length_cons]
    omega
end G
namespace G
open PySem PySem.Spec PyProof.Rows L2 TL
theorem val_mem {r : Row} {x : Str} (h : x ∈ keysR r) : valR r x = some (fac r x) := by
  cases e : valR r x with
  | none => exact absurd h (valR_none.mp e)
  | some i => simp [fac, e]
theorem kvR_at {r : Row} {i : Nat} {p : Key × V} (h : (kvR r)[i]? = some p) : ∃ q, r[i]? = some q ∧ p = (Sum.inr q.1, .int q.2) := by
  unfold kvR at h
  rw [List.getElem?_map] at h
  cases e : r[i]? with
  | none => rw [e] at h; cases h
  | some q => rw [e] at h; exact ⟨q, rfl, (Option.some.inj h).symm⟩
theorem range_map {α β : Type} (f : α → β) (l : List α) : (List.range l.length).filterMap (fun (i : Nat) => l[i]?.map f) = l.map f := by
  have := range_get (fun a => some (f a)) l
  have e : (fun (i : Nat) => l[i]?.bind fun a => some (f a)) = fun (i : Nat) => l[i]?.map f := by
    funext i
    cases l[i]? <;> rfl
  rw [e] at this
  rw [this]
  exact congrFun List.filterMap_eq_map' l
theorem yat_same {xs : List V} : ∀ i H1 x H2, YAt xs i H1 x H2 → Same H1 H2 := by
  rintro i H1 x H2 ⟨rfl, _⟩
  exact Same.refl _
end G
namespace G
open PySem PySem.Spec PyProof.Rows L2 TL
theorem fm_filter : ∀ r : Row, r.filterMap (fun p => if p.2 ≠ 0 then some p else none) = r.filter fun p => decide (p.2 ≠ 0)
  | [] => rfl
  | p :: r => by
    rw [List.filterMap_cons, List.filter_cons, fm_filter r]
    by_cases h : p.2 = 0 <;> simp [h]
theorem Tp.ins {H : Hp} {a C dx : Addr} {fs : List (Str × V)} {o : HO} (h : H a = some (.ins C dx fs)) : Tp H (upd H a o) := fun b xs e => by
  have : b ≠ a := fun z => by rw [z, h] at e; cases e
  rw [upd_ne this]
  exact e
theorem FT.ins {H : Hp} {a C dx t : Addr} {fs : List (Str × V)} {o : HO} {xs : List V} (h : H a = some (.ins C dx fs)) (f : FT H t xs) : FT (upd H a o) t xs := by
  obtain ⟨ob, d, e⟩ := f
  have : t ≠ a := fun z => by rw [z, h] at e; cases e
  exact ⟨ob, d, by rw [upd_ne this]; exact e⟩
theorem Rx.step {H H1 H2 : Hp} {a : Addr} {o : HO} (r : Rx [a] H H1) (s : Same H1 H2) : Rx [a] H (upd H2 a o) := fun b u n e => by
  rw [upd_ne (by simpa using n)]
  exact s _ _ (r b u n e)
end G
namespace G
open PySem PySem.Spec PyProof.Rows L2 TL
theorem nodup_nilR : (keysR []).Nodup := List.nodup_nil
end G
namespace G
open PySem PySem.Spec PyProof.Rows L2 TL
theorem symV_S (z : Str) : symV (.str z) = symS z := rfl
end G


namespace G
open PySem PySem.Spec PyProof.Rows L2 StX ClX TL
theorem len_strSub (x : Str) (i j : Nat) : (Builtin.Str.strSub x i j).length ≤ x.length := by
  rw [len_tl, len_tl, tl_strSub, List.length_take, List.length_drop]
  omega
theorem len_partition (a b : Str) : (Txt.partition a b).1.length ≤ a.length ∧ (Txt.partition a b).2.2.length ≤ a.length := by
  rcases PyProof.Rows.partition_whole a b with ⟨e, _⟩ | ⟨i, e, _⟩
  · rw [e]
    exact ⟨Nat.le_refl _, Nat.zero_le _⟩
  · rw [e]
    exact ⟨len_strSub _ _ _, len_strSub _ _ _⟩
theorem len_sign (z : Str) : (signF z).2.length ≤ z.length := by
  unfold signF
  split
  · exact len_cut _ _ _
  · exact Nat.le_refl _
theorem len_numF (z : Str) (h : z.length ≤ 570) : (numF z).1.length ≤ 570 ∧ (numF z).2.length ≤ 570 := by
  obtain ⟨h1, h2⟩ := len_partition z "*"
  unfold numF
  split
  · refine ⟨?_, h⟩
    have : (Str.ofString "1").length = 1 := by decide +kernel
    show (Str.ofString "1").length ≤ 570
    omega
  · exact ⟨by show (Txt.partition z "*").1.length ≤ 570; omega, by show (Txt.partition z "*").2.2.length ≤ 570; omega⟩
theorem fold_lt : ∀ (l : List Nat) (a : Nat), NumText.AllDigits l → l.foldl (fun acc c => acc * 10 + (c - 48)) a < (a + 1) * 10 ^ l.length
  | [], a, _ => by simp
  | c :: l, a, h => by
    have hc := h c List.mem_cons_self
    have ih := fold_lt l (a * 10 + (c - 48)) fun d hd => h d (List.mem_cons_of_mem _ hd)
    rw [List.foldl_cons, List.length_cons, Nat.pow_succ]
    refine Nat.lt_of_lt_of_le ih ?_
    have : (a * 10 + (c - 48) + 1) ≤ (a + 1) * 10 := by omega
    calc (a * 10 + (c - 48) + 1) * 10 ^ l.length ≤ ((a + 1) * 10) * 10 ^ l.length := Nat.mul_le_mul_right _ this
      _ = (a + 1) * (10 ^ l.length * 10) := by rw [Nat.mul_assoc, Nat.mul_comm 10]
theorem pow_570 : 10 ^ 570 < 2 ^ 1900 := by decide +kernel
theorem digits_bd {z : Str} (h : digF z = true) (l : z.length ≤ 570) : NumText.digitsVal (tl z) < 2 ^ 1900 := by
  have h1 := fold_lt (tl z) 0 (digF_all.mp h)
  rw [Nat.zero_add, Nat.one_mul] at h1
  rw [len_tl] at l
  exact Nat.lt_of_lt_of_le h1 (Nat.le_trans (Nat.pow_le_pow_right (by decide) l) (Nat.le_of_lt pow_570))
theorem termF_ok {z : Str} {p : Str × Int} (h : termF z = some p) (l : z.length ≤ 570) : symS p.1 = true ∧ bd p.2 := by
  unfold termF at h
  split at h
  · rename_i c
    cases h
    refine ⟨c.1, ?_⟩
    have hl := len_sign z
    have hn := (len_numF (signF z).2 (by omega)).1
    have hd := digits_bd c.2.2 hn
    have hs : (signF z).1 = 0 - 1 ∨ (signF z).1 = 1 := by
      unfold signF
      split
      · exact .inl rfl
      · exact .inr rfl
    show ((signF z).1 * ((NumText.digitsVal (tl (numF (signF z).2).1) : Nat) : Int)).natAbs < 2 ^ 1900
    generalize NumText.digitsVal (tl (numF (signF z).2).1) = n at hd
    have e : ((signF z).1 * (n : Int)).natAbs = n := by
      rcases hs with e | e <;> rw [e] <;> omega
    rw [e]
    exact hd
  · cases h
theorem join_len (S : List Nat) : ∀ l : List (List Nat), l ≠ [] → (joinL S l).length + S.length = (l.map List.length).sum + l.length * S.length
  | [], h => absurd rfl h
  | [p], _ => by simp [joinL]
  | p :: q :: r, _ => by
    have ih := join_len S (q :: r) (by simp)
    show (p ++ (S ++ joinL S (q :: r))).length + S.length = _
    rw [List.length_append, List.length_append]
    simp only [List.map_cons, List.sum_cons, List.length_cons, Nat.succ_mul] at ih ⊢
    omega
theorem split_ne (x y : Str) : Txt.split x y ≠ [] := by
  intro h
  unfold Txt.split at h
  split at h
  · cases h
  · split at h
    · cases h
    · rename_i h2
      rw [PySem.StrLaws.partsBetween_eq] at h
      cases ho : Builtin.Str.occurrences x y 0 x.length (x.length + 1) with
      | nil => rw [ho] at h2; exact h2 rfl
      | cons c r => rw [ho] at h; cases h
theorem split_len {x y : Str} (hy : tl y ≠ []) (hk : y.cps.all (· < 256) = true) : x.length + y.length = (((Txt.split x y).map tl).map List.length).sum + (Txt.split x y).length * y.length := by
  have e : Txt.join y (Txt.split x y) = x := (replace_join hy hk).symm.trans (Txt.replace_self x y)
  have e2 := congrArg tl e
  rw [join_eq, tl_join] at e2
  have e3 := join_len (tl y) ((Txt.split x y).map tl) (fun z => split_ne x y (List.map_eq_nil_iff.mp z))
  rw [e2, List.length_map, ← len_tl, ← len_tl] at e3
  exact e3
theorem mem_sum {l : List Nat} {n : Nat} (h : n ∈ l) : n ≤ l.sum := by
  induction l with
  | nil => simp at h
  | cons a l ih =>
    rw [List.sum_cons]
    rcases List.mem_cons.mp h with rfl | h
    · omega
    · have := ih h
      omega
theorem repl_len (z : Str) : (Txt.replace z " - " " + -").length ≤ 2 * z.length := by
  have hm : tl (" - " : Str) ≠ [] := by rw [tl_mi]; simp
  have hk : (" - " : Str).cps.all (· < 256) = true := by decide +kernel
  have h1 := split_len (x := z) hm hk
  have e := replace_join (x := z) (z := " + -") hm hk
  have e2 := congrArg tl e
  rw [join_eq, tl_join] at e2
  have e3 := join_len (tl (" + -" : Str)) ((Txt.split z " - ").map tl) (fun w => split_ne z " - " (List.map_eq_nil_iff.mp w))
  rw [← e2, List.length_map, ← len_tl, ← len_tl] at e3
  have l3 : (" - " : Str).length = 3 := by decide +kernel
  have l4 : (" + -" : Str).length = 4 := by decide +kernel
  rw [l3] at h1
  rw [l4] at e3
  omega
theorem parts_ok {z : Str} (h : z.length ≤ 280) : (partsF z).length ≤ 600 ∧ ∀ p ∈ partsF z, p.length ≤ 570 := by
  unfold partsF
  split
  · exact ⟨Nat.zero_le _, fun p hp => (List.not_mem_nil hp).elim⟩
  · have hm : tl (" + " : Str) ≠ [] := by rw [tl_pl]; simp
    have hk : (" + " : Str).cps.all (· < 256) = true := by decide +kernel
    have h1 := split_len (x := Txt.replace z " - " " + -") hm hk
    have h2 := repl_len z
    have l3 : (" + " : Str).length = 3 := by decide +kernel
    rw [l3] at h1
    refine ⟨by omega, fun p hp => ?_⟩
    have h3 := mem_sum (List.mem_map.mpr ⟨tl p, List.mem_map.mpr ⟨p, hp, rfl⟩, rfl⟩ : (tl p).length ∈ ((Txt.split (Txt.replace z " - " " + -") " + ").map tl).map List.length)
    have h4 : 0 < (Txt.split (Txt.replace z " - " " + -") " + ").length := List.length_pos_of_mem hp
    rw [len_tl]
    omega
theorem s_iLstJ {K : PySem.W.Frag} {te : TE} {σ : L2.St} {H : Hp} {R : It → Hp → Prop} (Pj : Addr → Hp → Prop) (hu : ∀ a H1, Pj a H1 → (∃ xs, SqL K H1 a xs) ∧ R (Itl K a) H1) (ht : ∀ Q : VK, (∀ a H1, Pj a H1 → Q (.ref a) H1) → te σ H Q) : iList K te σ H R :=
  ht _ fun a H1 p => ⟨a, rfl, (hu a H1 p).1, (hu a H1 p).2⟩
end G
namespace G
open PySem PySem.Spec PyProof.Rows L2 TL
def stepF (acc : Row) (part : Str) : Option Row := (termF part).map fun t => putR acc t.1 t.2
theorem rawF_fold (z : Str) : rawF z = (partsF z).foldlM stepF [] := rfl
theorem foldF_snoc {l : List Str} {i : Nat} {p : Str} {acc : Row} (h : l[i]? = some p) (e : (l.take i).foldlM stepF [] = some acc) : (l.take (i + 1)).foldlM stepF [] = stepF acc p := by
  rw [take_snoc h, List.foldlM_append, e]
  show List.foldlM stepF acc [p] = _
  rw [List.foldlM_cons]
  cases stepF acc p <;> rfl
theorem foldF_none {l : List Str} {i : Nat} {p : Str} {acc : Row} (h : l[i]? = some p) (e : (l.take i).foldlM stepF [] = some acc) (n : termF p = none) : l.foldlM stepF [] = none := by
  have h1 : l = l.take (i + 1) ++ l.drop (i + 1) := (List.take_append_drop _ _).symm
  rw [h1, List.foldlM_append, foldF_snoc h e]
  unfold stepF
  rw [n]
  rfl
end G


namespace G
open PySem PySem.Spec PyProof.Rows L2 TL
theorem name_of {z : Str} {c : Nat} {cs : List Nat} (e : tl z = c :: cs) (l : cs.length ≤ 7) (hc : c ∈ letS.cps.toList) (hs : ∀ d ∈ cs, d ∈ (letS ++ digS).cps.toList) (nv : z ≠ "view") : nameS z = true := by
  have hl : z.length = cs.length + 1 := by rw [len_tl, e]; rfl
  have hc2 : c ∈ (letS ++ digS).cps.toList := by
    have : ∀ c ∈ letS.cps.toList, c ∈ (letS ++ digS).cps.toList := by decide +kernel
    exact this c hc
  have e' : z.cps.toList = c :: cs := e
  unfold nameS
  rw [e']
  simp only [Bool.and_eq_true, List.all_eq_true, decide_eq_true_eq, Bool.not_eq_true', decide_eq_false_iff_not]
  refine ⟨⟨⟨by omega, nv⟩, hc⟩, fun d hd => ?_⟩
  rcases List.mem_cons.mp hd with rfl | hd
  · exact hc2
  · exact hs d hd
theorem name_parts {z : Str} (h : nameS z = true) : ∃ c cs, tl z = c :: cs ∧ cs.length ≤ 7 ∧ c ∈ letS.cps.toList ∧ ∀ d ∈ cs, d ∈ (letS ++ digS).cps.toList := by
  have hl := name_len h
  unfold nameS at h
  simp only [Bool.and_eq_true, List.all_eq_true, decide_eq_true_eq] at h
  cases e : z.cps.toList with
  | nil => rw [e] at h; simp at h
  | cons c cs =>
    rw [e] at h
    have h1 := h.1.2
    rw [len_tl] at hl
    have hl' : (c :: cs).length ≤ 8 := by rw [← e]; exact hl.2
    exact ⟨c, cs, e, by simpa using hl', by simpa using h1, fun d hd => h.2 d (List.mem_cons_of_mem _ hd)⟩
theorem name_nm {z : Str} (h : nameS z = true) : Nm z := by
  obtain ⟨h1, h2⟩ := name_len h
  refine ⟨h1, h2, fun c hc => ?_⟩
  have := name_signs h c hc
  omega
theorem cutN_tl (z : Str) (n : Nat) : tl (cutS z none (some (n : Int))) = (tl z).take n := by
  unfold cutS
  have e1 : HT.sIx z.length 0 none = 0 := rfl
  have e2 : HT.sIx z.length z.length (some (n : Int)) = min n z.length := HT.sIx_nat z.length z.length n
  rw [tl_mk, e1, e2, len_tl, List.drop_zero, Nat.sub_zero]
  show List.take (min n z.cps.toList.length) z.cps.toList = List.take n z.cps.toList
  generalize z.cps.toList = l
  rw [List.take_eq_take_iff]
  omega
theorem name_cut {y : Str} {n : Nat} {c : Nat} (h : nameS y = true) (h1 : 1 ≤ n) (h7 : n ≤ 7) (hc : c ∈ (Str.ofString "0123456789z").cps.toList) : nameS (cutS y none (some (n : Int)) ++ ⟨#[c]⟩) = true := by
  obtain ⟨d, ds, e, l, hd, hs⟩ := name_parts h
  have et : tl (cutS y none (some (n : Int)) ++ ⟨#[c]⟩) = d :: (ds.take (n - 1) ++ [c]) := by
    rw [tl_append, cutN_tl, e]
    obtain ⟨m, rfl⟩ : ∃ m, n = m + 1 := ⟨n - 1, by omega⟩
    rfl
  have hc2 : c ∈ (letS ++ digS).cps.toList ∧ c ≠ 119 := by
    have : ∀ c ∈ (Str.ofString "0123456789z").cps.toList, c ∈ (letS ++ digS).cps.toList ∧ c ≠ 119 := by decide +kernel
    exact this c hc
  refine name_of et (by simp; omega) hd (fun x hx => ?_) fun z => ?_
  · rcases List.mem_append.mp hx with hx | hx
    · exact hs x (List.mem_of_mem_take hx)
    · have : x = c := by simpa using hx
      rw [this]
      exact hc2.1
  · have e1 := congrArg tl z
    rw [et] at e1
    have e2 : tl ("view" : Str) = [118, 105, 101, 119] := by decide +kernel
    rw [e2] at e1
    have e3 : (d :: ds.take (n - 1)) ++ [c] = [118, 105, 101] ++ [119] := e1
    exact hc2.2 (List.append_inj_right' e3 rfl |> List.cons.inj |>.1)
end G


namespace G
open PySem PySem.Spec PyProof.Rows L2 TL
def lineR (q : Row) : Str := Txt.join "" (wordsR q)
theorem tl_line (q : Row) : tl (lineR q) = ((wordsR q).map tl).flatten := by
  unfold lineR
  have e0 : tl ("" : Str) = [] := by decide +kernel
  rw [join_eq, tl_join, e0, joinL_nil]
theorem line_nil : lineR [] = "" := by decide +kernel
theorem line_snoc (q : Row) (p : Str × Int) : lineR (q ++ [p]) = lineR q ++ (if q = [] then partR p else tailR p) := by
  refine ext_tl ?_
  rw [tl_line, words_snoc, tl_append, tl_line, List.map_append, List.flatten_append]
  simp
theorem line_len {q : Row} (b : RowB q) : (lineR q).length ≤ 585 * q.length := by
  have := sum_words b
  unfold lineR
  rw [len_join]
  exact this
theorem line_ne {q : Row} (s : ∀ p ∈ q, symS p.1 = true) : lineR q = "" ↔ q = [] := by
  constructor
  · intro h
    cases q with
    | nil => rfl
    | cons p q =>
      have := congrArg tl h
      rw [tl_line] at this
      have e0 : tl ("" : Str) = [] := by decide +kernel
      rw [e0] at this
      unfold wordsR at this
      rw [List.map_cons, List.flatten_cons] at this
      have h1 := (List.append_eq_nil_iff.mp this).1
      rw [tl_part] at h1
      split at h1
      · cases h1
      · exact absurd h1 (word_ne (s p List.mem_cons_self))
  · rintro rfl
    exact line_nil
theorem text_line (q : Row) : textR q = if q = [] then ("0" : Str) else lineR q := rfl
theorem RowB.take {q : Row} (b : RowB q) (i : Nat) : RowB (q.take i) := ⟨by rw [List.length_take]; have := b.len; omega, fun p hp => b.sym p (List.mem_of_mem_take hp), fun p hp => b.bd p (List.mem_of_mem_take hp)⟩
def spTextL (K : PySem.W.Frag) : Sp := fun vs H Q _ => ∃ (l : Addr) (xs : List V) (q : Row), vs = [.ref l] ∧ SqL K H l xs ∧ PrsL H xs q ∧ RowB q ∧ Q (.str (textR q)) H
end G
namespace G
open PySem L2
theorem Same.sqlG {K : PySem.W.Frag} {H H' : Hp} {a : Addr} {xs : List V} (r : Same H H') (h : SqL K H a xs) : SqL K H' a xs := Rx.sql (M := []) (Rx.same r) List.not_mem_nil h
end G


namespace G
open PySem PySem.Spec PyProof.Rows L2 TL
end G
namespace G
open PySem PySem.Spec PyProof.Rows L2 TL
theorem rising_asc : ∀ {r : List Str} {x : Str}, risingS x r = true → (x :: r).Nodup → (x :: r).Pairwise fun a b => a.cps.toList < b.cps.toList
  | [], x, _, _ => List.pairwise_singleton _ _
  | y :: r, x, h, nd => by
    have nd' := List.nodup_cons.mp nd
    have h0 : (!ltCps y.cps.toList x.cps.toList && risingS y r) = true := h
    rw [ltCps_eq, Bool.and_eq_true] at h0
    have h' : (!decide (y.cps.toList < x.cps.toList)) = true ∧ risingS y r = true := h0
    have ih := rising_asc h'.2 nd'.2
    have hne : x ≠ y := fun z => nd'.1 (by rw [z]; exact List.mem_cons_self)
    have hlt : x.cps.toList < y.cps.toList := by
      have h1 : decide (y.cps.toList < x.cps.toList) = false := by
        have := h'.1
        cases hd : decide (y.cps.toList < x.cps.toList) with
        | false => rfl
        | true => rw [hd] at this; cases this
      exact Classical.byContradiction fun z => hne (SrtG.cps_inj (SrtG.lst_tri z (of_decide_eq_false h1)))
    refine List.pairwise_cons.mpr ⟨fun b hb => ?_, ih⟩
    rcases List.mem_cons.mp hb with rfl | hb
    · exact hlt
    · exact List.lt_trans hlt ((List.pairwise_cons.mp ih).1 b hb)
theorem sorted_asc {l : List Str} (h : sortedS l = true) (nd : l.Nodup) : l.Pairwise fun a b => a.cps.toList < b.cps.toList := by
  cases l with
  | nil => exact .nil
  | cons x r => exact rising_asc h nd
end G


namespace G
open PySem PySem.Spec PyProof.Rows L2 TL
theorem Nl.lst {H : Hp} {D : Addr} {ys : List V} {o : HO} (h : H D = some (.lst ys)) : Nl H (upd H D o) := fun a u n e => by
  have : a ≠ D := fun z => by rw [z, h] at e; cases e; exact n _ rfl
  rw [upd_ne this]
  exact e
theorem Nl.tp {H H' : Hp} (h : Nl H H') : Tp H H' := fun a xs e => h a _ (fun _ z => by cases z) e
end G


namespace G
open PySem PySem.Spec PyProof.Rows L2 TL
/-- a small row -/
structure Rw (zs : List Str) (row : Row) : Prop where
  can : Can row
  sm : ∀ pr ∈ row, pr.2.natAbs ≤ 99
  len : row.length ≤ 20
  sub : ∀ x ∈ keysR row, x ∈ zs
theorem Rw.rb {zs : List Str} {row : Row} (h : Rw zs row) (hs : ∀ z ∈ zs, symS z = true) : RowB row :=
  ⟨by have := h.len; omega, fun p hp => hs _ (h.sub _ (mem_keys hp)), fun p hp => Nat.lt_of_le_of_lt (h.sm p hp) (by decide +kernel)⟩
/-- the text of a small row is short -/
theorem Rw.text {zs : List Str} {row : Row} (h : Rw zs row) (hs : ∀ z ∈ zs, symS z = true) (h5 : row.length ≤ 15) : (textR row).length ≤ 280 := by
  have part : ∀ p ∈ row, (partR p).length ≤ 14 ∧ (tailR p).length ≤ 14 := by
    intro p hp
    have s := hs _ (h.sub _ (mem_keys hp))
    have l1 := (sym_len s).2
    have l2 : (numL p.2.natAbs).length ≤ 2 := numL_len (by decide) (Nat.lt_of_le_of_lt (h.sm p hp) (by decide))
    have lw : (wordR p).length ≤ 11 := by
      rw [len_tl, tl_word]
      rw [len_tl] at l1
      split
      · omega
      · rw [List.length_append, List.length_cons]
        omega
    have h1 : ("-" : Str).length = 1 := by decide +kernel
    have h2 : (" - " : Str).length = 3 := by decide +kernel
    have h3 : (" + " : Str).length = 3 := by decide +kernel
    unfold partR tailR
    constructor <;> split <;> first | (simp only [len_lit]; omega) | omega
  rw [text_line]
  split
  · decide +kernel
  · unfold lineR
    rw [len_join]
    have ht : ∀ l : Row, (∀ p ∈ l, (tailR p).length ≤ 14) → ((l.map tailR).map (·.length)).sum ≤ 14 * l.length := by
      intro l
      induction l with
      | nil => intro _; simp
      | cons a l ih =>
        intro hl
        have := ih fun p hp => hl p (List.mem_cons_of_mem _ hp)
        have h2 := hl a List.mem_cons_self
        simp only [List.map_cons, List.sum_cons, List.length_cons]
        omega
    cases row with
    | nil => simp [wordsR]
    | cons p q =>
      have h0 := (part p List.mem_cons_self).1
      have h1 := ht q fun p' hp' => (part p' (List.mem_cons_of_mem _ hp')).2
      simp only [wordsR, List.map_cons, List.sum_cons, List.length_cons] at h5 ⊢
      omega
end G


namespace G
open PySem PySem.Spec PyProof.Rows L2 TL
/-- no factor above B -/
def Fb (B : Nat) (q : Row) : Prop := ∀ x, (fac q x).natAbs ≤ B
end G


namespace G
open PySem PySem.Spec PyProof.Rows L2 TL
theorem paired_at {α β : Type} {R : α → β → Prop} : ∀ {vs : List α} {bs : List β} {i : Nat} {v : α}, Paired R vs bs → vs[i]? = some v → ∃ b, bs[i]? = some b ∧ R v b
  | _, _, _, _, .nil, e => by simp at e
  | _, _, 0, _, .cons h _, e => by
    cases e
    exact ⟨_, rfl, h⟩
  | _, _, i + 1, _, .cons _ h, e => by
    obtain ⟨b, h1, h2⟩ := paired_at (i := i) h (by simpa using e)
    exact ⟨b, by simpa using h1, h2⟩
theorem paired_len {α β : Type} {R : α → β → Prop} : ∀ {vs : List α} {bs : List β}, Paired R vs bs → vs.length = bs.length
  | _, _, .nil => rfl
  | _, _, .cons _ r => by rw [List.length_cons, List.length_cons, paired_len r]
theorem len_int {i : Int} (h : bd i) : (Str.ofString (toString i)).length ≤ 574 := by
  have pos : ∀ n : Nat, n < 2 ^ 1900 → (Str.ofString (toString ((n : Nat) : Int))).length ≤ 573 := fun n hn => by
    rw [len_tl, tl_num]
    exact len_num hn
  by_cases hi : i < 0
  · have e := len_text_negI hi
    have e1 : 0 - i = ((i.natAbs : Nat) : Int) := by omega
    rw [e1] at e
    have := pos _ h
    omega
  · have e : i = ((i.natAbs : Nat) : Int) := by omega
    have := pos _ h
    rw [← e] at this
    omega
theorem asc_line {q : Row} (s : ∀ p ∈ q, symS p.1 = true) : asc (lineR q) := by
  intro c hc
  have hc : c ∈ tl (lineR q) := hc
  rw [tl_line] at hc
  obtain ⟨l, hl, hcl⟩ := List.mem_flatten.mp hc
  obtain ⟨z, hz, rfl⟩ := List.mem_map.mp hl
  exact asc_words s z hz c hcl
theorem asc_text {q : Row} (s : ∀ p ∈ q, symS p.1 = true) : asc (textR q) := by
  rw [text_line]
  split
  · decide +kernel
  · exact asc_line s
end G


namespace G
open PySem PySem.Spec PyProof.Rows L2 TL
end G


namespace G
open PySem PySem.Spec PyProof.Rows L2 TL
theorem fac_abs {r : Row} {B : Nat} (nd : (keysR r).Nodup) (h : ∀ p ∈ r, p.2.natAbs ≤ B) (x : Str) : (fac r x).natAbs ≤ B := by
  by_cases hx : x ∈ keysR r
  · obtain ⟨p, hp, rfl⟩ := List.mem_map.mp hx
    rw [fac_mem nd hp]
    exact h p hp
  · rw [fac_out hx]
    exact Nat.zero_le _
theorem paired_all {α β : Type} {R : α → β → Prop} {P : β → Prop} (h : ∀ a b, R a b → P b) : ∀ {vs : List α} {bs : List β}, Paired R vs bs → ∀ b ∈ bs, P b
  | _, _, .nil, b, hb => (List.not_mem_nil hb).elim
  | _, _, .cons h0 r, b, hb => by
    rcases List.mem_cons.mp hb with rfl | hb
    · exact h _ _ h0
    · exact paired_all h r b hb
end G


namespace G
open PySem PySem.Spec PyProof.Rows L2 TL
section
variable {K : PySem.W.Frag} {σ σ' : L2.St} {H : Hp} {x y v : V} {i j n : Nat} {P : L2.St → Hp → Prop}
theorem s_gnE (e : σ.set n (some v) = σ') (h : P σ' H) : gName n v σ H P := by
  subst e
  exact h
theorem s_g2E {t : Addr} (c : SqT K H t [x, y]) (e : (σ.set i (some x)).set j (some y) = σ') (h : P σ' H) : gTup K 2 (gCons (gName i) (gCons (gName j) gNil)) (.ref t) σ H P := by
  subst e
  exact s_g2 c h
theorem s_g3E {t : Addr} {k : Nat} {z : V} (c : SqT K H t [x, y, z]) (e : ((σ.set i (some x)).set j (some y)).set k (some z) = σ') (h : P σ' H) : gTup K 3 (gCons (gName i) (gCons (gName j) (gCons (gName k) gNil))) (.ref t) σ H P := by
  subst e
  exact s_g3 c h
theorem s_st {t : TS} {D : Ends} (e : σ = σ') (h : t D σ' H) : t D σ H := by
  subst e
  exact h
end
theorem kit_self {K : PySem.W.Frag} {C : Addr} : PySem.W.kitOne K (.ref C) (.ref C) = some true := by
  unfold PySem.W.kitOne
  rw [if_pos (beq_self_eq_true _)]
end G


namespace G
open PySem PySem.Spec PyProof.Rows L2 StX ClX
section
variable {prog : Program} {w : World} {A : Around} {E : Value → Shared → Prop} {s : Shared} {K : PySem.W.Frag} {x C L f : Addr} {h₀ : Heap} {m : Str → Option Value} {ox : Obj} {od : Option Obj} {b tb : Value}
/-- object.__ne__ by an own __eq__ -/
theorem entry_ne {Q : Fin → Shared → Prop} (hu : A.units < cLine) (X : K.In s.heap) (I : PySem.W.InstAt s.heap x ox C od) (hs : PySem.W.findIn K (.ref C) "__eq__" = some (some (.ref f))) (hf : PySem.W.isFn K (.ref f) = true)
    (h : wpAny (model prog w) A (call (.ref f) [.ref x, b]) (fun v s' => ∃ k, v = .bool k ∧ Q (.done (.ret (.bool (!k)))) s') E s) : wpAny (model prog w) A (Builtin.«object.__ne__» ⟨[.ref x, b], []⟩) Q E s := by
  unfold Builtin.«object.__ne__»
  repeat (first
    | with_reducible refine wpAny_cRoomFor hu ?_
    | (refine wpAny_bind (m := callSpecialIfBound? (.ref x) (Str.ofString "__eq__") [b])
        (PySem.W.ifBound_K X I hs hf (wpAny_mono h (fun r s' hr => by
          obtain ⟨b, rfl, hq⟩ := hr
          repeat (first | exact hq | exact wpAny_pure hq | exact wpAny_truthy_bool hq | (refine wpAny_bind (m := truthy (.bool _)) (wpAny_truthy_bool ?_)) | wp_step)) fun _ _ e => e)))
    | wp_step)
theorem ifBound_objNe {M : Model} {args : List Value} {Q : Option Value → Shared → Prop} (X : K.In s.heap) (I : PySem.W.InstAt s.heap x ox C od) (hs : PySem.W.findIn K (.ref C) "__ne__" = some (some (.builtin "object.__ne__")))
    (h : wpAny M A (call (.builtin "object.__ne__") (.ref x :: args)) (fun v => Q (some v)) E s) : wpAny M A (callSpecialIfBound? (.ref x) "__ne__" args) Q E s := by
  simp only [callSpecialIfBound?, bindSpecialIfBound?]
  refine wpAny_holding (wpAny_bind (wpAny_bind (wpAny_bind (I.type.here ((PySem.W.looks_findIn X hs).here ?_)))))
  refine wpAny_bind (wpAny_askSetting (wpAny_ite ?_))
  have fin : wpAny M A (call (.builtin "object.__ne__") ([.ref x] ++ args) >>= fun v => pure (some v)) Q E s := wpAny_bind (wpAny_mono h (fun v s' h' => wpAny_pure h') fun _ _ h' => h')
  split
  · exact wpAny_bind (wpAny_of_eq (F.cmp_object.ne.bind _) (wpAny_pure (by exact fin)))
  · exact wpAny_tryCatch (wpAny_bind (wpAny_of_eq (F.cmp_object.ne.bind _) (wpAny_pure (by exact fin))))
theorem ne_K {Q : Value → Shared → Prop} (hu : A.units + 1 < cLine) (F : Fr h₀ L s.heap m) (X₀ : K.In h₀) (I : PySem.W.InstAt s.heap x ox C od) (hb : PySem.W.Looks (model prog w) s.heap (typeOf b) tb) (hn : PySem.W.notFirst K C tb = true)
    (hne : PySem.W.findIn K (.ref C) "__ne__" = some (some (.builtin "object.__ne__"))) (hs : PySem.W.findIn K (.ref C) "__eq__" = some (some (.ref f))) (hf : PySem.W.isFn K (.ref f) = true) (hm : PySem.W.mroIn K C (.type "object") = some true)
    (h : wpAny (model prog w) A.in1 (call (.ref f) [.ref x, b]) (fun v s' => ∃ k, v = .bool k ∧ Q (.bool (!k)) s') E s) : wpAny (model prog w) A (richCompare .NotEq (.ref x) b) Q E s := by
  have X := X₀.keeps F.keep
  have one : wpAny (model prog w) A (tryCompare (.ref x) (cmpInfo .NotEq).2.1 b) (fun r s' => ∃ v, r = some v ∧ Q v s') E s := by
    rw [show (cmpInfo CmpOp.NotEq).2.1 = Str.ofString "__ne__" from by rw [cmpInfo_NotEq]]
    unfold tryCompare
    refine wpAny_bind (ifBound_objNe X I hne (wpAny_call (codeAny_call_builtin PySem.F.cmp_object.ne.plain PySem.F.cmpEntry_ne (PySem.W.check_slot PySem.F.cmpKind_ne PySem.F.cmpSplit_ne (I.type.andThen (PySem.W.looks_mroIn X hm)) (PySem.F.cmpArgs_ne _ _)
      (entry_ne (A := A.in1) hu X I hs hf (wpAny_mono h (fun v s' hv => ?_) fun _ _ e => e))))))
    obtain ⟨k, rfl, hq⟩ := hv
    first | exact ⟨k, rfl, _, rfl, hq⟩ | exact ⟨k, rfl, wpAny_pure ⟨_, rfl, hq⟩⟩ | exact ⟨k, rfl, wpAny_pure (wpAny_pure ⟨_, rfl, hq⟩)⟩
  unfold richCompare
  simp only [oneThing_ref]
  refine wpAny_holding (wpAny_bind (wpAny_cRoomFor (Nat.lt_of_succ_lt hu) ?_))
  refine wpAny_bind (I.type.here (wpAny_bind (hb.here ?_)))
  split
  · rename_i q
    have e : PySem.W.subIn K tb (.ref C) = some false := by
      rcases Bool.or_eq_true_iff.mp hn with e | e
      · rw [beq_iff_eq.mp e] at q; simp at q
      · exact beq_iff_eq.mp e
    refine wpAny_bind ((PySem.W.looks_subIn X e).here ?_)
    simp only [Bool.false_eq_true, if_false]
    refine wpAny_bind (wpAny_mono one (fun r s' z => ?_) fun _ _ e => e)
    obtain ⟨v, rfl, hq⟩ := z
    exact wpAny_pure hq
  · refine wpAny_bind (wpAny_pure ?_)
    simp only [Bool.false_eq_true, if_false]
    refine wpAny_bind (wpAny_mono one (fun r s' z => ?_) fun _ _ e => e)
    obtain ⟨v, rfl, hq⟩ := z
    exact wpAny_pure hq
end
end G


namespace G
open PySem PySem.Spec PyProof.Rows L2 StX ClX
section
variable {X : Cx} {CX : CXT} {k : Nat} {f C : Addr} {fd : FuncData} {ps ks : List Str} {sp : Sp} {E : XK}
/-- repr(o) by an own __repr__ -/
def rReprO (C : Addr) (sp : Sp) (E : XK) : RC := fun xs H Q => ∃ a dx fs, xs = [.ref a] ∧ H a = some (.ins C dx fs) ∧ sp [.ref a] H (fun v H' => (∃ z, v = .str z) ∧ Q v H') E
theorem c_reprO (at_ : PySem.W.findIn X.K (.ref C) "__repr__" = some (some (.ref f))) (fn : PySem.W.isFn X.K (.ref f) = true) (F : Fg X.prog X.w X.K X.mg X.base CX k f fd ps sp) (hr : Room (k + 1) X.A) (hgd : Gd X.A) (hb : Binds X.K fd ps []) (hx : Passes CX X E) : CallR X (.builtin "repr") (rReprO C sp E) := by
  intro pins s σ H xs us Q I r h
  obtain ⟨a, dx, fs, rfl, ha, hq⟩ := h
  cases r with
  | cons r0 rr =>
    cases rr
    obtain rfl : _ = Value.ref a := r0
    obtain ⟨ox, od, J, _⟩ := insC_at I (.inr ⟨dx, fs, ha⟩)
    obtain ⟨m, Fr⟩ := I.fr
    have hr1 : Room k X.A.in1 := hr.in1
    refine PySem.W.repr_K hr1.units0 Fr I.ok.mod.kin J at_ fn ?_
    have hl : [V.ref a].length = ps.length := F.len _ _ _ _ hq
    have bb := hb s [.ref a] I.kIn (by simpa using hl)
    refine wpAny_call (codeAny_mono (F.go X.A.in1 X.stack s H ⟨[.ref a], []⟩ [.ref a] [.ref a] _ E hr1 hgd.in1 I.env0.in1 (by simpa using bb) (.cons rfl .nil) hq) ?_)
    intro rs s' hq'
    cases rs with
    | error e => exact hx pins σ H s e s' I hq'
    | ok fl => cases fl with
      | ret u =>
        obtain ⟨v, H', I3, rv, ⟨z, hz⟩, q3⟩ := I.after hq'
        subst hz
        obtain ⟨t, rfl⟩ := rv
        exact ⟨.str z, H', I3, ⟨t, rfl⟩, q3⟩
      | next => exact hq'.elim
      | brk => exact hq'.elim
      | cont => exact hq'.elim
end
section
variable {X : Cx} {k : Nat} {C : Addr} {x : Str} {p pos : Pos} {kws : List Keyword} {tk : TA} {ks : List Str} {spk : List V → List (Str × V) → Hp → VK → XK → Prop}
end
section
variable {X : Cx} {k : Nat} {C : Addr} {st : Stmt} {ps ks : List Str} {sp : Sp} {m : Str} {pos apos : Pos} {o : Expr} {ta : TE} {tk : TA} {kws : List Keyword}
end
end G


namespace G
open PySem PySem.Spec PyProof.Rows L2 StX ClX PySem.SeqAt MeetsSeq
section
variable {X : Cx} (K : PySem.W.Frag) (h : X.K = K := by rfl)
include h
end
theorem kit_no {K : PySem.W.Frag} {C : Addr} {T : String} (h1 : PySem.W.isClsIn K C = true) (h2 : PySem.W.typeIn K (.ref C) = some (.type "type")) (h3 : PySem.W.subIn K (.type T) (.ref C) = some false) : PySem.W.kitOne K (.type T) (.ref C) = some false := by
  unfold PySem.W.kitOne
  rw [if_neg (by rw [show (Value.type T == Value.ref C) = false from rfl]; exact Bool.false_ne_true)]
  unfold PySem.W.kitCls
  have h1' : (PySem.W.clsIn K C).isSome = true := h1
  simp only [h1', h2, h3]
  simp
end G


namespace G
open PySem PySem.Spec PyProof.Rows L2 StX ClX TL
def reprR (q : Row) : Str := Str.ofString "Form(" ++ textR q ++ Str.ofString ")"
def spReprF (C : Addr) : Sp := fun vs H Q _ => ∃ (v : V) (q : Row), vs = [v] ∧ FormAt C H v q ∧ (textR q).length ≤ 100000 ∧ Q (.str (reprR q)) H
/-- what is seen of a form -/
def seenD (q : Row) (fs : List Int) : PyData := .list [.str (textR q), .str (reprR q), .tuple ((keysR q).map .str), .bool true, .list (fs.map .int), .list (fs.map .int)]
structure Sm (q : Row) : Prop where
  can : Can q
  rb : RowB q
  len : q.length ≤ 20
  fb : Fb (10 ^ 40) q
theorem text_short {q : Row} (h : Sm q) : (textR q).length ≤ 1200 := by
  have part : ∀ p ∈ q, (partR p).length ≤ 55 ∧ (tailR p).length ≤ 55 := by
    intro p hp
    have s := h.rb.sym p hp
    have l1 := (sym_len s).2
    have hb := h.fb p.1
    rw [fac_mem h.can.nodup hp] at hb
    have l2 : (numL p.2.natAbs).length ≤ 42 := numL_len (by decide) (Nat.lt_of_le_of_lt hb (by decide +kernel))
    have lw : (wordR p).length ≤ 51 := by
      rw [len_tl, tl_word]
      rw [len_tl] at l1
      split
      · omega
      · rw [List.length_append, List.length_cons]
        omega
    have h1 : ("-" : Str).length = 1 := by decide +kernel
    have h2 : (" - " : Str).length = 3 := by decide +kernel
    have h3 : (" + " : Str).length = 3 := by decide +kernel
    unfold partR tailR
    constructor <;> split <;> first | (simp only [len_lit]; omega) | omega
  rw [text_line]
  split
  · decide +kernel
  · unfold lineR
    rw [len_join]
    have ht : ∀ l : Row, (∀ p ∈ l, (tailR p).length ≤ 55) → ((l.map tailR).map (·.length)).sum ≤ 55 * l.length := by
      intro l
      induction l with
      | nil => intro _; simp
      | cons a l ih =>
        intro hl
        have := ih fun p hp => hl p (List.mem_cons_of_mem _ hp)
        have h2 := hl a List.mem_cons_self
        simp only [List.map_cons, List.sum_cons, List.length_cons]
        omega
    have hl := h.len
    cases q with
    | nil => simp [wordsR]
    | cons p q =>
      have h0 := (part p List.mem_cons_self).1
      have h1 := ht q fun p' hp' => (part p' (List.mem_cons_of_mem _ hp')).2
      simp only [wordsR, List.map_cons, List.sum_cons, List.length_cons] at hl ⊢
      omega
end G


namespace G
open PySem PySem.Spec PyProof.Rows L2 StX ClX TL
theorem asc_repr {q : Row} (h : Sm q) : asc (reprR q) := by
  unfold reprR
  exact asc_app (asc_app (by decide +kernel) (asc_text h.rb.sym)) (by decide +kernel)
theorem repr_len {q : Row} (h : Sm q) : (reprR q).length ≤ 1206 := by
  have := text_short h
  unfold reprR
  rw [len_app, len_app]
  have h1 : (Str.ofString "Form(").length = 5 := by decide +kernel
  have h2 : (Str.ofString ")").length = 1 := by decide +kernel
  omega
end G


namespace G
open PySem PySem.Spec PyProof.Rows L2 StX ClX TL
section
variable {K : PySem.W.Frag} {σ : L2.St} {H : Hp} {Q : VK} {C : Addr} {sp : Sp}
end
end G


namespace G
open PySem PySem.Spec PyProof.Rows L2 StX ClX TL
end G


namespace G
open PySem PySem.Spec PyProof.Rows L2 StX ClX TL Builtin Builtin.Str
theorem reprChar_asc : ∀ c < 128, (∀ d ∈ reprChar 39 c, d < 128) ∧ ∀ d ∈ reprChar 34 c, d < 128 := by
  have h : ∀ c : Fin 128, (∀ d ∈ reprChar 39 c.1, d < 128) ∧ ∀ d ∈ reprChar 34 c.1, d < 128 := by decide +kernel
  exact fun c hc => h ⟨c, hc⟩
theorem reprQuote_two (x : Str) : reprQuote x = 39 ∨ reprQuote x = 34 := by
  unfold reprQuote
  split
  · first | exact .inl rfl | exact .inr rfl
  · first | exact .inl rfl | exact .inr rfl
theorem foldl_asc {q : Nat} (hq : q = 39 ∨ q = 34) : ∀ (l : List Nat) (acc : Array Nat), (∀ c ∈ l, c < 128) → (∀ c ∈ acc.toList, c < 128) → ∀ c ∈ (l.foldl (fun out c => out ++ (reprChar q c).toArray) acc).toList, c < 128
  | [], acc, _, h => h
  | c :: l, acc, hl, h => by
    refine foldl_asc hq l _ (fun d hd => hl d (List.mem_cons_of_mem _ hd)) ?_
    intro d hd
    rw [Array.toList_append] at hd
    rcases List.mem_append.mp hd with hd | hd
    · exact h d hd
    · have hc := reprChar_asc c (hl c List.mem_cons_self)
      rcases hq with rfl | rfl
      · exact hc.1 d (by simpa using hd)
      · exact hc.2 d (by simpa using hd)
theorem asc_reprText {x : Str} (h : asc x) : asc (reprText x) := by
  intro c hc
  unfold reprText at hc
  have hq := reprQuote_two x
  have hq' : reprQuote x < 128 := by rcases hq with h | h <;> rw [h] <;> decide
  have hc : c ∈ ((x.cps.foldl (fun out c => out ++ (reprChar (reprQuote x) c).toArray) #[reprQuote x]).push (reprQuote x)).toList := hc
  rw [Array.toList_push] at hc
  rcases List.mem_append.mp hc with hc | hc
  · rw [← Array.foldl_toList] at hc
    refine foldl_asc hq _ _ h ?_ c hc
    intro d hd
    have : d = reprQuote x := by simpa using hd
    rw [this]
    exact hq'
  · have : c = reprQuote x := by simpa using hc
    rw [this]
    exact hq'
theorem asc_joinS {s : Str} (hs : asc s) : ∀ {ts : List Str}, (∀ t ∈ ts, asc t) → asc (Str.join s ts)
  | [], _ => by
    intro c hc
    exact absurd hc (by simp [Str.join, Str.empty])
  | [t], h => by
    have : Str.join s [t] = t := rfl
    rw [this]
    exact h t List.mem_cons_self
  | t :: u :: r, h => by
    have : Str.join s (t :: u :: r) = t ++ s ++ Str.join s (u :: r) := rfl
    rw [this]
    exact asc_app (asc_app (h t List.mem_cons_self) hs) (asc_joinS hs fun t ht => h t (List.mem_cons_of_mem _ ht))
theorem asc_int (i : Int) : asc (Str.ofString (toString i)) := by
  intro c hc
  have hd : ∀ n : Nat, ∀ c ∈ tl (Str.ofString (toString ((n : Nat) : Int))), c < 128 := fun n c hc => by
    rw [tl_num] at hc
    have := numL_digits _ c hc
    omega
  by_cases hi : i < 0
  · have e : Str.ofString (toString i) = Str.ofString "-" ++ Str.ofString (toString (0 - i)) := by
      refine ext_tl ?_
      rw [tl_append]
      show (Str.ofString (toString i)).cps.toList = (Str.ofString "-").cps.toList ++ (Str.ofString (toString (0 - i))).cps.toList
      rw [toString_neg hi, PySem.Str.ofString_eq_toList, PySem.Str.ofString_eq_toList, PySem.Str.ofString_eq_toList]
      simp
    have e1 : 0 - i = ((i.natAbs : Nat) : Int) := by omega
    rw [e, e1] at hc
    rw [cps_app] at hc
    rcases List.mem_append.mp hc with hc | hc
    · have h0 : asc (Str.ofString "-") := by decide +kernel
      exact h0 c hc
    · exact hd _ c hc
  · have e : i = ((i.natAbs : Nat) : Int) := by omega
    rw [e] at hc
    exact hd _ c hc
theorem shownAll_asc_strs : ∀ {zs : List Str}, (∀ z ∈ zs, asc z) → ∀ t ∈ PyData.shownAll (zs.map PyData.str), asc t
  | [], _, t, ht => by simp [PyData.shownAll] at ht
  | z :: zs, h, t, ht => by
    simp only [List.map_cons, PyData.shownAll, PyData.shown, List.mem_cons] at ht
    rcases ht with rfl | ht
    · exact asc_reprText (h z List.mem_cons_self)
    · exact shownAll_asc_strs (fun y hy => h y (List.mem_cons_of_mem _ hy)) t ht
theorem shownAll_asc_ints : ∀ {ns : List Int}, ∀ t ∈ PyData.shownAll (ns.map PyData.int), asc t
  | [], t, ht => by simp [PyData.shownAll] at ht
  | i :: ns, t, ht => by
    simp only [List.map_cons, PyData.shownAll, PyData.shown, List.mem_cons] at ht
    rcases ht with rfl | ht
    · exact asc_int i
    · exact shownAll_asc_ints t ht
theorem asc_listD {ds : List PyData} (h : ∀ t ∈ PyData.shownAll ds, asc t) : asc (PyData.list ds).shown := by
  rw [PyData.shown_list]
  exact asc_app (asc_app (by decide +kernel) (asc_joinS (by decide +kernel) h)) (by decide +kernel)
theorem asc_tupD {ds : List PyData} (h : ∀ t ∈ PyData.shownAll ds, asc t) : asc (PyData.tuple ds).shown := by
  have e : (PyData.tuple ds).shown = ("(" : Str) ++ Str.join ", " (PyData.shownAll ds) ++ (if (PyData.shownAll ds).length == 1 then ",)" else ")" : String) := rfl
  rw [e]
  refine asc_app (asc_app (by decide +kernel) (asc_joinS (by decide +kernel) h)) ?_
  split <;> decide +kernel
theorem asc_seen {q : Row} {fs : List Int} (h : Sm q) : asc (seenD q fs).shown := by
  have hka : ∀ z ∈ keysR q, asc z := fun z hz => by
    obtain ⟨p, hp, rfl⟩ := List.mem_map.mp hz
    intro c hc
    have := sym_signs (h.rb.sym p hp) c hc
    omega
  unfold seenD
  refine asc_listD ?_
  intro t ht
  simp only [PyData.shownAll, List.mem_cons, List.not_mem_nil, or_false] at ht
  rcases ht with rfl | rfl | rfl | rfl | rfl | rfl
  · exact asc_reprText (asc_text h.rb.sym)
  · exact asc_reprText (asc_repr h)
  · exact asc_tupD (shownAll_asc_strs hka)
  · simp only [PyData.shown]
    decide +kernel
  · exact asc_listD shownAll_asc_ints
  · exact asc_listD shownAll_asc_ints
end G


namespace G
open PySem PySem.Spec PyProof.Rows L2 StX ClX TL
theorem showable_bls : ∀ {bs : List Bool}, PyData.showableAll (bs.map PyData.bool) = true
  | [] => by simp [PyData.showableAll]
  | z :: zs => by simp only [List.map_cons, PyData.showableAll, PyData.showable, showable_bls (bs := zs), Bool.and_true]
theorem noDict_bls : ∀ {bs : List Bool}, PyData.hasDictAll (bs.map PyData.bool) = false
  | [] => by simp [PyData.hasDictAll]
  | z :: zs => by simp only [List.map_cons, PyData.hasDictAll, PyData.hasDict, noDict_bls (bs := zs), Bool.or_false]
theorem depth_bls : ∀ {bs : List Bool}, PyData.depthAll (bs.map PyData.bool) = 0
  | [] => by simp [PyData.depthAll]
  | z :: zs => by simp only [List.map_cons, PyData.depthAll, PyData.depth, depth_bls (bs := zs), Nat.max_self]
theorem shown_bls : ∀ {bs : List Bool}, ((PyData.shownAll (bs.map PyData.bool)).map (·.length)).sum ≤ 5 * bs.length
  | [] => by simp [PyData.shownAll]
  | b :: bs => by
    have h2 := shown_bls (bs := bs)
    have h1 : (if b = true then ("True" : Str) else "False").length ≤ 5 := by cases b <;> decide +kernel
    simp only [List.map_cons, PyData.shownAll, PyData.shown, List.sum_cons, List.length_cons]
    omega
theorem s_reprBs {K : PySem.W.Frag} {H : Hp} {Q : VK} {a : Addr} {bs : List Bool} (c : H a = some (.lst (bs.map V.bl))) (hl : bs.length ≤ 1000) (h : Q (.str (bsD bs).shown) H) : rRepr K [.ref a] H Q := by
  refine ⟨a, bsD bs, rfl, .lst (SqL.of c) dp_bls, ?_, ?_, ?_, sz1 ?_, h⟩
  · unfold bsD
    rw [PyData.showable]
    exact showable_bls
  · unfold bsD
    rw [PyData.hasDict]
    exact noDict_bls
  · unfold bsD
    rw [PyData.depth, depth_bls]
    decide
  · unfold bsD
    rw [PyData.shown]
    have h1 := listText_len_le (PyData.shownAll (bs.map PyData.bool))
    have h2 := shown_bls (bs := bs)
    have h3 := PyData.shownAll_length (bs.map PyData.bool)
    rw [List.length_map] at h3
    omega
theorem text_280 {q : Row} (c : Can q) (rb : RowB q) (hl : q.length ≤ 6) (hb : Fb (10 ^ 31 - 1) q) : (textR q).length ≤ 280 := by
  have part : ∀ p ∈ q, (partR p).length ≤ 43 ∧ (tailR p).length ≤ 43 := by
    intro p hp
    have s := rb.sym p hp
    have l1 := (sym_len s).2
    have hb := hb p.1
    rw [fac_mem c.nodup hp] at hb
    have l2 : (numL p.2.natAbs).length ≤ 31 := numL_len (by decide) (Nat.lt_of_le_of_lt hb (by decide +kernel))
    have lw : (wordR p).length ≤ 40 := by
      rw [len_tl, tl_word]
      rw [len_tl] at l1
      split
      · omega
      · rw [List.length_append, List.length_cons]
        omega
    have h1 : ("-" : Str).length = 1 := by decide +kernel
    have h2 : (" - " : Str).length = 3 := by decide +kernel
    have h3 : (" + " : Str).length = 3 := by decide +kernel
    unfold partR tailR
    constructor <;> split <;> first | (simp only [len_lit]; omega) | omega
  rw [text_line]
  split
  · decide +kernel
  · unfold lineR
    rw [len_join]
    have ht : ∀ l : Row, (∀ p ∈ l, (tailR p).length ≤ 43) → ((l.map tailR).map (·.length)).sum ≤ 43 * l.length := by
      intro l
      induction l with
      | nil => intro _; simp
      | cons a l ih =>
        intro hl
        have := ih fun p hp => hl p (List.mem_cons_of_mem _ hp)
        have h2 := hl a List.mem_cons_self
        simp only [List.map_cons, List.sum_cons, List.length_cons]
        omega
    cases q with
    | nil => simp [wordsR]
    | cons p q =>
      have h0 := (part p List.mem_cons_self).1
      have h1 := ht q fun p' hp' => (part p' (List.mem_cons_of_mem _ hp')).2
      simp only [wordsR, List.map_cons, List.sum_cons, List.length_cons] at hl ⊢
      omega
end G


namespace G
open PySem PySem.Spec PyProof.Rows L2 StX ClX TL
theorem s_par2E {σ σ' : L2.St} {H : Hp} {a b : Nat} {v w : V} {N : L2.St → Hp → Prop} (e : (σ.set a (some v)).set b (some w) = σ') (h : N σ' H) : ∃ v' w', [v, w] = [v', w'] ∧ N ((σ.set a (some v')).set b (some w')) H := ⟨v, w, rfl, by rw [e]; exact h⟩
end G


namespace G
open PySem PySem.Spec PyProof.Rows L2 StX ClX TL
section
variable {P : Program} {w : World} {K : PySem.W.Frag} {mg : Str → Option Value} {base : Heap}
end
end G


namespace G
open PySem PySem.Spec PyProof.Rows L2 StX ClX TL
section
variable {X : Cx} {nm f : Str} {C : Addr} {k : Nat} {e : Expr} {ta : TA} {p pos pos2 : Pos} {W : WX}
end
end G


namespace G
open PySem PySem.Spec PyProof.Rows L2 StX ClX TL
section
variable {P : Program} {w : World} {K : PySem.W.Frag} {mg : Str → Option Value} {base : Heap}
end
section
variable {X : Cx} {CX : CXT} {k : Nat} {f C : Addr} {fd : FuncData} {ps ks : List Str} {sp : Sp} {E : XK} {x m : Str} {p pos apos : Pos} {e o : Expr} {es : List Expr} {kws : List Keyword} {ta : TE} {t tk : TA} {st : Stmt} {W : WX}
end
end G


namespace G
open PySem PySem.Spec PyProof.Rows L2 StX ClX TL
theorem tl_ext' {a b : Str} (h : tl a = tl b) : a = b := ext_tl h
theorem at_star {z : Str} {i : Nat} : StrLaws.At z "*" z.length i ↔ (tl z)[i]? = some 42 := by
  unfold StrLaws.At
  have hl : (Str.ofString "*").length = 1 := by decide +kernel
  have ht : (Str.ofString "*").cps.toList = [42] := by decide +kernel
  rw [StrLaws.subAt_eq, hl, ht, len_tl]
  show i + 1 ≤ (tl z).length ∧ ((List.take 1 (List.drop i (tl z)) == [42]) = true) ↔ _
  generalize tl z = l
  constructor
  · rintro ⟨h1, h2⟩
    have h3 : List.take 1 (List.drop i l) = [42] := by simpa using h2
    have hi : i < l.length := by omega
    rw [List.drop_eq_getElem_cons hi] at h3
    have h4 : l[i] = 42 := by
      rw [List.take_succ_cons, List.take_zero] at h3
      exact (List.cons.inj h3).1
    rw [List.getElem?_eq_getElem hi, h4]
  · intro h
    obtain ⟨hi, e⟩ := List.getElem?_eq_some_iff.mp h
    refine ⟨by omega, ?_⟩
    rw [List.drop_eq_getElem_cons hi, e]
    simp
theorem find_none {z : Str} (h : 42 ∉ tl z) : Txt.find z "*" = -1 := by
  rcases PyProof.Rows.find_whole z "*" with ⟨e, _⟩ | ⟨i, _, a, _⟩
  · exact e
  · exact absurd (List.mem_of_getElem? (at_star.mp a)) h
theorem cutD_tl (z : Str) (n : Nat) : tl (cutS z (some (n : Int)) none) = (tl z).drop n := by
  unfold cutS
  have e1 : HT.sIx z.length z.length none = z.length := rfl
  have e2 : HT.sIx z.length 0 (some (n : Int)) = min n z.length := HT.sIx_nat z.length 0 n
  rw [tl_mk, e1, e2, len_tl]
  show List.take (z.cps.toList.length - min n z.cps.toList.length) (List.drop (min n z.cps.toList.length) z.cps.toList) = List.drop n z.cps.toList
  generalize z.cps.toList = l
  by_cases hn : n ≤ l.length
  · rw [Nat.min_eq_left hn]
    exact List.take_of_length_le (by rw [List.length_drop]; omega)
  · have : min n l.length = l.length := by omega
    rw [this, List.drop_length, List.drop_eq_nil_of_le (by omega), List.take_nil]
/-- the symbol of a term -/
def termL (z : Str) : Option Str :=
  if ¬ cutS z (some (Txt.find z "*" + 1)) none = "@" ∧ nameS (cutS z (some (Txt.find z "*" + 1)) none) = false then none
  else if Txt.find z "*" < 0 then some (cutS z (some (Txt.find z "*" + 1)) none)
  else if cutS z none (some (Txt.find z "*")) = "" ∨ digF (cutS z none (some (Txt.find z "*"))) = false then none
  else if (tl (cutS z none (some (Txt.find z "*")))).head? = some 48 ∨ cutS z none (some (Txt.find z "*")) = "1" then none
  else some (cutS z (some (Txt.find z "*" + 1)) none)
theorem symS_or (s : Str) : symS s = true ↔ ¬ (¬ s = "@" ∧ nameS s = false) := by
  unfold symS
  rw [Bool.or_eq_true, decide_eq_true_eq]
  constructor
  · rintro (h | h) ⟨h1, h2⟩
    · exact h1 h
    · rw [h] at h2; cases h2
  · intro h
    by_cases e : s = "@"
    · exact .inl e
    · cases hn : nameS s with
      | true => exact .inr rfl
      | false => exact absurd ⟨e, hn⟩ h
theorem num_back {cs : List Nat} (h : NumText.AllDigits cs) (h0 : cs ≠ []) (h1 : cs.head? ≠ some 48) : numL (NumText.digitsVal cs) = cs := by
  unfold numL
  obtain ⟨c, r, rfl⟩ : ∃ c r, cs = c :: r := by
    cases cs with
    | nil => exact absurd rfl h0
    | cons c r => exact ⟨c, r, rfl⟩
  have hc := h c List.mem_cons_self
  rw [NumText.toDigits_digitsVal r.length (c :: r) rfl h (.inr ⟨c, r, rfl, by
    have : c ≠ 48 := fun z => h1 (by rw [z]; rfl)
    omega⟩), List.map_map]
  have : ∀ l : List Nat, NumText.AllDigits l → l.map (Char.toNat ∘ Char.ofNat) = l := by
    intro l hl
    induction l with
    | nil => rfl
    | cons a l ih =>
      rw [List.map_cons, ih fun d hd => hl d (List.mem_cons_of_mem _ hd)]
      have ha := hl a List.mem_cons_self
      have : ∀ k : Fin 10, (Char.ofNat (48 + k.1)).toNat = 48 + k.1 := by decide
      have h2 := this ⟨a - 48, by omega⟩
      have e : 48 + (a - 48) = a := by omega
      simp only [e] at h2
      show (Char.ofNat a).toNat :: l = a :: l
      rw [h2]
  exact this _ h
theorem digF_lt {z : Str} (h : digF z = true) : NumText.digitsVal (tl z) < 10 ^ (tl z).length := by
  have h1 := fold_lt (tl z) 0 (digF_all.mp h)
  rw [Nat.zero_add, Nat.one_mul] at h1
  exact h1
/-- a term that the law reads is the word of a symbol and a number -/
theorem termL_word {z s : Str} (h : termL z = some s) : symS s = true ∧ ∃ n : Nat, 1 ≤ n ∧ n < 10 ^ (z.length + 1) ∧ ∀ i : Int, i.natAbs = n → wordR (s, i) = z := by
  unfold termL at h
  split at h
  · cases h
  · rename_i hs
    split at h
    · rename_i hf
      cases h
      have hn : 42 ∉ tl z := fun m => by
        rcases PyProof.Rows.find_whole z "*" with ⟨_, no⟩ | ⟨i, ei, _⟩
        · obtain ⟨i, hi⟩ := List.mem_iff_getElem?.mp m
          exact absurd (at_star.mpr hi) (no i)
        · rw [ei] at hf
          omega
      have e1 : cutS z (some (Txt.find z "*" + 1)) none = z := tl_ext' (by
        rw [find_none hn]
        exact cutD_tl z 0)
      rw [e1] at hs ⊢
      refine ⟨(symS_or z).mpr hs, 1, Nat.le_refl _, Nat.one_lt_pow (by omega) (by decide), fun i hi => tl_ext' ?_⟩
      rw [tl_word, if_pos hi]
    · rename_i hf
      split at h
      · cases h
      · rename_i hd
        split at h
        · cases h
        · rename_i h1
          cases h
          rcases PyProof.Rows.find_whole z "*" with ⟨e, _⟩ | ⟨i, ei, ai, no⟩
          · rw [e] at hf
            exact absurd (by decide) hf
          · have hai := at_star.mp ai
            obtain ⟨hi, ec⟩ := List.getElem?_eq_some_iff.mp hai
            have esplit : tl z = (tl z).take i ++ 42 :: (tl z).drop (i + 1) := by
              rw [← ec, ← List.drop_eq_getElem_cons hi, List.take_append_drop]
            rw [ei] at hs hd h1 ⊢
            have e2 : ((i : Int) + 1) = ((i + 1 : Nat) : Int) := by omega
            rw [e2] at hs ⊢
            have hd' : cutS z none (some (i : Int)) ≠ "" ∧ digF (cutS z none (some (i : Int))) = true := by
              constructor
              · exact fun q => hd (.inl q)
              · cases q : digF (cutS z none (some (i : Int))) with
                | true => rfl
                | false => exact absurd (.inr q) hd
            have tN := cutN_tl z i
            have hne : (tl z).take i ≠ [] := fun q => hd'.1 (tl_ext' (by rw [tN, q]; decide +kernel))
            have hdg := digF_all.mp hd'.2
            rw [tN] at hdg
            have hh : ((tl z).take i).head? ≠ some 48 := fun q => h1 (.inl (by rw [tN]; exact q))
            have hb := num_back hdg hne hh
            have hlt := digF_lt hd'.2
            rw [tN] at hlt
            have hn1 : NumText.digitsVal ((tl z).take i) ≠ 1 := fun q => h1 (.inr (tl_ext' (by
              rw [tN, ← hb, q]
              decide +kernel)))
            have hn0 : NumText.digitsVal ((tl z).take i) ≠ 0 := fun q => by
              rw [q] at hb
              exact hh (by rw [← hb]; decide +kernel)
            refine ⟨(symS_or _).mpr hs, NumText.digitsVal ((tl z).take i), by omega, ?_, fun j hj => tl_ext' ?_⟩
            · refine Nat.lt_of_lt_of_le hlt (Nat.pow_le_pow_right (by decide) ?_)
              rw [List.length_take, len_tl]
              omega
            · rw [tl_word, hj, if_neg hn1, hb]
              show (tl z).take i ++ 42 :: tl (cutS z (some ((i + 1 : Nat) : Int)) none) = tl z
              rw [cutD_tl]
              exact esplit.symm
end G


namespace G
open PySem PySem.Spec PyProof.Rows L2 StX ClX TL
def evens {α : Type} : List α → List α
  | [] => []
  | [a] => [a]
  | a :: _ :: r => a :: evens r
def odds {α : Type} : List α → List α
  | [] => []
  | [_] => []
  | _ :: b :: r => b :: odds r
theorem evens_cons {α : Type} : ∀ (a : α) (r : List α), evens (a :: r) = a :: odds r
  | a, [] => rfl
  | a, [b] => rfl
  | a, b :: c :: r => by
    show a :: evens (c :: r) = a :: c :: odds r
    rw [evens_cons c r]
theorem odds_cons {α : Type} : ∀ (a : α) (r : List α), odds (a :: r) = evens r
  | a, [] => rfl
  | a, [b] => rfl
  | a, b :: c :: r => by
    show b :: odds (c :: r) = b :: evens r
    rw [odds_cons c r]
def isSg (w : Str) : Bool := decide (w = "+") || decide (w = "-")
def stripF : List Str → List Str
  | [] => []
  | w :: r => (signF w).2 :: r
def wordsL (z : Str) : List Str := stripF (Txt.split z " ")
/-- whether a text is the text of a form, as the law asks -/
def textL (z : Str) : Bool := decide (z = "0") || ((odds (wordsL z)).all isSg && decide ((wordsL z).length % 2 = 1) && (evens (wordsL z)).all (fun w => (termL w).isSome) && ascS ((evens (wordsL z)).filterMap termL))
def sgR (p : Str × Int) : Str := if p.2 < 0 then "-" else "+"
def flatR (r : Row) : List Str := r.flatMap fun p => [sgR p, wordR p]
theorem flat_cons (p : Str × Int) (r : Row) : flatR (p :: r) = sgR p :: wordR p :: flatR r := rfl
theorem tl_blank : tl (" " : Str) = [32] := by decide +kernel
theorem free_word {p : Str × Int} (h : symS p.1 = true) : 32 ∉ tl (wordR p) := fun z => by
  have := word_free h _ z
  omega
theorem free_sg {p : Str × Int} : 32 ∉ tl (sgR p) := by
  unfold sgR
  split <;> decide +kernel
theorem free_part {p : Str × Int} (h : symS p.1 = true) : 32 ∉ tl (partR p) := fun z => by
  rw [tl_part] at z
  split at z
  · rcases List.mem_cons.mp z with z | z
    · omega
    · exact free_word h z
  · exact free_word h z
theorem joinL_flat (w : List Nat) : ∀ r : Row, joinL [32] (w :: (flatR r).map tl) = tgl w (r.map fun q => (decide (q.2 < 0), tl (wordR q)))
  | [] => by simp [flatR, joinL, tgl]
  | p :: r => by
    have ih := joinL_flat (tl (wordR p)) r
    rw [flat_cons, List.map_cons, List.map_cons, List.map_cons, tgl_cons, ← ih]
    show w ++ ([32] ++ (tl (sgR p) ++ ([32] ++ joinL [32] (tl (wordR p) :: (flatR r).map tl)))) = _
    have e : (if decide (p.2 < 0) = true then Mi else Pl) = [32] ++ (tl (sgR p) ++ [32]) := by
      unfold sgR
      by_cases h : p.2 < 0
      · rw [if_pos (by simpa using h), if_pos h]
        decide +kernel
      · rw [if_neg (by simpa using h), if_neg h]
        decide +kernel
    rw [e]
    simp
/-- a form's text by its words -/
theorem text_words (p : Str × Int) (r : Row) : textR (p :: r) = Txt.join " " (partR p :: flatR r) := by
  refine ext_tl ?_
  rw [tl_text, join_eq, tl_join, tl_blank, List.map_cons, joinL_flat]
theorem split_text {p : Str × Int} {r : Row} (h : ∀ q ∈ p :: r, symS q.1 = true) : Txt.split (textR (p :: r)) " " = partR p :: flatR r := by
  rw [text_words]
  refine split_join (s := 32) (S := []) tl_blank (by decide +kernel) (by simp) ?_
  intro w hw
  rcases List.mem_cons.mp hw with rfl | hw
  · exact free_part (h p List.mem_cons_self)
  · obtain ⟨q, hq, hm⟩ := List.mem_flatMap.mp hw
    have hs := h q (List.mem_cons_of_mem _ hq)
    have : w = sgR q ∨ w = wordR q := by simpa using hm
    rcases this with rfl | rfl
    · exact free_sg
    · exact free_word hs
/-- the words behind the first one -/
theorem build {B : Nat} : ∀ ws : List Str, ws.length % 2 = 0 → (evens ws).all isSg = true → (odds ws).all (fun w => (termL w).isSome) = true → (∀ w ∈ ws, w.length ≤ B) →
    ∃ r : Row, ws = flatR r ∧ (odds ws).filterMap termL = keysR r ∧ ∀ q ∈ r, symS q.1 = true ∧ q.2 ≠ 0 ∧ q.2.natAbs < 10 ^ (B + 1)
  | [], _, _, _, _ => ⟨[], rfl, rfl, fun _ h => (List.not_mem_nil h).elim⟩
  | [_], h, _, _, _ => by simp at h
  | a :: b :: r, hl, hs, ht, hb => by
    have hs' : (isSg a && (evens r).all isSg) = true := hs
    have ht' : ((termL b).isSome && (odds r).all (fun w => (termL w).isSome)) = true := ht
    rw [Bool.and_eq_true] at hs' ht'
    obtain ⟨q, e1, e2, e3⟩ := build r (by simp only [List.length_cons] at hl; omega) hs'.2 ht'.2 fun w hw => hb w (List.mem_cons_of_mem _ (List.mem_cons_of_mem _ hw))
    cases et : termL b with
    | none => rw [et] at ht'; cases ht'.1
    | some s =>
      obtain ⟨h1, n, h2, h3, h4⟩ := termL_word et
      have hbl := hb b (by simp)
      have hn : n < 10 ^ (B + 1) := Nat.lt_of_lt_of_le h3 (Nat.pow_le_pow_right (by decide) (by omega))
      have hsg : a = "+" ∨ a = "-" := by
        have := hs'.1
        unfold isSg at this
        rw [Bool.or_eq_true, decide_eq_true_eq, decide_eq_true_eq] at this
        exact this
      have key : ∀ i : Int, i.natAbs = n → i ≠ 0 → sgR (s, i) = a → ∃ r' : Row, a :: b :: r = flatR r' ∧ (b :: odds r).filterMap termL = keysR r' ∧ ∀ q ∈ r', symS q.1 = true ∧ q.2 ≠ 0 ∧ q.2.natAbs < 10 ^ (B + 1) := by
        intro i hi h0 hsi
        refine ⟨(s, i) :: q, ?_, ?_, ?_⟩
        · rw [flat_cons, hsi, h4 i hi, ← e1]
        · rw [List.filterMap_cons, et, e2]
          rfl
        · intro p hp
          rcases List.mem_cons.mp hp with rfl | hp
          · exact ⟨h1, h0, by rw [hi]; exact hn⟩
          · exact e3 p hp
      rcases hsg with ea | ea
      · refine key n (by omega) (by omega) ?_
        unfold sgR
        rw [if_neg (by show ¬ (n : Int) < 0; omega), ea]
      · refine key (-(n : Int)) (by omega) (by omega) ?_
        unfold sgR
        rw [if_pos (by show -(n : Int) < 0; omega), ea]
theorem asc_of_ascS : ∀ {l : List Str}, ascS l = true → l.Pairwise fun a b => a.cps.toList < b.cps.toList
  | [], _ => .nil
  | [a], _ => List.pairwise_singleton _ _
  | a :: b :: l, h => by
    rw [ascS_cons, Bool.and_eq_true] at h
    have ih := asc_of_ascS h.2
    have h1 : a.cps.toList < b.cps.toList := of_decide_eq_true h.1
    refine List.pairwise_cons.mpr ⟨fun c hc => ?_, ih⟩
    rcases List.mem_cons.mp hc with rfl | hc
    · exact h1
    · exact List.lt_trans h1 ((List.pairwise_cons.mp ih).1 c hc)
theorem join_split (z : Str) : Txt.join " " (Txt.split z " ") = z := by
  have hm : tl (" " : Str) ≠ [] := by rw [tl_blank]; simp
  have hk : (" " : Str).cps.all (· < 256) = true := by decide +kernel
  exact (replace_join hm hk).symm.trans (Txt.replace_self z " ")
/-- a text that is one is a form's -/
theorem textL_form {z : Str} (hz : z.length ≤ 400) (h : textL z = true) : ∃ q, Can q ∧ RowB q ∧ textR q = z := by
  unfold textL at h
  rw [Bool.or_eq_true, decide_eq_true_eq] at h
  rcases h with rfl | h
  · exact ⟨[], Can.nil, ⟨by simp, fun _ h => (List.not_mem_nil h).elim, fun _ h => (List.not_mem_nil h).elim⟩, rfl⟩
  · have hj := join_split z
    have hm : tl (" " : Str) ≠ [] := by rw [tl_blank]; simp
    have hk : (" " : Str).cps.all (· < 256) = true := by decide +kernel
    have hsl := split_len (x := z) hm hk
    have l1 : (" " : Str).length = 1 := by decide +kernel
    rw [l1] at hsl
    unfold wordsL at h
    cases e : Txt.split z " " with
    | nil => exact absurd e (split_ne z " ")
    | cons w ws =>
      rw [e] at h hj hsl
      have hwl : ∀ v ∈ w :: ws, v.length ≤ 400 := by
        intro v hv
        have h3 := mem_sum (List.mem_map.mpr ⟨tl v, List.mem_map.mpr ⟨v, hv, rfl⟩, rfl⟩ : (tl v).length ∈ ((w :: ws).map tl).map List.length)
        have h4 : 0 < (w :: ws).length := by simp
        rw [len_tl]
        omega
      have hcnt : (w :: ws).length ≤ 401 := by omega
      have h : ((odds ((signF w).2 :: ws)).all isSg && decide (((signF w).2 :: ws).length % 2 = 1) && (evens ((signF w).2 :: ws)).all (fun w => (termL w).isSome) && ascS ((evens ((signF w).2 :: ws)).filterMap termL)) = true := h
      rw [odds_cons, evens_cons, Bool.and_eq_true, Bool.and_eq_true, Bool.and_eq_true, decide_eq_true_eq, List.length_cons] at h
      obtain ⟨⟨⟨f1, f2⟩, f3⟩, f4⟩ := h
      rw [List.all_cons, Bool.and_eq_true] at f3
      obtain ⟨r, e1, e2, e3⟩ := build (B := 400) ws (by omega) f1 f3.2 fun v hv => hwl v (List.mem_cons_of_mem _ hv)
      cases et : termL (signF w).2 with
      | none => rw [et] at f3; cases f3.1
      | some s =>
        obtain ⟨h1, n, h2, h3, h4⟩ := termL_word et
        have hsl2 : (signF w).2.length ≤ 400 := Nat.le_trans (len_sign w) (hwl w List.mem_cons_self)
        have hn : n < 10 ^ 401 := Nat.lt_of_lt_of_le h3 (Nat.pow_le_pow_right (by decide) (by omega))
        rw [List.filterMap_cons, et, e2] at f4
        have bdn : ∀ m : Nat, m < 10 ^ 401 → m < 2 ^ 1900 := fun m hm => Nat.lt_trans hm (by decide +kernel)
        have fin : ∀ i : Int, i.natAbs = n → i ≠ 0 → partR (s, i) = w → ∃ q, Can q ∧ RowB q ∧ textR q = z := by
          intro i hi h0 hp
          refine ⟨(s, i) :: r, ⟨asc_of_ascS f4, ?_⟩, ⟨?_, ?_, ?_⟩, ?_⟩
          · intro p hp
            rcases List.mem_cons.mp hp with rfl | hp
            · exact h0
            · exact (e3 p hp).2.1
          · have hlr : (flatR r).length = 2 * r.length := by
              clear e1 e2 e3 f4 hj
              induction r with
              | nil => rfl
              | cons a r ih => rw [flat_cons, List.length_cons, List.length_cons, ih, List.length_cons]; omega
            rw [← e1] at hlr
            simp only [List.length_cons] at hcnt ⊢
            omega
          · intro p hp
            rcases List.mem_cons.mp hp with rfl | hp
            · exact h1
            · exact (e3 p hp).1
          · intro p hp
            rcases List.mem_cons.mp hp with rfl | hp
            · exact bdn _ (by rw [hi]; exact hn)
            · exact bdn _ (e3 p hp).2.2
          · rw [text_words, hp, ← e1]
            exact hj
        by_cases hc : cutS w none (some 1) = "-"
        · have hw : signF w = (0 - 1, cutS w (some 1) none) := by unfold signF; rw [if_pos hc]
          have hww : w = "-" ++ (signF w).2 := by
            rw [hw]
            refine ext_tl ?_
            rw [tl_append, cutT_tl, ← hc, cut1_tl, List.take_append_drop]
          refine fin (-(n : Int)) (by omega) (by omega) ?_
          unfold partR
          rw [if_pos (by show -(n : Int) < 0; omega), h4 _ (by omega)]
          exact hww.symm
        · have hw : signF w = (1, w) := by unfold signF; rw [if_neg hc]
          refine fin n (by omega) (by omega) ?_
          unfold partR
          rw [if_neg (by show ¬ (n : Int) < 0; omega), h4 _ (by omega), hw]
end G


namespace G
open PySem PySem.Spec PyProof.Rows L2 StX ClX TL
section
variable {X : Cx} {o e : Expr} {to te : TE} {apos pos : Pos}
theorem pe_splitN (ho : PE X o to) (he : PE X e te) (hs : starEach [e] X.env = [(false, eval e X.env)] := by rfl) (hbase : attributeBase o "split" X.env (eval o X.env) = eval o X.env := by rfl) (hline : (apos.endLine == pos.line) = true := by rfl) :
    PE X (.Call (.Attribute o "split" apos) [e] [] pos) (tM1 rSplit to te) := pe_split ho he hs hbase hline
end
section
variable {X : Cx} (K : PySem.W.Frag) (h : X.K = K := by rfl)
include h
end
/-- == of data, whatever texts lie within -/
def rEqP (K : PySem.W.Frag) : R2 := fun x y H Q => ∃ d e, Dp K H x d ∧ Dp K H y e ∧ d.plain = true ∧ e.plain = true ∧ d.depth ≤ 60 ∧ Q (.bl (PyData.eqv d e)) H
theorem eqPK {X : Cx} (K : PySem.W.Frag) (h : X.K = K := by rfl) (hu : X.A.units + 64 < cLine) : OpR X (compareOp .Eq) (rEqP K) := by
  subst h
  intro pins s σ H x y v u Q I rx ry h
  obtain ⟨d, e, hd, he, sd, se, dd, q⟩ := h
  obtain ⟨as, r1⟩ := Dp.reads I d x v hd rx
  obtain ⟨bs, r2⟩ := Dp.reads I e y u he ry
  exact PySem.SeqAt.eq_plain r1 r2 sd se (by omega) ⟨.bl _, H, I, rfl, q⟩
end G


namespace G
open PySem PySem.Spec PyProof.Rows L2 StX ClX TL
end G


namespace G
open PySem PySem.Spec PyProof.Rows L2 StX ClX TL
end G
namespace G
open PySem PySem.Spec PyProof.Rows L2 StX ClX TL
end G
namespace G
open PySem PySem.Spec PyProof.Rows L2 StX ClX TL
theorem atI_getD {ks : List Str} {i : Int} (h0 : 0 ≤ i) (h1 : i < ks.length) : atI (ks.map V.str) i = some (.str (ks.getD i.toNat Str.empty)) := by
  obtain ⟨n, rfl⟩ : ∃ n : Nat, i = n := ⟨i.toNat, by omega⟩
  have hn : n < ks.length := by omega
  refine atI_of ?_
  rw [List.getElem?_map, List.getElem?_eq_getElem hn, Int.toNat_natCast, List.getD_eq_getElem?_getD, List.getElem?_eq_getElem hn]
  rfl
end G


namespace G
open PySem PySem.Spec PyProof.Rows L2 StX ClX TL
end G
namespace G
open PySem L2
end G
namespace G
open PySem L2
end G


namespace G
open PySem PySem.Spec PyProof.Rows L2 StX ClX TL
end G


namespace G
open PySem PySem.Spec PyProof.Rows L2 StX ClX TL
section
variable {K : PySem.W.Frag} {H : Hp}
end
end G


namespace G
open PySem PySem.Spec PyProof.Rows L2 StX ClX TL
end G


namespace G
open PySem PySem.Spec PySem.Calls PyProof.Rows L2 StX ClX TL
open Builtin Builtin.ObjectAttr
section
variable {prog : Program} {w : World} {A : Around} {R : Result → Shared → Prop} {s : Shared} {K : PySem.W.Frag} {C x : Addr} {nm : Str} {tk : Tok} {v : Value} {fv : Array Value}
end
section
variable {X : Cx} {pins : List (Addr × Obj)} {σ : L2.St} {H : Hp} {s : Shared} {a C dx : Addr} {f : Str} {y : V} {u : Value} {fs : List (Str × V)} {A : Around} {E : Value → Shared → Prop} {Q : Unit → Shared → Prop}
end
section
variable {X : Cx} {o e : Expr} {to te : TE} {f : Str} {p' pos : Pos}
end
section
variable {prog : Program} {w : World} {A : Around} {R : Result → Shared → Prop} {hp : Heap} {g : Array GenState} {dr : Drawn} {t : Nat} {os : OsState} {K : PySem.W.Frag} {C fI : Addr} {us : List Value} {kw : List (Str × Value)}
end
end G


namespace G
open PySem PySem.Spec PySem.Calls PyProof.Rows L2 StX ClX TL
section
variable {P : Program} {w : World} {K : PySem.W.Frag} {mg : Str → Option Value} {base : Heap} {nm : Str} {C : Addr} {q : Str} {st : Stmt} {f f2 : Str} {p1 p2 p3 p4 p5 p6 p7 p8 : Pos}
end
section
variable {X : Cx} {nm : Str} {C : Addr} {fsn ks : List Str} {st : Stmt} {p pos : Pos} {e : Expr} {es : List Expr} {kws : List Keyword} {ta tk : TA} {pins : List (Addr × Obj)} {σ : L2.St} {H : Hp} {s : Shared} {Q : VK}
end
end G


namespace G
open PySem PySem.Spec PySem.Calls PyProof.Rows L2 StX ClX TL
section
variable {X : Cx} {nm : Str} {C : Addr} {p pos : Pos}
end
end G


namespace G
open PySem PySem.Spec PySem.Calls PyProof.Rows L2 StX ClX TL
section
variable {K : PySem.W.Frag} {C : Addr} {fsn : List Str} {gV : List V → List V} {ta : TA} {σ : L2.St} {H : Hp} {Q : VK} {f : Str} {te : TE}
end
end G


namespace G
open PySem PySem.Spec PySem.Calls PyProof.Rows L2 He
section
variable {K : PySem.W.Frag} {c f : Str} {i : Nat} {B nw ini : String} {tl : List Value}
end
theorem fact_at {l : List (PySem.W.Frag → Bool)} {K : PySem.W.Frag} (h : (l.all fun b => b K) = true) (i : Nat) {b : PySem.W.Frag → Bool} (e : l[i]? = some b := by rfl) : b K = true := List.all_eq_true.mp h b (List.mem_of_getElem? e)
end G


namespace G
open PySem PySem.Spec PySem.Calls PyProof.Rows L2 StX ClX TL
section
variable {K : PySem.W.Frag} {H H' : Hp} {i : Nat} {f : Str} {y v : V} {vs ws : List V} {C a : Addr} {fs : List (Str × V)}
end
section
variable {K : PySem.W.Frag} {H : Hp} {Q : VK} {a b : Addr} {i n : Nat} {vs ws : List V}
end
end G


namespace G
open PySem PySem.Spec PyProof.Rows L2 LamX
section
variable {X : Cx} {pins : List (Addr × Obj)} {σ : L2.St} {H : Hp} {s : Shared} {k i : Nat} {f g c' : Addr} {qg a : Str} {sg scope : Scope} {cdg pm ctv : Value} {params : Arguments} {body : Expr} {Ng : List Str} {Eg : XK} {CXg : CXT} {tb : XK → TE}
  {pn : List (Addr × Obj)} {xe : Value → Shared → Prop} {W : WX} {p1 p2 : Pos}
end
section
variable {X : Cx} {T : List (Addr × Str)} {TT : (XK → Hp → VK → Prop) → Hp → VK → Prop} {x a : Str} {st : Stmt} {c P : Addr} {k : Nat} {Ng : List Str} {params : Arguments} {body : Expr} {scope : Scope} {t : XK → TE} {p lpos pos : Pos}
end
end G


namespace G
open PySem PySem.Spec PyProof.Rows L2 LamX
/-- an empty table -/
abbrev tab0 : Obj := { cls := .none, data := .fields #[] }
/-- the first heap that is tracked: the tables, and the script if K does not hold it -/
def hp0 (K : PySem.W.Frag) (tabs : List Addr) (a : Addr) (o : Obj) (xs : List V) : Hp := fun b =>
  if b ∈ tabs then some (.tbl #[]) else if b = a ∧ (K.lookup a).isNone = true then some (.frz o (.lst xs)) else none
section
variable {K : PySem.W.Frag} {tabs : List Addr} {a b : Addr} {o : Obj} {xs : List V} {u : HO}
theorem hp0_tab (h : b ∈ tabs) : hp0 K tabs a o xs b = some (.tbl #[]) := if_pos h
theorem hp0_cases (e : hp0 K tabs a o xs b = some u) : (b ∈ tabs ∧ u = .tbl #[]) ∨ (b ∉ tabs ∧ b = a ∧ K.lookup a = none ∧ u = .frz o (.lst xs)) := by
  unfold hp0 at e
  split at e
  · rename_i h
    exact .inl ⟨h, (Option.some.inj e).symm⟩
  · rename_i h
    split at e
    · rename_i h2
      exact .inr ⟨h, h2.1, Option.isNone_iff_eq_none.mp h2.2, (Option.some.inj e).symm⟩
    · cases e
end
/-- what the tables' end asks of the head -/
structure Tb0 (K : PySem.W.Frag) (h : Heap) (mg : Str → Option Value) (p : Addr × Addr) : Prop where
  tab : h.get? p.2 = some tab0
  out : K.lookup p.2 = none
  code : PySem.W.CodeHd h p.1 p.2
theorem law_endT {P : Program} {w : World} {K : PySem.W.Frag} {mg mb : Str → Option Value} {CX : CXT} {k : Nat} {fa a : Addr} {fd : FuncData} {x : Str} {sp : Sp} {s₁ : Shared} {vs : List Value} {ns : List Int} {cs : List (Addr × Addr)}
    (KX : K.In s₁.heap) (hns : s₁.heap.Ns mainGlobals mg) (hb : s₁.heap.Ns builtinsNs mb)
    (hbb : ∀ x : Str, x ≠ "__name__" → mb x = bootBuiltins x) (hlim : s₁.heap.NoLimit) (hg : s₁.gens = #[])
    (TT : ∀ p ∈ cs, Tb0 K s₁.heap mg p)
    (hbm : ∃ (bm : Addr) (ob : Obj), mg "__builtins__" = some (.ref bm) ∧ bm ≠ builtinsNs ∧ s₁.heap.get? bm = some ob ∧ ob.cls = .type "module" ∧ ob.dict = some builtinsNs ∧ ob.data = .plain)
    (ha : s₁.heap.get? a = some { cls := .type "list", data := .seq vs.toArray }) (hi : IntsAre vs ns)
    (hl : ns.length ≤ sizeLine) (hr : Room k callerA)
    (F : ∀ base : Heap, K.In base → base.Ns mainGlobals mg → (∀ p ∈ cs, TabB base mg p.1 p.2) → Fg P w K mg base CX k fa fd [x] sp)
    (hbind : ∀ (s : Shared) (u : Value), BindsTo s fd ⟨[u], []⟩ [(x, u)])
    (hsp : ∀ H : Hp, (∀ p ∈ cs, H p.2 = some (.tbl #[])) → SqL K H a (ns.map V.int) → sp [.ref a] H (fun v _ => v = .bl true) fun _ _ _ => False)
    (hCX : ∀ H e s', CX [] H s₁ (fun _ _ _ => False) e s' → False) :
    codeAny (model P w) callerA (.call (.ref fa) ⟨[.ref a], []⟩)
      (fun r s' => r = .ok (.ret (.bool true)) ∧ OldK s₁.heap s'.heap ∧ s'.os = s₁.os ∧ AllBare s'.gens) s₁ := by
  have rv := vals_ints hi
  have lenV := hi.length
  generalize ho : ({ cls := .type "list", data := .seq vs.toArray } : Obj) = o at ha
  generalize hH : hp0 K (cs.map (·.2)) a o (ns.map V.int) = H
  have tabAt : ∀ b ∈ cs.map (·.2), s₁.heap.get? b = some tab0 ∧ K.lookup b = none ∧ H b = some (.tbl #[]) := by
    intro b z
    have hH1 : H b = some (.tbl #[]) := by rw [← hH]; exact hp0_tab z
    obtain ⟨p, hp, rfl⟩ := List.mem_map.mp z
    exact ⟨(TT p hp).tab, (TT p hp).out, hH1⟩
  have hcs : ∀ {b : Addr} {u : HO}, H b = some u → (b ∈ cs.map (·.2) ∧ u = .tbl #[]) ∨ (b ∉ cs.map (·.2) ∧ b = a ∧ K.lookup a = none ∧ u = .frz o (.lst (ns.map V.int))) := by
    intro b u e
    rw [← hH] at e
    exact hp0_cases e
  have aT : a ∉ cs.map (·.2) := by
    intro z
    have e := (tabAt a z).1
    rw [ha, ← ho] at e
    cases e
  -- what is neither a list nor an empty table is not tracked
  have noH : ∀ {b : Addr} {ob : Obj}, s₁.heap.get? b = some ob → (∀ l n, ob.data ≠ .seq l n) → ob.data ≠ .fields #[] → H b = none := by
    intro b ob e n1 n2
    cases q : H b with
    | none => rfl
    | some u =>
      rcases hcs q with ⟨z, _⟩ | ⟨_, rfl, _⟩
      · rw [(tabAt b z).1] at e
        cases e
        exact (n2 rfl).elim
      · rw [ha, ← ho] at e
        cases e
        exact (n1 _ _ rfl).elim
  have keepN : ∀ {b : Addr} {ob : Obj}, s₁.heap.get? b = some ob → (∀ l n, ob.data ≠ .seq l n) → ob.data ≠ .fields #[] → (hidT s₁.heap H).get? b = some ob := fun e n1 n2 => hidT_get e (noH e n1 n2)
  have nsK : ∀ {b : Addr} {m : Str → Option Value}, s₁.heap.Ns b m → (hidT s₁.heap H).Ns b m := by
    rintro b m ⟨ob, es, ep, e, d, r⟩
    refine ⟨ob, es, ep, keepN e ?_ ?_, d, r⟩
    · intro l n z
      rw [d] at z
      cases z
    · intro z
      rw [d] at z
      cases z
  have hKb : K.In (hidT s₁.heap H) := by
    intro b ob e
    refine hidT_get (KX b ob e) ?_
    cases q : H b with
    | none => rfl
    | some u =>
      rcases hcs q with ⟨z, _⟩ | ⟨_, rfl, n, _⟩
      · rw [(tabAt b z).2.1] at e
        cases e
      · rw [n] at e
        cases e
  have hM : Mod K mg (hidT s₁.heap H) := by
    obtain ⟨mc, h1, h2⟩ := hlim
    exact ⟨hKb, nsK hns, ⟨mb, nsK hb, hbb⟩, ⟨mc, nsK h1, h2⟩⟩
  have hok : HOk P w H s₁.heap := by
    intro b u z
    rcases hcs z with ⟨h1, rfl⟩ | ⟨_, rfl, _, rfl⟩
    · exact (tabAt b h1).1
    · subst ho
      exact ⟨ha, by rw [List.length_map]; exact hl, vs, _, rv, ha⟩
  have hS : SqL K H a (ns.map V.int) := by
    cases hk : K.lookup a with
    | some ob =>
      have e := KX a ob hk
      rw [ha] at e
      cases e
      subst ho
      refine .inr ⟨_, vs.toArray, _, hk, rfl, rfl, rfl, ?_, by simpa using rv⟩
      rw [List.size_toArray, lenV]
      exact hl
    | none =>
      refine .inl (.inr ⟨o, ?_⟩)
      rw [← hH]
      unfold hp0
      rw [if_neg aT, if_pos ⟨rfl, by rw [hk]; rfl⟩]
  have TB : ∀ p ∈ cs, TabB (hidT s₁.heap H) mg p.1 p.2 := by
    intro p hp
    obtain ⟨t1, t2, t3⟩ := TT p hp
    constructor
    · obtain ⟨ob, us, file, tf, flags, tg, inF, text, tt, e1, r1, r2, r3, rest⟩ := t3
      refine ⟨ob, us, file, tf, flags, tg, inF, text, tt, keepN e1 ?_ ?_, r1, r2, r3, rest⟩
      · intro l n z
        rw [r2] at z
        cases z
      · intro z
        rw [r2] at z
        cases z
        simp at r3
    · obtain ⟨bm, ob, b1, b2, b3, b4, b5, b6⟩ := hbm
      refine ⟨bm, ob, b1, b2, ?_, ?_, keepN b3 ?_ ?_, b4, b5, b6⟩
      · intro z
        obtain ⟨og, es, ep, e, d, _⟩ := hns
        rw [z, e] at b3
        cases b3
        rw [d] at b6
        cases b6
      · intro z
        rw [z, t1] at b3
        cases b3
        cases b6
      · intro l n z
        rw [b6] at z
        cases z
      · intro z
        rw [b6] at z
        cases z
    · intro z
      obtain ⟨og, es, ep, e, d, _⟩ := hns
      rw [z, t1] at e
      cases e
      cases d
  have e0 : Env0 P w K mg (hidT s₁.heap H) callerA [] s₁ H :=
    ⟨rfl, hM, fun b o e => of_hidT e, Nat.le_of_eq (hidT_size _ _), trivial, fun b hb => (List.not_mem_nil hb).elim, hok, .of_eq hg⟩
  have hHT : ∀ p ∈ cs, H p.2 = some (.tbl #[]) := fun p hp => (tabAt p.2 (List.mem_map.mpr ⟨p, hp, rfl⟩)).2.2
  have run := (F _ hKb (nsK hns) TB).go callerA [] s₁ H ⟨[.ref a], []⟩ [.ref a] [.ref a] _ _ hr (fun _ => rfl) e0 (hbind s₁ (.ref a)) (.cons rfl .nil) (hsp H hHT hS)
  refine codeAny_mono run ?_
  intro r s' h
  cases r with
  | error e => exact (hCX H e s' h).elim
  | ok fl => cases fl with
    | next => exact h.elim
    | brk => exact h.elim
    | cont => exact h.elim
    | ret u =>
      obtain ⟨v, H', os, bare, un, hok', r', q⟩ := h
      obtain rfl : v = .bl true := q
      obtain rfl : u = Value.bool true := r'
      have stays : ∀ b ob, b ∉ cs.map (·.2) → s₁.heap.get? b = some ob → s'.heap.get? b = some ob := by
        intro b ob nb e
        cases q : H b with
        | none => exact un.keep b ob e q (fun z => (List.not_mem_nil z).elim) (fun z => (List.not_mem_nil z).elim)
        | some u =>
          rcases hcs q with ⟨z, _⟩ | ⟨_, rfl, _, rfl⟩
          · exact (nb z).elim
          · rw [ha] at e
            cases e
            exact (hok' b _ (un.frzs b _ _ q)).1
      have grows : ∀ p ∈ cs, ∃ more : Array Value, s'.heap.get? p.2 = some { cls := .none, data := .fields more } := by
        intro p hp
        obtain ⟨more, z⟩ := un.tbls p.2 #[] (hHT p hp)
        exact ⟨_, hok' p.2 _ z⟩
      refine ⟨rfl, ⟨?_, ?_⟩, os, bare⟩
      · intro b ob e
        by_cases z : b ∈ cs.map (·.2)
        · obtain ⟨p, hp, rfl⟩ := List.mem_map.mp z
          obtain ⟨more, hm⟩ := grows p hp
          obtain ⟨t1, t2, t3⟩ := TT p hp
          rw [t1] at e
          cases e
          refine .inr (.inl ⟨(t3.tab t1).isCodeTable, rfl, #[], more, rfl, ?_⟩)
          rw [Array.empty_append]
          exact hm
        · exact .inl (stays b ob z e)
      · intro b ob e
        by_cases z : b ∈ cs.map (·.2)
        · obtain ⟨p, hp, rfl⟩ := List.mem_map.mp z
          obtain ⟨more, hm⟩ := grows p hp
          exact ⟨_, hm⟩
        · exact ⟨ob, stays b ob z e⟩
/-- what the law's own end asks, over a head by facts with tables -/
theorem walkT {l : PySem.W.OpenLaw} {n k : Nat} {q : Program} {loose : List Str} {XP : (Str → Option Value) → Heap → Prop} {YP : World → Heap → Prop} {d : DefRec} {x : Str} {CX : CXT}
    (hn : l.most = some n) (hn2 : n ≤ sizeLine) (hdf : d.params.defaults = []) (hr : Room k callerA)
    (F : ∀ (w : World) (mg : Str → Option Value) (fa : Addr) (h : Heap), YP w h → h.Ns mainGlobals mg → mg d.name = some (.ref fa) →
      ∃ (K : PySem.W.Frag) (fd : FuncData) (cs : List (Addr × Addr)) (sp : Sp), K.In h ∧ (∀ p ∈ cs, Tb0 K h mg p) ∧ (∀ (s : Shared) (u : Value), BindsTo s fd ⟨[u], []⟩ [(x, u)]) ∧
        (∀ (H : Hp) (a : Addr) (ns : List Int), ns.length ≤ n → (∀ p ∈ cs, H p.2 = some (.tbl #[])) → SqL K H a (ns.map V.int) → sp [.ref a] H (fun v _ => v = .bl true) fun _ _ _ => False) ∧
        ∀ base : Heap, K.In base → base.Ns mainGlobals mg → (∀ p ∈ cs, TabB base mg p.1 p.2) → Fg l.prog w K mg base CX k fa fd [x] sp)
    (hCX : ∀ (H : Hp) (s : Shared) (e : Value) (s' : Shared), CX [] H s (fun _ _ _ => False) e s' → False) :
    PySem.W.WalkO q loose XP YP l.row.toRowW d [] (fun f vs => PySem.call f vs) := by
  refine Att.attach_call hn hdf ?_
  intro w s₀ s₁ mg mb fa o pm cd doc a vs ns GG Y ho hd hcd hmg hobj hints hlen hg
  obtain ⟨K, fd, cs, sp, KX, TT, hb, hsp, hF⟩ := F w mg fa _ Y GG.T.g hmg
  exact law_endT KX GG.T.g GG.T.b GG.T.builtins GG.T.nolimit hg TT GG.T.bmain hobj hints (Nat.le_trans hlen hn2) hr hF hb (fun H hO hS => hsp H a ns hlen hO hS) (fun H e s' => hCX H s₁ e s')
end G


namespace G
open PySem PySem.Spec PyProof.Rows L2 StX ClX LamX
section
variable {P : Program} {w : World} {K : PySem.W.Frag} {mg : Str → Option Value} {base : Heap}
end
section
variable {X : Cx} {k : Nat} {C : Addr} {st : Stmt} {ps ks : List Str} {sp : Sp} {spk : List V → List (Str × V) → Hp → VK → XK → Prop} {x m : Str} {p pos apos kp : Pos} {o e : Expr} {es : List Expr} {ta te : TE} {t tk : TA} {kws : List Keyword} {E : XK}
end
section
open PySem.W
variable {prog : Program} {w : World} {A : Around} {E : Value → Shared → Prop} {s : Shared} {K : Frag} {x C f : Addr} {ox : Obj} {od : Option Obj} {T : String} {op : Operator} {b : Value} {Q : Value → Shared → Prop}
end
/-- the built-in kind of a value -/
inductive KindT (K : PySem.W.Frag) (H : Hp) : V → String → Prop
  | non : KindT K H .non "NoneType"
  | bl {b} : KindT K H (.bl b) "bool"
  | int {i} : KindT K H (.int i) "int"
  | str {z} : KindT K H (.str z) "str"
  | lst {a xs} (h : H a = some (.lst xs)) : KindT K H (.ref a) "list"
  | tup {a xs} (h : H a = some (.tup xs)) : KindT K H (.ref a) "tuple"
  | dK {a xs} (h : H a = some (.dK xs)) : KindT K H (.ref a) "dict"
section
variable {X : Cx} {k : Nat} {C f : Addr} {fd : FuncData} {ps : List Str} {sp : Sp} {E : XK} {CX : CXT} {st : Stmt}
theorem KindT.at {pins : List (Addr × Obj)} {σ : L2.St} {H : Hp} {s : Shared} {y : V} {u : Value} {T : String} (I : Inv X pins σ H s) (t : KindT X.K H y T) (r : RelV y u) : PySem.W.Looks (model X.prog X.w) s.heap (typeOf u) (.type T) := by
  cases t with
  | non => cases r; exact PySem.W.Looks.of_pure rfl
  | bl => cases r; exact PySem.W.Looks.of_pure rfl
  | int => obtain ⟨t, rfl⟩ := r; exact PySem.W.Looks.of_pure rfl
  | str => obtain ⟨t, rfl⟩ := r; exact PySem.W.Looks.of_pure rfl
  | lst h =>
    cases r
    obtain ⟨_, us, n, _, hg⟩ := I.hok _ _ h
    exact (PySem.W.Looks.ld hg).andThen .now
  | tup h =>
    cases r
    obtain ⟨_, us, _, hg⟩ := I.hok _ _ h
    obtain ⟨o, e, c, _⟩ := hg
    exact c ▸ (PySem.W.Looks.ld e).andThen .now
  | dK h =>
    cases r
    obtain ⟨_, _, us, _, o, es, ep, e, c, _⟩ := I.hok _ _ h
    exact c.1 ▸ (PySem.W.Looks.ld e).andThen .now
end
end G


namespace G
open PySem PySem.Spec PyProof.Rows L2 StX ClX LamX
section
variable {prog : Program} {w : World} {A : Around} {E : Value → Shared → Prop} {s : Shared} {K : PySem.W.Frag} {x C f : Addr} {ox : Obj} {od : Option Obj} {b : Nat} {Q : Str → Shared → Prop}
theorem reprU_own (hb : b ≤ sizeLine) (hu : A.units < cLine) (X : K.In s.heap) (I : PySem.W.InstAt s.heap x ox C od) (hs : PySem.W.findIn K (.ref C) "__repr__" = some (some (.ref f))) (hf : PySem.W.isFn K (.ref f) = true)
    (h : wpAny (model prog w) A (call (.ref f) [.ref x]) (fun v s' => ∃ z t, v = .str z t ∧ Q z s') E s) : wpAny (model prog w) A (pyReprUnder b (.ref x)) Q E s := by
  apply wpAny_pyReprUnder_ref hb
  unfold pyReprObjUnder pyReprObjBy
  apply wpAny_bind
  apply wpAny_cRoomFor hu
  refine wpAny_bind (wpAny_bind (I.type.here ((PySem.W.looks_findIn X hs).here ?_)))
  show wpAny _ _ (if (some (Value.ref f)).isNone = true then _ else _) _ _ _
  rw [if_neg (by simp)]
  refine wpAny_bind (m := callSpecialIfBoundBy? _ (.ref x) (Str.ofString "__repr__")) ?_
  simp only [callSpecialIfBoundBy?, bindSpecialIfBound?]
  apply wpAny_holding
  refine wpAny_bind (wpAny_bind (wpAny_bind (I.type.here ((PySem.W.looks_findIn X hs).here ?_))))
  refine wpAny_bind (wpAny_askSetting (wpAny_ite ?_))
  have bf := PySem.W.bind_fn (M := model prog w) X (.ref x) (beq_iff_eq.mp hf)
  have fin : wpAny (model prog w) A (call (.ref f) ([.ref x] ++ []) >>= fun v => pure (some v)) (fun r s' => wpAny (model prog w) A (match r with
      | some r => do if ← isInstance r (.type "str") then pure r else raiseError "TypeError" s!"__repr__ returned non-string (type {← typeNameOf r})"
      | none => unsupported "repr:special-get-raises") (fun v s' => ∃ z u, v = .str z u ∧ Q z s') E s') E s := by
    apply wpAny_bind
    refine wpAny_mono h ?_ (fun _ _ z => z)
    rintro v s' ⟨z, t, rfl, q⟩
    apply wpAny_pure
    refine wpAny_bind (wpAny_isInstance (T := "str") (b := true) rfl isSubtype_str_str ?_)
    first | exact wpAny_pure ⟨_, _, rfl, q⟩ | (rw [if_pos rfl]; exact wpAny_pure ⟨_, _, rfl, q⟩) | (simp only [if_true]; exact wpAny_pure ⟨_, _, rfl, q⟩)
  split
  · exact wpAny_bind (bf.here (wpAny_pure (by exact fin)))
  · exact wpAny_tryCatch (wpAny_bind (bf.here (wpAny_pure (by exact fin))))
end
section
variable {k : Nat} {A : Around}
theorem Room.loop (r : Room (k + 1) A) (args : Args) : Room k (A.under (.builtin "list.__repr__.loop" args)) := by
  refine ⟨by first | exact r.hd | simpa [Around.under] using r.hd, ?_, ?_⟩
  · have := r.dp
    have e : (A.under (.builtin "list.__repr__.loop" args)).depth ≤ A.depth + 1 := by
      first | exact Nat.le_refl _ | simp [Around.under, Code.weight, Code.isCreation, Code.isGuard, Code.isCaller, Code.frames, Code.isFrame, guardIds]
    omega
  · have := r.un
    rw [units_under_list_loop]
    omega
theorem Room.tup (r : Room (k + 1) A) (args : Args) : Room k (A.under (.builtin "tuple.__repr__" args)) := by
  refine ⟨by first | exact r.hd | simpa [Around.under] using r.hd, ?_, ?_⟩
  · have := r.dp
    have e : (A.under (.builtin "tuple.__repr__" args)).depth ≤ A.depth + 1 := by
      first | exact Nat.le_refl _ | simp [Around.under, Code.weight, Code.isCreation, Code.isGuard, Code.isCaller, Code.frames, Code.isFrame, guardIds]
    omega
  · have := r.un
    rw [units_under_tuple_repr]
    omega
theorem Env0.any {P : Program} {w : World} {K : PySem.W.Frag} {mg : Str → Option Value} {base : Heap} {A A' : Around} {outer : List Env} {s : Shared} {H : Hp} (e : Env0 P w K mg base A outer s H) (h : A'.frames = A.frames) : Env0 P w K mg base A' outer s H :=
  ⟨h.trans e.frames, e.mod, e.bs, e.bsz, e.funs, e.frf, e.hok, e.bare⟩
end
/-- a method's promise, whatever is running around -/
def HasR (P : Program) (w : World) (K : PySem.W.Frag) (mg : Str → Option Value) (base : Heap) (C : Addr) (m : Str) (ps : List Str) (k : Nat) (sp : Sp) : Prop := ∃ f fd, Meth K C m f ∧ Binds K fd ps [] ∧ FnOk P w K mg base CX0 k f fd ps sp
/-- the method at f may be called at an own thing -/
def CanRun (X : Cx) (A : Around) (f : Addr) (sp : Sp) : Prop := ∀ (a : Addr) (pins : List (Addr × Obj)) (σ : L2.St) (H : Hp) (s : Shared) (R : VK) (Ex : Value → Shared → Prop), Inv X pins σ H s → sp [.ref a] H R E0 → wpAny (model X.prog X.w) A (call (.ref f) [.ref a]) (EP X pins σ R) Ex s
/-- .. at all the places where repr calls it -/
structure Rpb (X : Cx) (C : Addr) (f : Addr) (sp : Sp) : Prop where
  me : Meth X.K C "__repr__" f
  un : X.A.units + 200 < cLine
  r0 : CanRun X X.A.in1 f sp
  rt : ∀ args, CanRun X (X.A.in1.under (.builtin "tuple.__repr__" args)) f sp
  rl : ∀ args, CanRun X (X.A.in1.under (.builtin "list.__repr__.loop" args)) f sp
theorem run_calm {X : Cx} {k : Nat} {f : Addr} {fd : FuncData} {ps : List Str} {sp : Sp} {A : Around} (F : FnOk X.prog X.w X.K X.mg X.base CX0 k f fd ps sp) (bi : Binds X.K fd ps []) (hr : Room k A) (hfr : A.frames = X.A.frames) : CanRun X A f sp := by
  intro a pins σ H s R Ex I hq
  have hl : [V.ref a].length = ps.length := F.len _ _ _ _ hq
  have bb := bi s [.ref a] I.kIn (by simpa using hl)
  refine wpAny_call (codeAny_mono (F.run A X.stack s H ⟨[.ref a], []⟩ [.ref a] [.ref a] _ E0 hr (Env0.any I.env0 hfr) (by simpa using bb) (.cons rfl .nil) hq) ?_)
  intro rs s' z
  cases rs with
  | error e => exact (show False from z).elim
  | ok fl => cases fl with
    | ret u => exact I.after z
    | _ => exact z.elim
theorem HasR.rpb {X : Cx} {C : Addr} {k : Nat} {ps : List Str} {sp : Sp} (h : HasR X.prog X.w X.K X.mg X.base C "__repr__" ps k sp) (hr : Room (k + 3) X.A) : ∃ f, Rpb X C f sp := by
  obtain ⟨f, fd, me, bi, F⟩ := h
  have hr1 : Room (k + 2) X.A.in1 := hr.in1
  refine ⟨f, me, by have := hr.un; omega, run_calm F bi (hr1.mono (by omega)) rfl, fun args => run_calm F bi ((Room.tup hr1 args).mono (by omega)) ?_, fun args => run_calm F bi ((Room.loop hr1 args).mono (by omega)) ?_⟩
  · first | rfl | simp [Around.under, Code.envs, Code.isFrame, pushEnvs]
  · first | rfl | simp [Around.under, Code.envs, Code.isFrame, pushEnvs]
def rReprL1 (C : Addr) (sp : Sp) : RC := fun xs H Q => ∃ q a dx fs, xs = [.ref q] ∧ H q = some (.lst [.ref a]) ∧ H a = some (.ins C dx fs) ∧ sp [.ref a] H (fun v H' => ∃ z, v = .str z ∧ z.length ≤ 100000 ∧ H' q = some (.lst [.ref a]) ∧ Q (.str (listText [z])) H') E0
section
variable {X : Cx} {k : Nat} {C f : Addr} {fd : FuncData} {ps : List Str} {sp : Sp} {pins : List (Addr × Obj)} {σ : L2.St} {H : Hp} {s : Shared} {A : Around} {R : Str → Hp → Prop}
/-- the item's __repr__ runs -/
theorem item_run {a dx : Addr} {fs : List (Str × V)} (me : Meth X.K C "__repr__" f) (cr : CanRun X A f sp) (hu : A.units < cLine) (I : Inv X pins σ H s) (ha : H a = some (.ins C dx fs))
    (hq : sp [.ref a] H (fun v H' => ∃ z, v = .str z ∧ R z H') E0) {b : Nat} (hb : b ≤ sizeLine) {Ex : Value → Shared → Prop} {G : Str → Shared → Prop}
    (k : ∀ z H' s', Inv X pins σ H' s' → R z H' → G z s') : wpAny (model X.prog X.w) A (pyReprUnder b (.ref a)) G Ex s := by
  obtain ⟨ox, od, J, _⟩ := insC_at I (.inr ⟨dx, fs, ha⟩)
  refine reprU_own hb hu I.kIn J me.at_ me.fn ?_
  refine wpAny_mono (cr a pins σ H s _ Ex I hq) ?_ (fun _ _ z => z)
  rintro u s' ⟨v, H', I3, rv, y, rfl, q3⟩
  obtain ⟨t, rfl⟩ := rv
  exact ⟨y, t, rfl, k y H' s' I3 q3⟩
theorem listText1_len (z : Str) : (listText [z]).length = z.length + 2 := by
  show ((("[" : Str) ++ "" ++ z) ++ "]").length = _
  rw [strLen_append, strLen_append, strLen_append]
  show 1 + 0 + z.length + 1 = _
  omega
theorem repr_l1 (h : Rpb X C f sp) (hgd : Gd X.A) : CallR X (.builtin "repr") (rReprL1 C sp) := by
  have hun := h.un
  intro pins s σ H xs us Q I r hh
  obtain ⟨q, a, dx, fs, rfl, hq, ha, hsp⟩ := hh
  cases r with
  | cons r0 rr =>
  cases rr
  obtain rfl : _ = Value.ref q := r0
  obtain ⟨_, its, n, rv, ho⟩ := I.hok _ _ hq
  obtain ⟨u, rfl⟩ : ∃ u, its = [u] := by
    cases rv with
    | cons h t => cases t; exact ⟨_, rfl⟩
  obtain rfl : u = Value.ref a := by
    cases rv with
    | cons h t => exact h
  have hg1 : X.A.in1.guards = some [] := hgd.in1 rfl
  refine call_repr_slot (by omega) ⟨_, ho, rfl⟩ F.slot_list_repr.toG ?_
  refine wpAny_call (codeAny_call_builtin F.slot_list_repr.plain F.entry_list_repr (F.slot_list_repr.check _ _ _ _ _ _ _ _ ⟨_, ho, rfl⟩ (F.args_list_repr_1 _) ?_))
  show wpAny _ _ (Builtin.listReprAt 0 ⟨[.ref q], []⟩) _ _ s
  refine wpAny_list_repr_head hg1 (fun v rest kw hm => nomatch hm) ho rfl ?_
  refine wpAny_bind (m := newList []) (wpAny_newObj_type ?_)
  refine wpAny_pure ⟨F.quiet_list_repr_loop _, ?_⟩
  have fresh : H s.heap.objs.size = none := I.hok.fresh (Nat.le_refl _)
  have kpt : ∀ b o, s.heap.get? b = some o → (s.heap.push ({ cls := .type "list", data := .seq [].toArray } : Obj)).get? b = some o := fun b o e => Heap.get?_push_of_some _ e
  have I0 : Inv X pins σ H { s with heap := s.heap.push ({ cls := .type "list", data := .seq [].toArray } : Obj), toks := s.toks } := I.kept kpt
  have I1 : Inv X ((s.heap.objs.size, ({ cls := .type "list", data := .seq [].toArray } : Obj)) :: pins) σ H { s with heap := s.heap.push ({ cls := .type "list", data := .seq [].toArray } : Obj), toks := s.toks } := by
    refine I0.pins_of ?_
    intro p hp
    rcases List.mem_cons.mp hp with rfl | hp
    · exact ⟨Heap.get?_push_size _ rfl, fresh, Nat.ne_of_gt I.lt, I.nofs (Nat.le_refl _), fun v z => nomatch z⟩
    · exact I0.pin p (List.mem_append_right _ hp)
  have qP : q ≠ s.heap.objs.size := Nat.ne_of_lt (Heap.lt_size ho)
  have cellP : ∀ y c, X.env.cells.lookup y = some c → c ≠ s.heap.objs.size := by
    intro y c ec z
    obtain ⟨v, o, ho', _⟩ := I.cell y c ec
    exact absurd (Heap.lt_size ho') (by rw [z]; exact Nat.lt_irrefl _)
  have pinP : ∀ p ∈ X.pn ++ pins, p.1 ≠ s.heap.objs.size := by
    intro p hp z
    have := (I.pin p hp).1
    exact absurd (Heap.lt_size this) (by rw [z]; exact Nat.lt_irrefl _)
  have szI := I.sz
  generalize s.heap.objs.size = P at *
  refine codeAny_builtin F.entry_list_repr_loop ?_
  show wpAny _ _ (Builtin.«list.__repr__.loop» ⟨[.ref q, .int 0 0, .ref P, .int 0 0], []⟩) _ _ _
  rw [repr_loop_tree]
  refine wpAny_bind (wpAny_listItems (kpt _ _ ho) rfl ?_)
  show wpAny _ _ (holding [Value.ref a] (pyReprUnder 1 (.ref a)) >>= _) _ _ _
  apply wpAny_bind
  apply wpAny_holding
  refine item_run (R := fun z H' => z.length ≤ 100000 ∧ H' q = some (.lst [.ref a]) ∧ Q (.str (listText [z])) H') h.me (h.rl _) (by rw [units_under_list_loop]; show X.A.units + 1 + 1 < cLine; omega) I1 ha hsp (by rw [sizeLine_eq]; omega) ?_
  rintro z H' s' I' ⟨hl, hq', q'⟩
  have hz : (listText [z]).length ≤ sizeLine := by
    rw [listText1_len, sizeLine_eq]
    omega
  refine wpAny_bind (wpAny_mkStr ?_ (by rw [sizeLine_eq]; omega))
  apply wpAny_bind
  obtain ⟨hpin, hf', hl', _, _⟩ := I'.pin (P, ({ cls := .type "list", data := .seq [].toArray } : Obj)) (List.mem_append.mpr (.inr List.mem_cons_self))
  have hpin : s'.heap.get? P = some ({ cls := .type "list", data := .seq [].toArray } : Obj) := hpin
  show wpAny _ _ (updateSeq P _) _ _ _
  refine wpAny_updateSeq hpin rfl (wpAny_pure ⟨F.quiet_list_repr_loop _, ?_⟩) (by decide)
  have Ib : Inv X pins σ H' s' := I'.pins_of fun p hp => I'.pin p (List.mem_append_right _ (List.mem_cons_of_mem _ hp))
  generalize hhU : s'.heap.update P (Obj.mapSeq fun x => x.push (Value.str z s'.toks)) = hU
  obtain ⟨c2, atP⟩ : ∃ c, hU.get? P = some ({ cls := .type "list", data := .seq #[Value.str z s'.toks] c } : Obj) := by
    rw [← hhU]
    exact ⟨_, Heap.get?_update_self (Obj.mapSeq fun x => x.push (Value.str z s'.toks)) hpin rfl⟩
  have oth : ∀ b o, b ≠ P → s'.heap.get? b = some o → hU.get? b = some o := by
    intro b o ne e
    rw [← hhU]
    exact (Heap.get?_update_other _ _ (fun h : P = b => ne h.symm)).trans e
  have I3 : Inv X pins σ H' { s' with heap := hU, toks := s'.toks + 1 } := by
    refine Ib.turned (it := P) (fun b o hb eb => oth b o hb eb) hf' hl' (.inr szI) ?_ ?_
    · intro y c ec z
      exact cellP y c ec z
    · intro p hp z
      exact pinP p hp z
  obtain ⟨_, its2, n2, rv2, ho2⟩ := Ib.hok _ _ hq'
  obtain ⟨u2, rfl⟩ : ∃ u, its2 = [u] := by
    cases rv2 with
    | cons h t => cases t; exact ⟨_, rfl⟩
  refine codeAny_builtin F.entry_list_repr_loop ?_
  show wpAny _ _ (Builtin.«list.__repr__.loop» ⟨[.ref q, .int 1 0, .ref P, .int _ 0], []⟩) _ _ _
  rw [repr_loop_tree]
  refine wpAny_bind (wpAny_listItems (oth _ _ qP ho2) rfl ?_)
  show wpAny _ _ (reprEnd (.ref P)) _ _ _
  unfold reprEnd
  refine wpAny_bind (wpAny_listItems atP rfl ?_)
  show wpAny _ _ (forIn ((strValues [(z, s'.toks)]).zipIdx 0) ("[" : Str) reprBody >>= _) _ _ _
  rw [repr_fold]
  refine wpAny_bind (wpAny_pure ?_)
  refine wpAny_bind (wpAny_mkStr (wpAny_pure ?_) hz)
  exact ⟨_, _, rfl, .str _, H', I3.tok _, ⟨_, rfl⟩, q'⟩
end
end G


namespace G
open PySem PySem.Spec PyProof.Rows L2 StX ClX LamX TL
section
variable {P : Program} {w : World} {K : PySem.W.Frag} {mg : Str → Option Value} {base : Heap}
theorem hasR_mk {C : Addr} {m q : Str} {st : Stmt} {N ps : List Str} {k : Nat} {sp : Sp} (D : AtM K C m q st) (S : FnScope N ps (defScope st)) (len : ∀ vs H Q E, sp vs H Q E → vs.length = ps.length)
    (hbi : ∀ (kV doc pm : Value) (an : Option Addr) (cdv ct : Value) (us : List Value), us.length = ps.length → bindArgs (PySem.W.fnOf m q (defArgs st) (defBody st) (defScope st) .none kV doc pm an cdv ct) ⟨us, []⟩ = pure (ps.zip us))
    (hb : ∀ (f : Addr) (cdv : Value) (A : Around) (outer : List Env) (s : Shared) (H : Hp) (vs : List V) (Q : VK) (E : XK), Room k (A.deeper (envOfC q (defScope st) s.heap.objs.size f cdv)) →
      sp vs H Q E → ∃ t, PSs (cxOf CX0 P w K mg base N q (defScope st) f cdv A outer s H E).nox (defBody st) t ∧ t { nx := fun _ H' => Q .non H', rt := Q } (start N vs) H) :
    HasR P w K mg base C m ps (k + 1) sp := by
  obtain ⟨f, fd, F, hm⟩ := D
  have bi := F.binds hbi
  obtain ⟨oc, od, kV, doc, pm, an, cdv, ct, osl, rfl, lk, hcd⟩ := F.ex
  refine ⟨f, _, hm, bi, fn_of lk hcd S len fun A outer s H vs Q E hr hsp => ?_⟩
  obtain ⟨t, h, q⟩ := hb f cdv A outer s H vs Q E hr hsp
  exact ⟨t, h.nox, q⟩
end
section
open L2H
variable {P : Program} {w : World} {K : PySem.W.Frag} {mg : Str → Option Value} {base : Heap}
end
end G


namespace G
open PySem PySem.Spec PyProof.Rows L2 StX ClX LamX TL
section
variable {X : Cx} (K : PySem.W.Frag) (h : X.K = K := by rfl)
include h
end
def rNeP (K : PySem.W.Frag) : R2 := fun x y H Q => ∃ d e, Dp K H x d ∧ Dp K H y e ∧ d.plain = true ∧ e.plain = true ∧ d.depth ≤ 60 ∧ Q (.bl (!PyData.eqv d e)) H
theorem nePK {X : Cx} (K : PySem.W.Frag) (h : X.K = K := by rfl) (hu : X.A.units + 64 < cLine) : OpR X (compareOp .NotEq) (rNeP K) := by
  subst h
  intro pins s σ H x y v u Q I rx ry h
  obtain ⟨d, e, hd, he, sd, se, dd, q⟩ := h
  obtain ⟨as, r1⟩ := Dp.reads I d x v hd rx
  obtain ⟨bs, r2⟩ := Dp.reads I e y u he ry
  exact PySem.SeqAt.ne_plain r1 r2 sd se (by omega) ⟨.bl _, H, I, rfl, q⟩
end G


namespace G
open PySem PySem.Spec PyProof.Rows L2 StX ClX LamX TL
section
variable {σ : L2.St} {H : Hp} {Q : VK} {E : XK} {sp : Sp} {tr t : TA} {ta : TE} {C : Addr} {m : Str}
end
end G


namespace G
open PySem PySem.Spec PyProof.Rows L2 StX ClX LamX TL
end G


namespace G
open PySem PySem.Spec PyProof.Rows L2 StX ClX LamX TL
/-- a list of what was told -/
def TL (H : Hp) (L : Addr) (ps : List (Str × Str)) : Prop := ∃ ls : List Addr, H L = some (.lst (ls.map V.ref)) ∧ Paired (fun l (p : Str × Str) => l ≠ L ∧ H l = some (.lst [.str p.1, .str p.2])) ls ps
abbrev lq (x : Str) : Str := x ++ ".<locals>." ++ "<lambda>"
end G


namespace G
open PySem PySem.Spec PyProof.Rows L2 StX ClX LamX TL
end G


namespace G
open PySem PySem.Spec PyProof.Rows L2 StX ClX LamX TL NdefX
/-- the def as it stands in the written part -/
structure SupF (K : PySem.W.Frag) (x q : Str) (st : Stmt) (f : Addr) (fd : FuncData) (D cda cc : Addr) : Prop where
  ex : ∃ (oc kV doc pm ct : Value) (od an : Option Addr) (osl : Array (Option Value)), fd = PySem.W.ksFn x q (defArgs st) (defBody st) (defScope st) .none kV doc pm an (.ref cda) ct cc ∧ K.lookup f = some ⟨oc, od, .func fd, osl⟩ ∧ PySem.W.codeIn K (.ref cda) q = true
  kp : PySem.W.keepIn K (.ref f) = true
  cell : ∃ (cl : Value) (cld : Option Addr) (csl : Array (Option Value)), K.lookup cc = some ⟨cl, cld, .cell (some (.ref D)), csl⟩
abbrev supNF (x q : Str) (st : Stmt) (cda cc : Addr) : NF := ⟨x, q, defArgs st, defBody st, defScope st, [("__class__", cc)], cda⟩
/-- the rest l of the body, run where the frame's own code is known -/
structure PSsA (X : Cx) (body l : List Stmt) (t : TS) : Prop where
  run : ∀ (pins : List (Addr × Obj)) (s : Shared) (σ : L2.St) (H : Hp) (D : Ends), Inv X pins σ H s → t D σ H → PySem.wpAt (model X.prog X.w) X.A (.func body X.env) (execs l X.env) (SP X pins D) X.xe s
structure PSA (X : Cx) (body : List Stmt) (st : Stmt) (t : TS) : Prop where
  run : ∀ (pins : List (Addr × Obj)) (s : Shared) (σ : L2.St) (H : Hp) (D : Ends), Inv X pins σ H s → t D σ H → PySem.wpAt (model X.prog X.w) X.A (.func body X.env) (exec st X.env) (SP X pins D) X.xe s
section
variable {X : Cx} {body rest : List Stmt} {st : Stmt} {t u : TS}
theorem psa_of (h : PS X st t) : PSA X body st t := ⟨fun pins s σ H D I q => wpAt_of_wpAny (h.run pins s σ H D I q)⟩
theorem pssA_cons (h1 : PSA X body st t) (h2 : PSsA X body rest u) : PSsA X body (st :: rest) (tSeq t u) := by
  refine ⟨fun pins s σ H D I h => ks_wpAt_execs_cons (ks_wpAt_mono (h1.run pins s σ H { D with nx := u D } I h) (fun f s1 q => ?_) fun _ _ z => z)⟩
  cases f with
  | next =>
    obtain ⟨σ', H', I', q⟩ := q
    exact h2.run pins s1 σ' H' D I' q
  | ret v => exact q
  | brk => exact q
  | cont => exact q
theorem pssA_one (h1 : PSA X body st t) : PSsA X body [st] t := by
  refine ⟨fun pins s σ H D I h => ks_wpAt_execs_cons (ks_wpAt_mono (h1.run pins s σ H D I h) (fun f s1 q => ?_) fun _ _ z => z)⟩
  cases f with
  | next => exact wpAt_of_wpAny (wpAny_execs_nil q)
  | ret v => exact q
  | brk => exact q
  | cont => exact q
end
section
variable {P : Program} {w : World} {K : PySem.W.Frag} {mg : Str → Option Value} {base : Heap} {CX : CXT}
theorem fg_sup {x q : Str} {st : Stmt} {f D cda cc : Addr} {fd : FuncData} {N ps : List Str} {k : Nat} {sp : Sp} (F : SupF K x q st f fd D cda cc) (S : NScope N ps ["__class__"] (defScope st)) (len : ∀ vs H Q E, sp vs H Q E → vs.length = ps.length)
    (hb : ∀ (A : Around) (outer : List Env) (s : Shared) (H : Hp) (vs : List V) (Q : VK) (E : XK), Room k (A.deeper (envF (supNF x q st cda cc) f s.heap.objs.size)) → Gd (A.deeper (envF (supNF x q st cda cc) f s.heap.objs.size)) →
      sp vs H Q E → ∃ t, PSsA (ncx CX P w K mg base N (supNF x q st cda cc) f A outer s H E) (defBody st) (defBody st) t ∧ t { nx := fun _ H' => Q .non H', rt := Q } (startF N vs [some (.ref D)]) H) :
    Fg P w K mg base CX (k + 1) f fd ps sp := by
  obtain ⟨oc, kV, doc, pm, ct, od, an, osl, rfl, lk, hcd⟩ := F.ex
  constructor
  · exact len
  intro A outer s H args us vs Q E hr hgd e0 hbi r hsp
  have hl := len _ _ _ _ hsp
  have keepB : ∀ b o, base.get? b = some o → s.heap.get? b = some o := fun b o e => (e0.bs b o e).1
  have KX := e0.mod.kin.keeps keepB
  have lim : s.heap.NoLimit := e0.mod.nolimit.keeps keepB
  apply codeAny_call_function hr.depth (KX _ _ lk) rfl S.co S.gen rfl (PySem.W.codeRec_of KX hcd)
  apply hbi
  refine wpAny_newFunctionEnv S.nocell (fun ⟨n, _⟩ hy => S.par n (List.of_mem_zip hy).1) (fun h₁ hns hsb => ⟨lim.fresh _ hsb, ?_⟩) S.kind
  show codeAny _ _ (.func (defBody st) (envF (supNF x q st cda cc) f s.heap.objs.size)) _ _
  refine ks_codeAny_funcAt ?_
  have kp : ∀ b o, s.heap.get? b = some o → h₁.get? b = some o := fun b o e => hsb.extBut b o (Nat.ne_of_lt (Heap.lt_size e)) (Heap.get?_push_of_some _ e)
  obtain ⟨t, ht, hq⟩ := hb A outer s H vs Q E (hr.deeper _) hgd.deeper hsp
  obtain ⟨cl, cld, csl, hc⟩ := F.cell
  have cat : CellsAt (supNF x q st cda cc).cl ["__class__"] [some (.ref D)] s.heap H := by
    have hlk : ∀ {y : Str} {c : Addr}, ([(("__class__" : Str), cc)] : List (Str × Addr)).lookup y = some c → y = "__class__" ∧ c = cc := by
      intro y c e
      by_cases hy : y = "__class__"
      · rw [hy] at e
        simp [List.lookup] at e
        exact ⟨hy, e.symm⟩
      · have : (y == ("__class__" : Str)) = false := by simpa using hy
        simp [List.lookup, this] at e
    refine ⟨rfl, fun y c e => ?_, fun y z c e1 e2 => (hlk e1).1.trans (hlk e2).1.symm, fun i y hi => ?_⟩
    · obtain ⟨_, rfl⟩ := hlk e
      exact ⟨(e0.bs _ _ (e0.mod.kin _ _ hc)).2, _, _, KX _ _ hc, rfl⟩
    · match i, hi with
      | 0, hi =>
        cases hi
        refine ⟨cc, by simp [List.lookup], fun v hv => ?_⟩
        cases hv
        exact ⟨.ref D, rfl, _, KX _ _ hc, rfl⟩
  have I := inv_startN (CX := CX) (P := P) (w := w) (N := N) (F := supNF x q st cda cc) (f := f) (E := E) (tk := s.toks + (ps.zip us).length) S hr.hd e0 hl r cat hns kp
  refine ks_wpAt_mono (ht.run [] _ (startF N vs [some (.ref D)]) H _ I hq) (fun fl s' hs => ?_) fun e s' hs => hs
  have fin : ∀ {σ' : L2.St} {H' : Hp} {v : V} {u : Value}, Inv (ncx CX P w K mg base N (supNF x q st cda cc) f A outer s H E) [] σ' H' s' → L2.RelV v u → Q v H' → CE outer P w H s Q u s' :=
    fun {σ' H' v u} J rv q => ⟨v, H', J.os, J.bare, J.base, J.hok, rv, q⟩
  cases fl with
  | ret u =>
    obtain ⟨v, σ', H', J, rv, q⟩ := hs
    exact fin J rv q
  | next =>
    obtain ⟨σ', H', J, q⟩ := hs
    exact fin (v := V.non) (u := Value.none) J rfl q
  | brk =>
    obtain ⟨_, _, _, q⟩ := hs
    exact False.elim q
  | cont =>
    obtain ⟨_, _, _, q⟩ := hs
    exact False.elim q
end

/-- what the program's file says of super, of itself -/
structure SupP (P : Program) (file : Str) : Prop where
  nm : ((P.main.file : Str) == file) = true
  top : (P.main.scope.names.lookup ("super" : Str)).isSome = false
/-- the code object of the def tells its file -/
def CodeF (K : PySem.W.Frag) (cda : Addr) (file : Str) : Prop := ∃ (cl : Value) (cd : Option Addr) (vs : Array Value) (cs : Array (Option Value)) (tf : Tok), K.lookup cda = some ⟨cl, cd, .fields vs, cs⟩ ∧ vs[2]? = some (.str file tf)
/-- the class C, under D: its next m is at f2 -/
structure SupC (K : PySem.W.Frag) (D C : Addr) (m : Str) (f2 : Addr) : Prop where
  sub : PySem.W.mroIn K C (.ref D) = some true
  nxt : PySem.W.ks_superIn K C D m = some (some (.ref f2))
def tSup (K : PySem.W.Frag) (D : Addr) (m : Str) (f2 : Addr) (i : Nat) (sp : Sp) (E : XK) (ta : TA) : TS := fun Dn σ H => ∃ x C dx fs, σ[i]? = some (some (.ref x)) ∧ H x = some (.ins C dx fs) ∧ SupC K D C m f2 ∧
  ta σ H fun vs H2 => sp (.ref x :: vs) H2 (fun _ H3 => Dn.nx σ H3) E
section
open PySem.W
theorem ps_sup {X : Cx} {CX : CXT} {body : List Stmt} {k i : Nat} {f f2 D cda cc : Addr} {q file m : Str} {st : Stmt} {fd fd2 : FuncData} {ps : List Str} {sp : Sp} {E : XK} {ta : TA} {e : Expr} {es : List Expr} {p0 p1 apos pos pos' : Pos} {a : Arg} {x : Str} {cdD : ClassData} {pl : Sem Bool}
    (SF : SupF X.K x q st f fd D cda cc) (hP : SupP X.prog file) (hC : CodeF X.K cda file) (hD : clsIn X.K D = some cdD) (hsu : X.mg "super" = none) (hop : nsIn X.K cStatics "thirdparty.any" = some none)
    (hks : X.env.kindOf "super" = some .globalImplicit) (hkc : X.env.kindOf "__class__" = some .free) (hfu : X.env.func = some f) (hco : X.env.code = .ref cda) (hcl : X.env.cells.lookup ("__class__" : Str) = some cc)
    (har : ((defArgs st).posonlyargs ++ (defArgs st).args).head? = some a) (hN : X.N[i]? = some a.arg) (hka : X.env.kindOf a.arg = some .local)
    (F2 : Fg X.prog X.w X.K X.mg X.base CX k f2 fd2 ps sp) (hb2 : Binds X.K fd2 ps []) (hf2 : fnIn X.K f2 = true) (ht2 : typeIn X.K (.ref f2) = some (.type "function")) (hr : Room k X.A) (hgd : Gd X.A) (hx : Passes CX X E) (ha : PA X (e :: es) ta)
    (hmn : (m == ("__class__" : Str)) = false)
    (hst : starEach (e :: es) X.env = (false, eval e X.env) :: starEach es X.env) (hpl : (backTo pos (starEach es X.env)).any (·.1) = false)
    (he : eval (.Call (.Attribute (.Call (.Name "super" p0) [] [] p1) m apos) (e :: es) [] pos) X.env = (do
      let ov ← attributeBase (.Call (.Name "super" p0) [] [] p1) m X.env (eval (.Call (.Name "super" p0) [] [] p1) X.env)
      standAt apos.atName
      let (f, first) ← holding [ov] (getMethod ov m pl)
      callWith pos f first (backTo pos (starEach (e :: es) X.env)) []))
    (hi : interactive X.env = false) (hsw : swapsWith (.Call (.Attribute (.Call (.Name "super" p0) [] [] p1) m apos) (e :: es) [] pos) none pos'.line X.env = pure false) :
    PSA X body (.Expr (.Call (.Attribute (.Call (.Name "super" p0) [] [] p1) m apos) (e :: es) [] pos) pos') (tSup X.K D m f2 i sp E ta) := by
  refine ⟨fun pins s σ H Dn I h => ?_⟩
  obtain ⟨o, C, dx, fs, hs, ho, sc, ht⟩ := h
  obtain ⟨oc, kV, doc, pm, ct, od, an, osl, hfd, lk, hcd⟩ := SF.ex
  obtain ⟨cl, cld, csl, hcell⟩ := SF.cell
  obtain ⟨ccl, cdd, vs, ccs, tf, hcode, hvs⟩ := hC
  have XK := I.kIn
  obtain ⟨oD, hD1, hD2⟩ : ∃ oD, s.heap.get? D = some oD ∧ oD.data = .cls cdD := by
    unfold clsIn at hD
    split at hD
    · rename_i c d cd' sl ho
      cases hD
      exact ⟨_, XK _ _ ho, rfl⟩
    · cases hD
  obtain ⟨ox, odx, J, _⟩ := insC_at I (.inr ⟨dx, fs, ho⟩)
  obtain ⟨ml, hml, hlook⟩ := I.loc
  obtain ⟨uself, rself, look⟩ := hlook i a.arg (.ref o) hN hs (.inl hka)
  obtain rfl : uself = Value.ref o := rself
  have hself : ml a.arg = some (.ref o) := by
    rcases look with ⟨_, h⟩ | ⟨h, _⟩
    · exact h
    · rw [hka] at h
      rcases h with h | h <;> cases h
  obtain ⟨of2, hof2, hofc2⟩ : ∃ of2, X.K.lookup f2 = some of2 ∧ of2.cls = .type "function" := by
    have ht' : (X.K.lookup f2).map (·.cls) = some (.type "function") := ht2
    cases z : X.K.lookup f2 with
    | none => rw [z] at ht'; cases ht'
    | some of => rw [z] at ht'; exact ⟨of, rfl, Option.some.inj ht'⟩
  have hsx := sc.nxt
  cases hcC : clsIn X.K C with
  | none => unfold ks_superIn at hsx; rw [hcC] at hsx; cases hsx
  | some cdC =>
  unfold ks_superIn at hsx
  rw [hcC] at hsx
  have M := I.mod
  obtain ⟨mb, hmb, hbb⟩ := M.blt
  have nsG : s.heap.Ns X.env.globals X.mg := by rw [I.ok.glob]; exact M.glob.keeps I.bk
  have nsB : s.heap.Ns X.env.builtins mb := by rw [I.ok.blt]; exact hmb.keeps I.bk
  have hboot : mb "super" = some (.type "super") := (hbb "super" (by decide +kernel)).trans (by first | rfl | decide +kernel)
  refine ks_wpAt_Expr_any (ks_wpAt_MethodCall (pl := pl) (ks_wpAt_super_base hks hkc hmn hfu (XK _ _ lk) (by rw [hfd]) har hco (XK _ _ hcode) rfl hvs hP.nm hP.top ?_) he) hi hsw
  refine ks_loadName_global I.ok.kind hks (Calls.loadGlobal_builtin nsG hsu nsB hboot ⟨rfl, ?_⟩)
  refine wpAny_loadName_free I.ok.kind hkc hcl ⟨_, XK _ _ hcell, rfl⟩ ?_
  refine wpAny_loadName_local I.ok.kind hka hml hself ?_
  refine ks_wpAny_isType_cls hD1 hD2 ⟨rfl, ?_⟩
  obtain ⟨hh, g, d, t, os⟩ := s
  refine ks_wpAny_call_super hD1 hD2 J.at_ J.cls (fun c e => ?_) (looks_mroIn XK sc.sub) (fun h' e' k' => ?_)
  · have := J.no
    unfold notCls at this
    rw [e] at this
    exact Bool.noConfusion this
  have I1 := pin_new (t' := t) I k' (Nat.le_refl _) e' (fun v z => nomatch z)
  have hC' : Looks (model X.prog X.w) h' (mroOf (.ref C)) cdC.mro := fun A Q E s k q => wpAny_bind ((looks_clsIn (XK.keeps k') hcC) A _ E s k (wpAny_pure q))
  refine ks_wpAny_getMethod_super e' (looks_opaque (XK.keeps k') hop) hC' rfl (XK.keeps k') hsx (k' _ _ (XK _ _ hof2)) hofc2 (ks_ne XK J hcC) hmn ?_
  have I2 := pin_new (t' := t + 1) (o := methodObj (.ref f2) (.ref o)) I1 (fun b u z => Heap.get?_push_of_some _ z) (Nat.le_refl _) (Heap.get?_push_at rfl rfl) (fun v z => nomatch z)
  have hq := pin_at I2
  have hL := (I2.pin _ (List.mem_append_right _ List.mem_cons_self)).2.2.1
  have hbn := base_none I1 (Nat.le_refl _)
  refine callWith_M (K := X.K) (h₀ := X.base) (first := []) I2.ok.mod.kin (news_at hL hbn hq) List.mem_cons_self hf2 ?_ hst hpl
  refine thn (ha.run pos _ _ σ H _ I2 ht) ?_
  rintro us s3 ⟨vs3, H3, I3, rv, q3⟩
  refine ⟨⟨pin_at I3, I3.kIn⟩, ?_⟩
  have hl : (.ref o :: us).length = ps.length := by
    have := F2.len _ _ _ _ q3
    have r2 := rv.length
    simp only [List.length_cons] at this ⊢
    omega
  have run : codeAny (model X.prog X.w) X.A (.call (.ref f2) ⟨.ref o :: us, []⟩) (CR CX X.stack X.prog X.w H3 s3 (fun _ H3 => Dn.nx σ H3) E) s3 :=
    F2.go X.A X.stack s3 H3 ⟨.ref o :: us, []⟩ (.ref o :: us) (.ref o :: vs3) _ E hr hgd I3.env0 (by simpa using hb2 s3 (.ref o :: us) I3.kIn (by simpa using hl)) (.cons rfl rv) q3
  refine wpAny_call (method_call (pin_at I3) (codeAny_mono run ?_))
  intro r s' z
  cases r with
  | error e => exact hx _ σ H3 s3 e s' I3 z
  | ok fl => cases fl with
    | ret u =>
      obtain ⟨v, H4, I4, _, q4⟩ := unpinE (unpinE (I3.after z))
      exact ⟨σ, H4, I4, q4⟩
    | _ => exact z.elim
end
end G


namespace G
open PySem PySem.Spec PyProof.Rows L2
section
variable {P : Program} {w : World} {A : Around} {E : Value → Shared → Prop} {s : Shared} {a : Addr} {S : Str → Bool} {n : Nat}
end
section
variable {P : Program} {w : World} {A : Around} {E : Value → Shared → Prop} {s : Shared}
end
section
variable {X : Cx}
end
end G


namespace G
open PySem PySem.Spec PyProof.Rows L2
section
variable {X : Cx}
end
end G


namespace G
open PySem PySem.Spec PyProof.Rows L2 StX ClX LamX TL NdefX
section
variable {P : Program} {w : World} {K : PySem.W.Frag} {mg : Str → Option Value} {base : Heap} {CX : CXT}
end
end G


namespace G
open PySem PySem.Spec PyProof.Rows L2 StX ClX LamX TL NdefX
def tMakeP (C : Addr) (spk : List V → List (Str × V) → Hp → VK → XK → Prop) (t : TA) : TE := fun σ H Q => t σ H fun vs H1 => ∀ x dx, H1 x = none → H1 dx = none → dx ≠ x →
  spk (.ref x :: vs) [] (upd (upd H1 dx (.own x)) x (.ins C dx [])) (fun v H2 => v = .non ∧ Q (.ref x) H2) E0
def tMakeQ (C : Addr) (ks : List Str) (spk : List V → List (Str × V) → Hp → VK → XK → Prop) (t : TA) : TE := fun σ H Q => t σ H fun zs H1 => zs.length = ks.length ∧ ∀ x dx, H1 x = none → H1 dx = none → dx ≠ x →
  spk [.ref x] (ks.zip zs) (upd (upd H1 dx (.own x)) x (.ins C dx [])) (fun v H2 => v = .non ∧ Q (.ref x) H2) E0
theorem kv_zip : ∀ {ks : List Str} {zs : List V} {ws : List Value}, Vals zs ws → KV (ks.zip zs) (ks.zip ws)
  | [], _, _, _ => by
    rw [List.zip_nil_left, List.zip_nil_left]
    exact .nil
  | _ :: _, [], [], .nil => .nil
  | k :: ks, z :: zs, w :: ws, .cons h t => .cons ⟨rfl, h⟩ (kv_zip t)
section
variable {X : Cx} {k : Nat} {C : Addr} {x : Str} {p pos : Pos} {e : Expr} {es : List Expr} {kws : List Keyword} {t tk : TA} {ks : List Str} {spk : List V → List (Str × V) → Hp → VK → XK → Prop}
theorem peMkP (h : HasK X.prog X.w X.K X.mg X.base C x k spk) (hr : Room (k + 1) X.A) (hgd : Gd X.A) (hg : Gl X x) (ha : PA X (e :: es) t) (hdb : (x == ("__debug__" : Str)) = false := by decide)
    (he : starEach (e :: es) X.env = (false, eval e X.env) :: starEach es X.env := by rfl) (hpl : (backTo pos (starEach es X.env)).any (·.1) = false := by rfl) : PE X (.Call (.Name x p) (e :: es) [] pos) (tMakeP C spk t) := by
  obtain ⟨f, M, hm, F⟩ := h
  refine ⟨fun pins s σ H Q I hq => ?_⟩
  refine wpAny_Call_Name_kw (ld_glob I hg hm ?_ hdb)
  refine PySem.W.callWith_K (h₀ := X.base) I.ok.mod.kin M.kp (thn (ha.run pos pins s σ H _ I hq) fun us s1 ⟨vs, H1, I1, r, q⟩ => ⟨I1.kIn, ?_⟩) he hpl
  exact run_makeG M F hr hgd pass0 I1 r .nil q
theorem peMkQ (h : HasK X.prog X.w X.K X.mg X.base C x k spk) (hr : Room (k + 1) X.A) (hgd : Gd X.A) (hg : Gl X x) (hkw : PK X kws tk) (hall : (backToKw pos (keywordEach kws X.env)).all (·.1.isSome) = true := by rfl)
    (hks : (backToKw pos (keywordEach kws X.env)).filterMap (·.1) = ks := by rfl) (hdb : (x == ("__debug__" : Str)) = false := by decide)
    (hpl : ((backTo pos (starEach [] X.env)).any (·.1) || (backToKw pos (keywordEach kws X.env)).any (·.1.isNone)) = false := by rfl) : PE X (.Call (.Name x p) [] kws pos) (tMakeQ C ks spk tk) := by
  obtain ⟨f, M, hm, F⟩ := h
  refine ⟨fun pins s σ H Q I hq => ?_⟩
  refine wpAny_Call_Name_kw (ld_glob I hg hm ?_ hdb)
  refine PySem.W.callWith_KW0 (h₀ := X.base) I.ok.mod.kin M.kp hall (thn (hkw.run pos pins s σ H _ I hq) fun ws s1 ⟨zs, H1, I1, r, l, q⟩ => ⟨I1.kIn, ?_⟩) hpl
  rw [hks]
  exact run_makeG M F hr hgd pass0 I1 .nil (kv_zip r) q
end
def HasDB (gb : Bool) (P : Program) (w : World) (K : PySem.W.Frag) (mg : Str → Option Value) (base : Heap) (CK : Nat → Addr) (n : Nat) (m : Str) (ps : List Str) (k : Nat) (sp : Nat → Sp) : Prop := ∀ i, i < n → ∃ f fd, HasMB0 gb P w K mg base (CK i) m ps k (sp i) f fd
abbrev HasD := HasDB true
structure FmtC (K : PySem.W.Frag) (C : Addr) : Prop where
  cls : Cls K C
  sf : PySem.W.selfFirst K C = true
  fm : PySem.W.findIn K (.ref C) "__format__" = some (some (.builtin "object.__format__"))
  mr : PySem.W.mroIn K C (.type "object") = some true
def InsD (CK : Nat → Addr) (n : Nat) (H : Hp) (a : Addr) (i : Nat) : Prop := i < n ∧ ∃ dx fs, H a = some (.ins (CK i) dx fs)
def rStrD (CK : Nat → Addr) (n : Nat) (sp : Nat → Sp) : List V → Hp → VK → Prop := fun xs H Q => ∃ a i, xs = [.ref a] ∧ InsD CK n H a i ∧ sp i [.ref a] H (fun v H' => (∃ z, v = .str z) ∧ Q v H') E0
def tFmtD (CK : Nat → Addr) (n : Nat) (sp : Nat → Sp) (te : TE) : TE := fun σ H Q => te σ H fun x H1 => ∃ a i, x = .ref a ∧ InsD CK n H1 a i ∧ sp i [.ref a] H1 (fun v H' => (∃ z, v = .str z) ∧ Q v H') E0
section
variable {X : Cx} {k n : Nat} {CK : Nat → Addr} {m : Str} {ps ks : List Str} {sp : Nat → Sp} {o e fe : Expr} {es : List Expr} {kws : List Keyword} {ta te tf : TE} {t tk : TA} {apos pos : Pos}
theorem strD (h : HasD X.prog X.w X.K X.mg X.base CK n "__str__" ps k sp) (hr : Room (k + 2) X.A) (hgd : Gd X.A) : CallR X (.type "str") (rStrD CK n sp) := by
  intro pins s σ H xs us Q I r hq
  obtain ⟨a, i, rfl, ⟨hi, dx, fs, ha⟩, hq⟩ := hq
  obtain ⟨f, fd, hm⟩ := h i hi
  cases r with
  | cons r0 rr =>
    cases rr
    obtain rfl : _ = Value.ref a := r0
    obtain ⟨ox, od, J, _⟩ := insC_at I (.inr ⟨dx, fs, ha⟩)
    have hr1 : Room (k + 1) X.A.in1 := hr.in1
    have hr2 : Room k X.A.in1.in1 := hr1.in1
    refine PySem.W.kso_call hr2.units0 I.kIn J hm.me.at_ hm.me.fn ?_
    have hl : [V.ref a].length = ps.length := hm.ok.len _ _ _ _ hq
    have bb := hm.bi s [.ref a] I.kIn (by simpa using hl)
    refine wpAny_call (codeAny_mono (hm.ok.go X.A.in1.in1 X.stack s H ⟨[.ref a], []⟩ [.ref a] [.ref a] _ E0 hr2 hgd.in1.in1 I.env0.in1.in1 (by simpa using bb) (.cons rfl .nil) hq) ?_)
    intro rs s' hq'
    cases rs with
    | error e => exact pass0 pins σ H s e s' I hq'
    | ok fl => cases fl with
      | ret u =>
        obtain ⟨v, H', I3, rv, ⟨z, hz⟩, q3⟩ := I.after hq'
        subst hz
        obtain ⟨t, rfl⟩ := rv
        exact ⟨.str z, H', I3, ⟨t, rfl⟩, q3⟩
      | next => exact hq'.elim
      | brk => exact hq'.elim
      | cont => exact hq'.elim
/-- {o} in an f-string -/
theorem fmtD (h : HasD X.prog X.w X.K X.mg X.base CK n "__str__" ps k sp) (c : ∀ i, i < n → FmtC X.K (CK i)) (hr : Room (k + 1) X.A) (hgd : Gd X.A) (he : PE X e te) : PE X (.FormattedValue e (-1) none pos) (tFmtD CK n sp te) := by
  refine ⟨fun pins s σ H Q I hq => ?_⟩
  refine wpAny_FormattedValue_plain (thn (he.run pins s σ H _ I hq) fun v s1 hv => ?_)
  obtain ⟨x, H1, I1, r1, a, i, rfl, ⟨hi, dx, fs, ha⟩, hq⟩ := hv
  obtain rfl : v = Value.ref a := r1
  obtain ⟨f, fd, hm⟩ := h i hi
  have I2 := I1.tok (s1.toks + 1)
  obtain ⟨ox, od, J, _⟩ := insC_at I1 (.inr ⟨dx, fs, ha⟩)
  have hr1 : Room k X.A.in1 := hr.in1
  refine PySem.W.kfo_fieldS hr1.units0 I1.kIn J (c i hi).fm (c i hi).mr hm.me.at_ hm.me.fn ?_
  have hl : [V.ref a].length = ps.length := hm.ok.len _ _ _ _ hq
  have bb := hm.bi { s1 with toks := s1.toks + 1 } [.ref a] I2.kIn (by simpa using hl)
  refine wpAny_call (codeAny_mono (hm.ok.go X.A.in1 X.stack _ H1 ⟨[.ref a], []⟩ [.ref a] [.ref a] _ E0 hr1 hgd.in1 I2.env0.in1 (by simpa using bb) (.cons rfl .nil) hq) ?_)
  intro rs s' hq'
  cases rs with
  | error e => exact pass0 pins σ H1 _ e s' I2 hq'
  | ok fl => cases fl with
    | ret u =>
      obtain ⟨v, H', I3, rv, ⟨z, hz⟩, q3⟩ := I2.after hq'
      subst hz
      obtain ⟨t, rfl⟩ := rv
      exact ⟨.str z, H', I3, ⟨t, rfl⟩, q3⟩
    | next => exact hq'.elim
    | brk => exact hq'.elim
    | cont => exact hq'.elim
end
end G


namespace G
open PySem PySem.Spec PyProof.Rows L2 StX ClX TL
def opT : Nat → Str
  | 0 => " < "
  | 1 => " <= "
  | _ => " = "
/-- all but lists stays as it stood -/
theorem Nl.of_same {H H' : Hp} (s : Same H H') : Nl H H' := fun a o _ e => s a o e
end G


namespace G
open PySem PySem.Spec PyProof.Rows L2 StX ClX TL NdefX
section
variable {K : PySem.W.Frag} {mg : Str → Option Value} {CO : Addr} {CK : Nat → Addr} {H : Hp} {Q : VK} {a dx : Addr} {fs : List (Str × V)} {i : Nat}
end
structure SupW (P : Program) (K : PySem.W.Frag) (mg : Str → Option Value) (file : Str) : Prop where
  p : SupP P file
  su : mg "super" = none
  op : PySem.W.nsIn K PySem.cStatics "thirdparty.any" = some none
section
variable {P : Program} {w : World} {K : PySem.W.Frag} {mg : Str → Option Value} {base : Heap} {file : Str} {CO C : Addr} {x q : Str} {st s0 : Stmt} {N ps ps0 ks : List Str} {k k0 : Nat} {sp sp0 : Sp} {p1 pv : Str}
theorem SupF.binds {f cda cc : Addr} {fd : FuncData} (F : SupF K "__init__" q st f fd C cda cc)
    (hbi : ∀ (kV doc pm ct : Value) (an : Option Addr) (us : List Value), us.length = ps.length → bindArgs (PySem.W.ksFn "__init__" q (defArgs st) (defBody st) (defScope st) .none kV doc pm an (.ref cda) ct cc) ⟨us, []⟩ = pure (ps.zip us)) : Binds K fd ps [] := by
  obtain ⟨oc, kV, doc, pm, ct, od, an, osl, rfl, lk, hcd⟩ := F.ex
  exact .all fun us hl => hbi kV doc pm ct an us hl
/-- what a body may take of its class -/
def SupB (P : Program) (w : World) (K : PySem.W.Frag) (mg : Str → Option Value) (base : Heap) (C : Addr) (q : Str) (st : Stmt) (N : List Str) (k : Nat) (sp : Sp) (f cda cc : Addr) : Prop :=
  ∀ (A : Around) (outer : List Env) (s : Shared) (H : Hp) (vs : List V) (Q : VK) (E : XK), Room k (A.deeper (envF (supNF "__init__" q st cda cc) f s.heap.objs.size)) → Gd (A.deeper (envF (supNF "__init__" q st cda cc) f s.heap.objs.size)) →
      sp vs H Q E → ∃ t, PSsA (ncx CX0 P w K mg base N (supNF "__init__" q st cda cc) f A outer s H E) (defBody st) (defBody st) t ∧ t { nx := fun _ H' => Q .non H', rt := Q } (startF N vs [some (.ref C)]) H
end
/-- six methods, one name -/
theorem HasMB.toD {gb : Bool} {P : Program} {w : World} {K : PySem.W.Frag} {mg : Str → Option Value} {base : Heap} {CK : Nat → Addr} {m : Str} {ps : List Str} {k : Nat} {sp : Nat → Sp} {n i : Nat} {st : Stmt} (h : HasMB gb P w K mg base (CK i) m st ps k (sp i)) : ∃ f fd, HasMB0 gb P w K mg base (CK i) m ps k (sp i) f fd := by
  obtain ⟨f, fd, q, _, h⟩ := h
  exact ⟨f, fd, h⟩
theorem HasD.one {P : Program} {w : World} {K : PySem.W.Frag} {mg : Str → Option Value} {base : Heap} {C : Addr} {m : Str} {ps : List Str} {k : Nat} {sp : Sp} {st : Stmt} (h : HasM P w K mg base C m st ps k sp) : HasD P w K mg base (fun _ => C) 1 m ps k (fun _ => sp) := fun i _ => by
  obtain ⟨f, fd, q, _, h⟩ := h
  exact ⟨f, fd, h⟩
end G


namespace G
open PySem PySem.Spec PyProof.Rows L2 StX ClX TL
section
variable {K : PySem.W.Frag} {CK : Nat → Addr} {CF : Addr} {σ : L2.St} {H : Hp} {Q : VK} {te : TE} {vs : List Nat} {m : Nat}
end
section
variable {K : PySem.W.Frag} {w : World} {H : Hp} {Q : VK}
end
end G


namespace G
open PySem PySem.Spec PyProof.Rows L2 StX ClX TL NdefX
section
variable {P : Program} {w : World} {K : PySem.W.Frag} {mg : Str → Option Value} {base : Heap} {CK : Nat → Addr} {n : Nat}
end
section
variable {K : PySem.W.Frag} {CK : Nat → Addr} {CF : Addr} {n : Nat} {sp : Nat → Sp} {spk : List V → List (Str × V) → Hp → VK → XK → Prop} {te ta tf : TE} {t : TA} {σ : L2.St} {H : Hp} {Q : VK} {m : Str} {C : Addr} {ks : List Str}
theorem s_fmtD (h : te σ H fun x H1 => ∃ a i, x = .ref a ∧ InsD CK n H1 a i ∧ sp i [.ref a] H1 (fun v H' => (∃ z, v = .str z) ∧ Q v H') E0) : tFmtD CK n sp te σ H Q := h
theorem s_makeP (h : t σ H fun vs H1 => ∀ x dx, H1 x = none → H1 dx = none → dx ≠ x → spk (.ref x :: vs) [] (upd (upd H1 dx (.own x)) x (.ins C dx [])) (fun v H2 => v = .non ∧ Q (.ref x) H2) E0) : tMakeP C spk t σ H Q := h
theorem s_makeQ (h : t σ H fun zs H1 => zs.length = ks.length ∧ ∀ x dx, H1 x = none → H1 dx = none → dx ≠ x → spk [.ref x] (ks.zip zs) (upd (upd H1 dx (.own x)) x (.ins C dx [])) (fun v H2 => v = .non ∧ Q (.ref x) H2) E0) : tMakeQ C ks spk t σ H Q := h
/-- the text of a form, of a condition -/
theorem s_fmtF {v : V} {q : Row} (f : FormAt C H v q) (hl : (textR q).length ≤ 100000) (h : Q (.str (textR q)) H) : ∃ a i, v = .ref a ∧ InsD (fun _ => C) 1 H a i ∧ (fun _ => spStr C) i [.ref a] H (fun v H' => (∃ z, v = .str z) ∧ Q v H') E0 := by
  have f' := f
  obtain ⟨a, dx, t, y, xs, rfl, fi⟩ := f'
  exact ⟨a, 0, rfl, ⟨by decide, dx, _, fi.ins⟩, _, q, rfl, f, hl, ⟨_, rfl⟩, h⟩
end
end G


namespace G
open PySem PySem.Spec PyProof.Rows L2 StX ClX TL NdefX
/-- all but lists and new objects stays -/
def Nb (H H' : Hp) : Prop := ∀ a o, (∀ xs, o ≠ .lst xs) → (∀ C dx, o ≠ .ins C dx []) → H a = some o → H' a = some o
theorem Nb.of_rx {a C dx : Addr} {H H' : Hp} (h : H a = some (.ins C dx [])) (r : Rx [a] H H') : Nb H H' := fun b o _ n e => by
  refine r b o ?_ e
  intro z
  have z : b = a := by simpa using z
  rw [z, h] at e
  cases e
  exact n _ _ rfl
theorem Nb.of_nl {H H' : Hp} (r : Nl H H') : Nb H H' := fun a o n _ e => r a o n e
theorem FormAt.nb {C : Addr} {H H' : Hp} {v : V} {q : Row} (r : Nb H H') (h : FormAt C H v q) : FormAt C H' v q := by
  obtain ⟨a, dx, t, y, xs, e, h⟩ := h
  refine ⟨a, dx, t, y, xs, e, r _ _ (fun _ z => by cases z) (fun _ _ z => by cases z) h.ins, ?_, h.prs.tp fun a xs e => r _ _ (fun _ z => by cases z) (fun _ _ z => by cases z) e, r _ _ (fun _ z => by cases z) (fun _ _ z => by cases z) h.sy, h.can, h.rb⟩
  obtain ⟨o, d, f⟩ := h.ft
  exact ⟨o, d, r _ _ (fun _ z => by cases z) (fun _ _ z => by cases z) f⟩
theorem paired_get {α β : Type} {R : α → β → Prop} : ∀ {xs : List α} {ys : List β} {i : Nat} {x : α}, Paired R xs ys → xs[i]? = some x → ∃ y, ys[i]? = some y ∧ R x y
  | _, _, _, _, .nil, h => by cases h
  | _, _, 0, _, .cons a b, h => by cases h; exact ⟨_, rfl, a⟩
  | _, _, i + 1, _, .cons a b, h => by
    rw [List.getElem?_cons_succ] at h
    obtain ⟨y, e, r⟩ := paired_get b h
    exact ⟨y, by rw [List.getElem?_cons_succ]; exact e, r⟩
end G


namespace G
open PySem PySem.Spec PyProof.Rows L2 StX ClX _root_.TL
/-- as long as a text may be -/
theorem szL {n : Nat} (h : n ≤ 10000000) : n ≤ sizeLine := by rw [sizeLine_eq]; omega
section
variable {K : PySem.W.Frag} {D : Ends} {σ : L2.St} {H : Hp} {C a dx : Addr} {fs gs : List (Str × V)} {f : Str} {y : V}
/-- a field set at an object under way: what stood at a is told anew -/
theorem s_sfldN {R : Hp} (e : H a = some (.ins C dx fs)) (c : Cls K C) (n : NoAttr K C f) (l : fs.length < 1000) (p : putF f y fs = gs) (r : Rx [a] R H) (h : ∀ J, Rx [a] R J → Same (fun b => if b = a then none else H b) J → J a = some (.ins C dx gs) → D.nx σ J) : rSfld K f D σ y (.ref a) H := by
  refine s_sfldE e c n l ?_
  rw [p]
  refine h _ (r.trans (.put (by simp))) (fun b o z => ?_) upd_same
  by_cases hb : b = a
  · simp [hb] at z
  · simp only [if_neg hb] at z
    rw [upd_ne hb]
    exact z
end
theorem join_one (a x : Str) : Txt.join a [x] = x := by
  refine ext_tl ?_
  rw [join_eq, tl_join]
  simp [joinL]
end G


namespace G
open PySem PySem.Spec PyProof.Rows L2 StX ClX _root_.TL NdefX
theorem six {p : Nat → Prop} (h0 : p 0) (h1 : p 1) (h2 : p 2) (h3 : p 3) (h4 : p 4) (h5 : p 5) : ∀ i, i < 6 → p i := fun i hi => by
  match i, hi with
  | 0, _ => exact h0
  | 1, _ => exact h1
  | 2, _ => exact h2
  | 3, _ => exact h3
  | 4, _ => exact h4
  | 5, _ => exact h5
end G


namespace G
open PySem PySem.Spec PyProof.Rows L2 StX ClX _root_.TL NdefX
theorem op_le : ∀ k, (opT k).length ≤ 4
  | 0 => by decide
  | 1 => by decide
  | _ + 2 => (by decide : (Str.ofString " = ").length ≤ 4)
end G


namespace G
open PySem PySem.Spec PyProof.Rows L2 StX ClX _root_.TL NdefX
end G


namespace G
open PySem PySem.Spec PyProof.Rows L2 StX ClX _root_.TL NdefX
section
variable {CK : Nat → Addr} {CF : Addr} {H : Hp} {Q : Addr → Hp → Prop} {k : Nat} {ks : List Str}
theorem same_new2 {H : Hp} {x dx : Addr} {o1 o2 : HO} (hx : H x = none) (hd : H dx = none) : Same H (upd (upd H dx o1) x o2) := fun b o e => by
  rw [upd_ne (ne_of_none e hx), upd_ne (ne_of_none e hd)]
  exact e
theorem same_rx {H H1 H' : Hp} {x : Addr} (hx : H x = none) (s : Same H H1) (r : Rx [x] H1 H') : Same H H' := fun b o e => r b o (by
  intro z
  have z : b = x := by simpa using z
  rw [z, hx] at e
  cases e) (s b o e)
end
end G


namespace G
open PySem PySem.Spec PyProof.Rows L2 StX ClX _root_.TL NdefX
end G


namespace G
open PySem PySem.Spec PyProof.Rows L2 StX ClX _root_.TL NdefX
end G


namespace G
open PySem PySem.Spec PyProof.Rows L2 StX ClX TL
end G


namespace G
open PySem PySem.Spec PyProof.Rows L2 StX ClX TL NdefX
theorem codeIn_ref {K : PySem.W.Frag} {cdv : Value} {q : Str} (h : PySem.W.codeIn K cdv q = true) : ∃ c, cdv = .ref c := by
  cases cdv with
  | ref c => exact ⟨c, rfl⟩
  | _ => cases h
theorem sup_of {K : PySem.W.Frag} {d : DefQ} {f D : Addr} {fd : FuncData} {file : Str} (F : FunQ K d f fd) (n : d.clo = (["__class__"] : List Str)) (hc : cellB K f D = true) (hf : codeFB K f file = true) : ∃ cda cc, SupF K d.name d.qual d.st f fd D cda cc ∧ CodeF K cda file := by
  obtain ⟨⟨cl, oc, kV, doc, pm, cdv, ct, od, an, osl, rfl, e, lk, hcd⟩, kp⟩ := F
  rw [n] at e
  obtain ⟨cda, rfl⟩ := codeIn_ref hcd
  match cl, e with
  | [(x, cc)], e =>
    simp only [List.map_cons, List.map_nil, List.cons.injEq, and_true] at e
    subst e
    have e1 : cellAd K f = cc := by unfold cellAd; rw [lk]
    have e2 : codeAd K f = cda := by unfold codeAd; rw [lk]
    refine ⟨cda, cc, ⟨⟨oc, kV, doc, pm, ct, od, an, osl, rfl, lk, hcd⟩, kp, ?_⟩, ?_⟩
    · unfold cellB at hc
      rw [e1] at hc
      split at hc
      · rename_i cl cld dd csl q
        obtain rfl := Nat.eq_of_beq_eq_true hc
        exact ⟨_, _, _, q⟩
      · cases hc
    · unfold codeFB at hf
      rw [e2] at hf
      split at hf
      · rename_i cl cld vs cs q
        split at hf
        · rename_i z t hz
          have := eq_of_beq hf
          subst this
          exact ⟨_, _, _, _, t, q, hz⟩
        · cases hf
      · cases hf
end G


namespace G
open PySem PySem.Spec PyProof.Rows L2 StX ClX _root_.TL
abbrev opL : Nat → List Nat
  | 0 => [32, 60, 32]
  | 1 => [32, 60, 61, 32]
  | _ => [32, 61, 32]
theorem op_ne : ∀ k : Nat, opL k ≠ []
  | 0 => by decide
  | 1 => by decide
  | _ + 2 => (by decide : ([32, 61, 32] : List Nat) ≠ [])
end G


namespace G
open PySem PySem.Spec PyProof.Rows L2 StX ClX NdefX
section
variable {P : Program} {w : World} {K : PySem.W.Frag} {elts : List Expr} {kk : Nat} {tpos : Pos} {e it : Addr} {z : Str} {t : Tok}
end
end G


namespace G
open PySem PySem.Spec PyProof.Rows L2 StX ClX _root_.TL NdefX
section
variable {σ : L2.St} {H : Hp} {Q : VK} {D : Ends} {te : TE}
end
end G


namespace G
open PySem PySem.Spec PyProof.Rows L2 StX ClX _root_.TL NdefX
section
open PySem.W
variable {prog : Program} {w : World} {A : Around} {E : Value → Shared → Prop} {s : Shared} {K : Frag} {x C D f g : Addr} {ox : Obj} {od : Option Obj} {op : Operator} {b : Value} {Q : Value → Shared → Prop}
end
/-- what stands on the right of an own == -/
inductive TyD (CK : Nat → Addr) (n : Nat) (H : Hp) : V → Prop where
  | own {b j : Nat} (e : InsD CK n H b j) : TyD CK n H (.ref b)
  | str (z : Str) : TyD CK n H (.str z)
  | int (i : Int) : TyD CK n H (.int i)
def rEqD (CK : Nat → Addr) (n : Nat) (sp : Nat → Sp) : R2 := fun x y H Q => ∃ a i, x = .ref a ∧ InsD CK n H a i ∧ TyD CK n H y ∧ sp i [x, y] H Q E0
def rNeD (CK : Nat → Addr) (n : Nat) (sp : Nat → Sp) : R2 := fun x y H Q => ∃ a i, x = .ref a ∧ InsD CK n H a i ∧ TyD CK n H y ∧ sp i [x, y] H (fun v H' => ∃ b, v = .bl b ∧ Q (.bl (!b)) H') E0
def rReprD (CK : Nat → Addr) (n : Nat) (sp : Nat → Sp) : RC := fun xs H Q => ∃ a i, xs = [.ref a] ∧ InsD CK n H a i ∧ sp i [.ref a] H (fun v H' => (∃ z, v = .str z) ∧ Q v H') E0
section
variable {X : Cx} {k n : Nat} {CK : Nat → Addr} {ps : List Str} {sp : Nat → Sp}
theorem reprD (h : HasD X.prog X.w X.K X.mg X.base CK n "__repr__" ps k sp) (hr : Room (k + 1) X.A) (hgd : Gd X.A) : CallR X (.builtin "repr") (rReprD CK n sp) := by
  intro pins s σ H xs us Q I r hq
  obtain ⟨a, i, rfl, ⟨hi, dx, fs, ha⟩, hq⟩ := hq
  obtain ⟨f, fd, hm⟩ := h i hi
  exact c_reprO (sp := sp i) (E := E0) hm.me.at_ hm.me.fn hm.ok hr hgd hm.bi pass0 pins s σ H [.ref a] us Q I r ⟨a, dx, fs, rfl, ha, hq⟩
end
end G


namespace G
open PySem PySem.Spec PyProof.Rows L2 StX ClX NdefX
section
open HT
variable {prog : Program} {w : World} {A : Around} {E : Value → Shared → Prop} {s : Shared}
end
theorem conK {X : Cx} (K : PySem.W.Frag) (hk : X.K = K := by rfl) {e : Expr} {ta : TE} {f : Str} {pos : Pos} (he : PE X e ta) (hb : attributeBase e f X.env (eval e X.env) = eval e X.env := by rfl) : PE X (.Attribute e f pos) (tCon K ta f) := by subst hk; exact pe_con he hb
theorem s_con {K : PySem.W.Frag} {ta : TE} {f : Str} {σ : L2.St} {H : Hp} {Q : VK} (h : ta σ H fun x H1 => ∃ a C dx fs v u, x = .ref a ∧ H1 a = some (.ins C dx fs) ∧ Cls K C ∧ Con K C f v u ∧ fs.lookup f = none ∧ Q v H1) : tCon K ta f σ H Q := h
end G


namespace G
open PySem PySem.Spec PyProof.Rows L2 StX ClX _root_.TL NdefX
end G


namespace G
open PySem PySem.Spec PyProof.Rows L2 StX ClX _root_.TL NdefX
end G


namespace G
open PySem PySem.Spec PyProof.Rows L2 StX ClX TL NdefX
end G


namespace G
open PySem PySem.Spec PyProof.Rows L2 StX ClX _root_.TL NdefX
end G
namespace G
open PySem PySem.Spec PyProof.Rows L2 StX ClX _root_.TL NdefX
def one (b : Bool) : Nat := if b then 1 else 0
end G


namespace G
open PySem PySem.Spec PyProof.Rows L2 StX ClX _root_.TL NdefX
end G


namespace G
open PySem PySem.Spec PyProof.Rows L2 StX ClX _root_.TL NdefX
section
variable {X : Cx} {k n : Nat} {CK : Nat → Addr} {m : Str} {ps ks : List Str} {sp : Nat → Sp} {o : Expr} {ta : TE} {apos pos : Pos}
end
end G


namespace G
open PySem PySem.Spec PyProof.Rows L2 StX ClX _root_.TL NdefX GenW
section
variable {prog : Program} {w : World} {A : Around} {E : Value → Shared → Prop} {s : Shared} {it l : Addr} {i : Nat} {items : Array Value} {Q : Option Value → Shared → Prop}
end
section
variable {X : Cx} {e : Expr} {te : TE}
end
end G


namespace G
open PySem PySem.Spec PyProof.Rows L2 StX ClX _root_.TL NdefX GenW
section
variable {P : Program} {w : World} {K : PySem.W.Frag} {mg : Str → Option Value} {base : Heap}
end
section
variable {X : Cx} {k n : Nat} {CK : Nat → Addr} {m : Str} {ps ks : List Str} {sp : SpG} {o e : Expr} {es : List Expr} {kws : List Keyword} {ta : TE} {t tk : TA} {apos pos : Pos}
end
end G


namespace G
open PySem PySem.Spec PyProof.Rows L2 StX ClX _root_.TL NdefX
section
variable {gb : Bool} {P : Program} {w : World} {K : PySem.W.Frag} {mg : Str → Option Value} {base : Heap} {C : Addr} {m x : Str} {st : Stmt} {ps : List Str} {k : Nat} {sp : Sp}
end
theorem paired_mono {β : Type} {R S : V → β → Prop} (h : ∀ v b, R v b → S v b) : ∀ {vs : List V} {bs : List β}, Paired R vs bs → Paired S vs bs
  | _, _, .nil => .nil
  | _, _, .cons a b => .cons (h _ _ a) (paired_mono h b)
end G


namespace G
open PySem PySem.Spec PyProof.Rows L2 StX ClX _root_.TL NdefX
section
variable {σ : L2.St} {H : Hp} {Q : VK} {wi wi1 : TI} {g g1 : TG} {tt tt1 : TT} {te : TE} {vs vs1 : List Nat}
end
end G


namespace G
open PySem PySem.Spec PyProof.Rows L2 StX ClX _root_.TL NdefX
end G


namespace G
open PySem PySem.Spec PyProof.Rows L2 StX ClX _root_.TL NdefX
end G


namespace G
open PySem PySem.Spec PyProof.Rows L2 StX ClX _root_.TL NdefX
end G


namespace G
open PySem PySem.Spec PyProof.Rows L2 StX ClX _root_.TL NdefX
end G


namespace G
open PySem PySem.Spec PyProof.Rows L2 StX ClX _root_.TL NdefX
end G


namespace G
open PySem PySem.Spec PyProof.Rows L2 StX ClX _root_.TL NdefX
end G


namespace G
open PySem PySem.Spec PyProof.Rows L2 StX ClX _root_.TL NdefX
abbrev r1 (z : Str) : Row := [(z, 1)]
end G


namespace Zp
open PySem PySem.Spec PyProof.Rows
section
variable {prog : Program} {w : World} {A : Around} {E : Value → Shared → Prop} {s : Shared} {z TI TO i1 i2 : Addr} {fp1 fp2 : List Addr} {n1 n2 i : Nat} {P1 P2 : Nat → Value → Prop} {St1 St2 : Nat → Heap → Prop}
end
section
variable {prog : Program} {w : World}
end
section
variable {prog : Program} {w : World} {A : Around} {E : Value → Shared → Prop} {s : Shared} {v1 v2 : Value} {xs ys : Array Value}
abbrev PI (xs : Array Value) : Nat → Value → Prop := fun i x => xs[i]? = some x
end
end Zp


namespace G
open PySem PySem.Spec PyProof.Rows L2 StX ClX _root_.TL NdefX
section
variable {X : Cx}
variable {e e2 : Expr} {t : TA} {p p2 pos pz : Pos}
end
end G


namespace G
open PySem PySem.Spec PyProof.Rows L2 StX ClX _root_.TL NdefX
end G


namespace G
open PySem PySem.Spec PyProof.Rows L2 StX ClX _root_.TL NdefX
open AutoSeq1 (wpAny_loadPart')
end G






namespace G
open PySem PySem.Spec PyProof.Rows L2 StX ClX _root_.TL NdefX RZ
section
variable {K : PySem.W.Frag} {H : Hp} {Q : VK}
end
end G


set_option exponentiation.threshold 10000
namespace G
open PySem PySem.Spec PyProof.Rows L2 StX ClX _root_.TL NdefX
section
variable (C : Addr)
end
end G


set_option exponentiation.threshold 256
set_option exponentiation.threshold 10000
namespace G
open PySem PySem.Spec PyProof.Rows L2 StX ClX _root_.TL NdefX RZ
end G
namespace G
open PySem L2
end G
namespace G
open PySem L2
end G
namespace G
open PySem L2
end G


set_option exponentiation.threshold 256
set_option exponentiation.threshold 10000
namespace G
open PySem PySem.Spec PyProof.Rows L2 StX ClX _root_.TL NdefX RZ
end G


set_option exponentiation.threshold 256
set_option exponentiation.threshold 10000
namespace G
open PySem PySem.Spec PyProof.Rows L2 StX ClX _root_.TL NdefX RZ
theorem eqv_nil0 : ∀ ds : List PyData, PyData.eqv (.list ds) (.list []) = ds.isEmpty
  | [] => by simp [PyData.eqv, PyData.eqvAll]
  | d :: ds => by simp [PyData.eqv, PyData.eqvAll]
theorem strs_plain : ∀ ns : List Str, PyData.plainAll (ns.map PyData.str) = true ∧ PyData.depthAll (ns.map PyData.str) = 0
  | [] => by simp [PyData.plainAll, PyData.depthAll]
  | n :: ns => by
    obtain ⟨a, b⟩ := strs_plain ns
    exact ⟨by simp only [List.map_cons, PyData.plainAll, PyData.plain, a, Bool.and_self], by simp only [List.map_cons, PyData.depthAll, PyData.depth, b, Nat.max_self]⟩
end G


set_option exponentiation.threshold 256
set_option exponentiation.threshold 10000
namespace G
open PySem PySem.Spec PyProof.Rows L2 StX ClX _root_.TL NdefX RZ
end G
namespace G
open PySem L2
end G
namespace G
open PySem PySem.Spec PyProof.Rows L2
end G


set_option exponentiation.threshold 256
set_option exponentiation.threshold 10000
namespace G
open PySem PySem.Spec PyProof.Rows L2 StX ClX _root_.TL NdefX RZ
end G
namespace G
open PySem PySem.Spec PyProof.Rows L2
end G


set_option exponentiation.threshold 256
set_option exponentiation.threshold 10000
namespace G
open PySem PySem.Spec PyProof.Rows L2 StX ClX _root_.TL NdefX RZ
section
variable (C : Addr)
end
theorem sIx_nat (n m d : Nat) : HT.sIx n d (some (m : Int)) = min m n := HT.sIx_nat n d m
end G
namespace G
open PySem PySem.Spec PyProof.Rows L2
end G
namespace G
open PySem PySem.Spec PyProof.Rows L2
end G
namespace G
open PySem PySem.Spec PyProof.Rows L2
end G


set_option exponentiation.threshold 256
set_option exponentiation.threshold 10000
namespace G
open PySem PySem.Spec PyProof.Rows L2 StX ClX _root_.TL NdefX RZ
end G


set_option exponentiation.threshold 256
set_option exponentiation.threshold 10000
namespace G
open PySem PySem.Spec PyProof.Rows L2 StX ClX LamX _root_.TL NdefX RZ
section
variable {X : Cx} {k : Nat} {st : Stmt} {ps : List Str} {sp : Sp} {x : Str} {p pos : Pos} {e : Expr} {es : List Expr} {t : TA} {W : WX}
end
section
variable (K : PySem.W.Frag) (C : Addr) (A : Addr → Prop)
end
section
variable {K : PySem.W.Frag} {mg : Str → Option Value} {C : Addr} {A : Addr → Prop} {H : Hp} {Q : VK} {v : V} {o : Option String}
end
section
variable (K : PySem.W.Frag) (C X : Addr)
end
end G
namespace G
open PySem PySem.Spec PyProof.Rows L2 StX ClX LamX _root_.TL NdefX RZ
end G


set_option exponentiation.threshold 256
set_option exponentiation.threshold 10000
namespace G
open PySem PySem.Spec PyProof.Rows L2 StX ClX LamX _root_.TL NdefX RZ
def s3 (s : Str) : List Str := [s, s, s]
end G


set_option exponentiation.threshold 256
namespace G
open PySem PySem.Spec PyProof.Rows L2 StX ClX LamX _root_.TL NdefX
def Pu (p : Addr) (n : Nat) (H : Hp) : Prop := ∃ d s c : Int, H p = some (.lst [.int d, .int s, .int c]) ∧ 0 ≤ d ∧ 0 ≤ s ∧ s < 2147483629 ∧ 0 ≤ c ∧ c ≤ n
theorem Pu.same {p : Addr} {n : Nat} {H H' : Hp} (h : Pu p n H) (r : Same H H') : Pu p n H' := by
  obtain ⟨d, s, c, e, h⟩ := h
  exact ⟨d, s, c, r _ _ e, h⟩
theorem Pu.mono {p : Addr} {n m : Nat} {H : Hp} (h : Pu p n H) (l : n ≤ m) : Pu p m H := by
  obtain ⟨d, s, c, e, h1, h2, h3, h4, h5⟩ := h
  exact ⟨d, s, c, e, h1, h2, h3, h4, by omega⟩
theorem Pu.ne {p a : Addr} {n : Nat} {H : Hp} (h : Pu p n H) (ha : H a = none) : a ≠ p := by
  rintro rfl
  obtain ⟨d, s, c, e, _⟩ := h
  rw [ha] at e
  cases e
theorem Pu.upd {p a : Addr} {n : Nat} {H : Hp} {o : HO} (h : Pu p n H) (ha : a ≠ p) : Pu p n (upd H a o) := by
  obtain ⟨d, s, c, e, r⟩ := h
  exact ⟨d, s, c, by rw [upd_ne (Ne.symm ha)]; exact e, r⟩
theorem Nl.of_pu {p : Addr} {n : Nat} {H H' : Hp} (h : Pu p n H) (r : Rx [p] H H') : Nl H H' := fun a o ho e => by
  by_cases ha : a = p
  · subst ha
    obtain ⟨d, s, c, e2, _⟩ := h
    rw [e] at e2
    cases e2
    exact absurd rfl (ho _)
  · exact r a o (by simpa using ha) e
theorem Tp.of_pu {p : Addr} {n : Nat} {H H' : Hp} (h : Pu p n H) (r : Rx [p] H H') : Tp H H' := (Nl.of_pu h r).tp
def spCellP (K : PySem.W.Frag) : Sp := fun vs H Q _ => ∃ (a : Addr) (ns : List Int) (k : Int), vs = [.ref a, .int k] ∧ SqL K H a (ns.map V.int) ∧ ns.length ≤ 63 ∧ 0 ≤ k ∧ k ≤ 100 ∧ ∀ (m : Int) (H' : Hp), Same H H' → Q (.int m) H'
def spPurse : Sp := fun vs H Q _ => ∃ m : Int, vs = [.int m] ∧ ∀ (p : Addr) (H' : Hp), H p = none → Same H H' → Pu p 0 H' → Q (.ref p) H'
def spTake : Sp := fun vs H Q _ => ∃ (p : Addr) (n : Nat) (m : Int), vs = [.ref p, .int m] ∧ Pu p n H ∧ n ≤ 1000000000 ∧ 0 < m ∧ m < 1073741824 ∧
  ∀ (i : Int) (H' : Hp), 0 ≤ i → i < m → Rx [p] H H' → Pu p (n + 1) H' → Q (.int i) H'
def spNameP : Sp := fun vs H Q _ => ∃ (p : Addr) (n : Nat), vs = [.ref p] ∧ Pu p n H ∧ n ≤ 900000000 ∧ ∀ (z : Str) H', nameS z = true → Rx [p] H H' → Pu p (n + 9) H' → Q (.str z) H'
def spOtherP : Sp := fun vs H Q _ => ∃ (p q : Addr) (n : Nat) (zs : List Str), vs = [.ref p, .ref q] ∧ Pu p n H ∧ n ≤ 800000000 ∧ q ≠ p ∧ H q = some (.lst (zs.map V.str)) ∧ zs.length ≤ 20 ∧
  ∀ (z : Str) H', nameS z = true → z ∉ zs → Rx [p] H H' → Pu p (n + 9) H' → Q (.str z) H'
def spNamesP : Sp := fun vs H Q _ => ∃ (p : Addr) (n : Nat) (m : Int), vs = [.ref p, .int m] ∧ Pu p n H ∧ n ≤ 700000000 ∧ 0 ≤ m ∧ m ≤ 12 ∧
  ∀ q (zs : List Str) H', H q = none → (zs.length : Int) = m → (∀ z ∈ zs, nameS z = true) → zs.Nodup → Rx [p] H H' → Pu p (n + 2 + 9 * m.toNat) H' → H' q = some (.lst (zs.map V.str)) → Q (.ref q) H'
def rDivmod : List V → Hp → VK → Prop := fun xs H Q => ∃ i j, xs = [.int i, .int j] ∧ CDiv i j ∧ ∀ p, H p = none → Q (.ref p) (upd H p (.tup [.int (i / j), .int (i % j)]))
theorem divmodK {X : Cx} : CallR X (.builtin "divmod") rDivmod := call_divmod
theorem s_divmod {i j : Int} {H : Hp} {Q : VK} (c : CDiv i j) (h : ∀ p H', H p = none → Same H H' → H' p = some (.tup [.int (i / j), .int (i % j)]) → Q (.ref p) H') : rDivmod [.int i, .int j] H Q :=
  ⟨i, j, rfl, c, fun p hp => h p _ hp (fun a o e => by rw [upd_ne (ne_of_none e hp)]; exact e) upd_same⟩
end G


namespace G
open PySem PySem.Spec PyProof.Rows L2 StX ClX LamX _root_.TL NdefX
structure StmC (K : PySem.W.Frag) (mg : Str → Option Value) (ST IF : Addr) (CK : Nat → Addr) : Prop where
  at_ : mg "Statement" = some (.ref ST)
  gI : mg "If" = some (.ref IF)
  gl : ∀ i, i < 9 → mg (stN i) = some (.ref (CK i))
  fm : ∀ i, i < 9 → FmtC K (CK i)
  na : ∀ i, i < 9 → ∀ f ∈ stF i ++ [(Str.ofString "lines")], NoAttr K (CK i) f
  i1 : ∀ i, i < 9 → PySem.W.findIn K (.ref (CK i)) "__class__" = some (some (.builtin "object.__class__"))
  i2 : PySem.W.specialIn K (.builtin "object.__class__") "__get__" = some (some (.builtin "getset_descriptor.__get__"))
  i3 : PySem.W.takesIn K (.builtin "object.__class__") = some true
  one : ∀ i, i < 9 → PySem.W.kitOne K (.ref (CK i)) (.ref ST) = some true
  kit : ∀ i j, i < 9 → j < 9 → PySem.W.kitOne K (.ref (CK i)) (.ref (CK j)) = some (decide (i = j ∨ (j = 1 ∧ 2 ≤ i ∧ i ≤ 4)))
  kIf : ∀ i, i < 9 → PySem.W.kitOne K (.ref (CK i)) (.ref IF) = some false
  con : ∀ i, i < 9 → ∃ u, Con K (CK i) "WORD" (.str (stW i)) u
  ne : ∀ i, i < 9 → PySem.W.findIn K (.ref (CK i)) "__ne__" = some (some (.builtin "object.__ne__"))
  nf : ∀ i j, i < 9 → j < 9 → PySem.W.notFirst K (CK i) (.ref (CK j)) = true ∨ (CK j ≠ CK i ∧ PySem.W.subIn K (.ref (CK j)) (.ref (CK i)) = some true)
  ic : PySem.W.isClsIn K ST = true
  ty : PySem.W.typeIn K (.ref ST) = some (.type "type")
  sb : ∀ T ∈ tysB, PySem.W.subIn K (.type T) (.ref ST) = some false
section
variable {K : PySem.W.Frag} {mg : Str → Option Value} {ST IF : Addr} {CK : Nat → Addr} {H : Hp} {Q : VK} {a dx : Addr} {fs : List (Str × V)} {i j : Nat}
theorem StmC.cls (f : StmC K mg ST IF CK) (hi : i < 9) : Cls K (CK i) := (f.fm i hi).cls
theorem StmC.isi (f : StmC K mg ST IF CK) (e : H a = some (.ins (CK i) dx fs)) (hi : i < 9) (h : Q (.bl true) H) : rIsi K [.ref a, .ref ST] H Q :=
  ⟨_, _, _, _, _, rfl, .own ST, .base (.ins e (f.fm i hi).cls (f.i1 i hi) f.i2 f.i3 (f.fm i hi).mr), f.one i hi, h⟩
theorem StmC.isj (f : StmC K mg ST IF CK) (e : H a = some (.ins (CK i) dx fs)) (hi : i < 9) (hj : j < 9) (h : Q (.bl (decide (i = j ∨ (j = 1 ∧ 2 ≤ i ∧ i ≤ 4)))) H) : rIsi K [.ref a, .ref (CK j)] H Q :=
  ⟨_, _, _, _, _, rfl, .own _, .base (.ins e (f.fm i hi).cls (f.i1 i hi) f.i2 f.i3 (f.fm i hi).mr), f.kit i j hi hj, h⟩
theorem StmC.isIf (f : StmC K mg ST IF CK) (e : H a = some (.ins (CK i) dx fs)) (hi : i < 9) (h : Q (.bl false) H) : rIsi K [.ref a, .ref IF] H Q :=
  ⟨_, _, _, _, _, rfl, .own _, .base (.ins e (f.fm i hi).cls (f.i1 i hi) f.i2 f.i3 (f.fm i hi).mr), f.kIf i hi, h⟩
end
end G


namespace G
open PySem PySem.Spec PyProof.Rows L2 StX ClX LamX _root_.TL NdefX
def s3f (k : Nat) : Str := Str.ofString (toString (100 + (k : Int)))
theorem s3f_tl (k : Nat) (h : k < 30) : ∃ a b c, tl (s3f k) = [a, b, c] ∧ (a ∈ (letS ++ digS).cps.toList ∧ a ≠ 119) ∧ (b ∈ (letS ++ digS).cps.toList ∧ b ≠ 119) ∧ (c ∈ (letS ++ digS).cps.toList ∧ c ≠ 119) := by
  have : ∀ k : Fin 30, (tl (s3f k.1)).length = 3 ∧ (tl (s3f k.1)).all fun c => decide (c ∈ (letS ++ digS).cps.toList ∧ c ≠ 119) := by decide +kernel
  obtain ⟨h1, h2⟩ := this ⟨k, h⟩
  match hl : tl (s3f k), h1, h2 with
  | [a, b, c], _, h2 =>
    simp only [List.all_cons, List.all_nil, Bool.and_true, Bool.and_eq_true, decide_eq_true_eq] at h2
    exact ⟨a, b, c, rfl, h2.1, h2.2.1, h2.2.2⟩
theorem s3f_inj (i j : Nat) (hi : i < 30) (hj : j < 30) (e : s3f i = s3f j) : i = j := by
  have : ∀ k l : Fin 30, s3f k.1 = s3f l.1 → k.1 = l.1 := by decide +kernel
  exact this ⟨i, hi⟩ ⟨j, hj⟩ e
theorem s3f_len (k : Nat) (h : k < 30) : (s3f k).length = 3 := by
  obtain ⟨a, b, c, e, _⟩ := s3f_tl k h
  have := congrArg List.length e
  exact this
theorem name_cut3 {y : Str} {k : Nat} (h : nameS y = true) (hk : k < 30) : nameS (cutS y none (some 5) ++ s3f k) = true := by
  obtain ⟨d, ds, e, l, hd, hs⟩ := name_parts h
  obtain ⟨a, b, c, e3, ha, hb, hc⟩ := s3f_tl k hk
  have et : tl (cutS y none (some 5) ++ s3f k) = d :: (ds.take 4 ++ [a, b, c]) := by
    rw [tl_append, show (5 : Int) = ((5 : Nat) : Int) from rfl, cutN_tl, e, e3]
    rfl
  refine name_of et (by simp; omega) hd (fun x hx => ?_) fun z => ?_
  · rcases List.mem_append.mp hx with hx | hx
    · exact hs x (List.mem_of_mem_take hx)
    · simp only [List.mem_cons, List.not_mem_nil, or_false] at hx
      rcases hx with rfl | rfl | rfl
      · exact ha.1
      · exact hb.1
      · exact hc.1
  · have e1 := congrArg tl z
    rw [et] at e1
    have e2 : tl ("view" : Str) = [118, 105, 101, 119] := by decide +kernel
    rw [e2] at e1
    have e4 : (d :: (ds.take 4 ++ [a, b])) ++ [c] = [118, 105, 101] ++ [119] := by
      have e5 : [118, 105, 101] ++ [119] = ([118, 105, 101, 119] : List Nat) := rfl
      rw [e5, ← e1]
      simp
    exact hc.2 (List.append_inj_right' e4 rfl |> List.cons.inj |>.1)
def knownP : List Str := ["buf", "aux", "cap", "room", "top", "k", "m", "given", "out", "len", "head", "x1"]
def wordsP : List Str := ["all", "any", "not", "if", "end", "else", "fill", "let", "copy", "size", "input", "reversed"]
theorem known_ok : (∀ z ∈ knownP, nameS z = true) ∧ knownP.Nodup := by decide +kernel
theorem words_ok : (∀ z ∈ wordsP, nameS z = true) ∧ wordsP.Nodup := by decide +kernel
/-- names taken in a circle -/
theorem circle {zs : List Str} (h12 : zs.length = 12) (nd : zs.Nodup) (t : Int) (m : Nat) (hm : m ≤ 12) : ((List.range m).map fun (k : Nat) => zs.getD ((t + k) % 12).toNat "").Nodup := by
  rw [List.nodup_iff_pairwise_ne, List.pairwise_map]
  refine List.Pairwise.imp_of_mem ?_ List.nodup_range
  intro a b ha hb ne e
  have ha := List.mem_range.mp ha
  have hb := List.mem_range.mp hb
  have h1 : ((t + a) % 12).toNat < zs.length := by omega
  have h2 : ((t + b) % 12).toNat < zs.length := by omega
  rw [List.getD_eq_getElem?_getD, List.getD_eq_getElem?_getD, List.getElem?_eq_getElem h1, List.getElem?_eq_getElem h2] at e
  have e' : zs[((t + a) % 12).toNat]? = zs[((t + b) % 12).toNat]? := by
    rw [List.getElem?_eq_getElem h1, List.getElem?_eq_getElem h2]
    exact congrArg some e
  have := (List.getElem?_inj h1 nd).mp e'
  omega
end G


namespace G
open PySem PySem.Spec PyProof.Rows L2 StX ClX LamX _root_.TL NdefX
theorem sumP_fac (x : Str) : ∀ (ps r : Row) (B : Nat), (∀ p ∈ ps, p.2.natAbs ≤ 99) → (∀ x, (fac r x).natAbs ≤ B) → (fac (sumR r ps 1) x).natAbs ≤ B + 99 * ps.length
  | [], r, B, _, h => by
    have := h x
    show (fac r x).natAbs ≤ _
    omega
  | p :: ps, r, B, hp, h => by
    have h1 := sumP_fac x ps (putR r p.1 (fac r p.1 + p.2 * 1)) (B + 99) (fun q hq => hp q (List.mem_cons_of_mem _ hq)) fun y => by
      rw [fac_put]
      split
      · have h2 := h p.1
        have h3 := hp p List.mem_cons_self
        omega
      · have := h y
        omega
    have e : sumR r (p :: ps) 1 = sumR (putR r p.1 (fac r p.1 + p.2 * 1)) ps 1 := rfl
    rw [e, List.length_cons]
    omega
def clampI (i : Int) : Int := if i < -99 then -99 else if 99 < i then 99 else i
theorem clampI_le (i : Int) : (clampI i).natAbs ≤ 99 := by
  unfold clampI
  split
  · decide
  · split
    · decide
    · omega
theorem clampI_ne {i : Int} (h : i ≠ 0) : clampI i ≠ 0 := by
  unfold clampI
  split
  · decide
  · split
    · decide
    · exact h
def clampR (q : Row) : Row := q.map fun p => (p.1, clampI p.2)
theorem clampR_keys {q : Row} : keysR (clampR q) = keysR q := by
  unfold clampR keysR
  rw [List.map_map]
  rfl
theorem clampR_can {q : Row} (h : Can q) : Can (clampR q) := ⟨by rw [clampR_keys]; exact h.asc, fun p hp => by
  obtain ⟨a, ha, rfl⟩ := List.mem_map.mp hp
  exact clampI_ne (h.nz a ha)⟩
theorem s_neNilS {K : PySem.W.Frag} {H : Hp} {Q : VK} {a b : Addr} {zs : List Str} (h1 : H a = some (.lst (zs.map V.str))) (h3 : H b = some (.lst [])) (h : Q (.bl (!zs.isEmpty)) H) : rNeP K (.ref a) (.ref b) H Q := by
  obtain ⟨p, d⟩ := strs_plain zs
  refine ⟨.list (zs.map PyData.str), .list [], .lst (SqL.of h1) dp_strs, .lst (SqL.of h3) .nil, by rw [PyData.plain]; exact p, by decide, by rw [PyData.depth, d]; decide, ?_⟩
  rw [eqv_nil0, show (zs.map PyData.str).isEmpty = zs.isEmpty by cases zs <;> rfl]
  exact h
def spTotal (K : PySem.W.Frag) : Sp := fun vs H Q _ => ∃ (l : Addr) (xs : List V) (ps : Row), vs = [.ref l] ∧ SqL K H l xs ∧ PrsL H xs ps ∧ ps.length ≤ 20 ∧ (∀ p ∈ ps, p.2.natAbs ≤ 99) ∧
  ∀ l2 ys q H', H l2 = none → Same H H' → H' l2 = some (.lst ys) → PrsL H' ys q → Can q → (∀ x ∈ keysR q, x ∈ keysR ps) → q.length ≤ ps.length → (∀ p ∈ q, p.2.natAbs ≤ 99 * 20) → Q (.ref l2) H'
def spSmall (K : PySem.W.Frag) : Sp := fun vs H Q _ => ∃ (l : Addr) (xs : List V) (q : Row), vs = [.ref l] ∧ SqL K H l xs ∧ PrsL H xs q ∧ q.length ≤ 20 ∧
  ∀ l2 ys H', H l2 = none → Same H H' → H' l2 = some (.lst ys) → PrsL H' ys (clampR q) → Q (.ref l2) H'
def spFormP : Sp := fun vs H Q _ => ∃ (p q : Addr) (n : Nat) (zs : List Str), vs = [.ref p, .ref q] ∧ Pu p n H ∧ n ≤ 600000000 ∧ q ≠ p ∧ H q = some (.lst (zs.map V.str)) ∧ 1 ≤ zs.length ∧ zs.length ≤ 20 ∧
  ∀ l xs row H', H l = none → Rx [p] H H' → Pu p (n + 7) H' → H' l = some (.lst xs) → PrsL H' xs row → Can row → (∀ p ∈ row, p.2.natAbs ≤ 99) → row.length ≤ 3 → (∀ x ∈ keysR row, x ∈ zs) → Q (.ref l) H'
end G


namespace G
open PySem PySem.Spec PyProof.Rows L2 StX ClX LamX _root_.TL NdefX
def appP {α : Type} (pm : List Nat) (l : List α) : List α := pm.filterMap fun i => l[i]?
theorem Vals.at2 : ∀ {vs : List V} {us : List Value} (i : Nat), Vals vs us → (vs[i]? = none ∧ us[i]? = none) ∨ ∃ v u, vs[i]? = some v ∧ us[i]? = some u ∧ RelV v u
  | _, _, _, .nil => .inl ⟨by simp, by simp⟩
  | _, _, 0, .cons h _ => .inr ⟨_, _, rfl, rfl, h⟩
  | _, _, i + 1, .cons _ t => by
    rcases Vals.at2 i t with ⟨a, b⟩ | ⟨v, u, a, b, c⟩
    · exact .inl ⟨by simpa using a, by simpa using b⟩
    · exact .inr ⟨v, u, by simpa using a, by simpa using b, c⟩
theorem vals_appP {vs : List V} {us : List Value} (h : Vals vs us) : ∀ pm : List Nat, Vals (appP pm vs) (appP pm us)
  | [] => .nil
  | i :: pm => by
    unfold appP
    rcases Vals.at2 i h with ⟨a, b⟩ | ⟨v, u, a, b, c⟩
    · rw [List.filterMap_cons_none a, List.filterMap_cons_none b]
      exact vals_appP h pm
    · rw [List.filterMap_cons_some a, List.filterMap_cons_some b]
      exact .cons c (vals_appP h pm)
def spkP (os : List (List Str × List Nat)) (sp : Sp) : List V → List (Str × V) → Hp → VK → XK → Prop := fun vs ys H Q E => (ys = [] ∧ sp vs H Q E) ∨ ∃ v o, o ∈ os ∧ vs = [v] ∧ ys.map (·.1) = o.1 ∧ sp (v :: appP o.2 (ys.map (·.2))) H Q E
section
variable {P : Program} {w : World} {K : PySem.W.Frag} {mg : Str → Option Value} {base : Heap} {CX : CXT}
theorem fk_ofP {f : Addr} {fd : FuncData} {ps : List Str} {os : List (List Str × List Nat)} {k : Nat} {sp : Sp} (F : Fg P w K mg base CX k f fd ps sp) (hb : Binds K fd ps [])
    (hbK : ∀ o ∈ os, ∀ (s : Shared) (u : Value) (ws : List Value), ws.length = o.1.length → BindsTo s fd ⟨[u], o.1.zip ws⟩ (ps.zip (u :: appP o.2 ws))) :
    Fk P w K mg base CX k f (spkP os sp) := by
  intro A outer s H us vs zs ys Q E hr hgd e0 r rz hsp
  rcases hsp with ⟨rfl, h⟩ | ⟨v, o, ho, rfl, hk, h⟩
  · cases rz
    have hl : us.length = ps.length := r.length.symm.trans (F.len _ _ _ _ h)
    have KX : K.In s.heap := e0.mod.kin.keeps fun b o e => (e0.bs b o e).1
    exact F.go A outer s H ⟨us, []⟩ us vs Q E hr hgd e0 (by simpa using hb s us KX (by simpa using hl)) r h
  · obtain ⟨u, rfl, ru⟩ : ∃ u, us = [u] ∧ RelV v u := by
      cases r with
      | cons h t => cases t; exact ⟨_, rfl, h⟩
    have rw2 : Vals (ys.map (·.2)) (zs.map (·.2)) := by
      clear h hk r
      induction rz with
      | nil => exact .nil
      | cons h t ih => exact .cons h.2 ih
    have e1 : zs = o.1.zip (zs.map (·.2)) := by
      rw [← hk, KV.fst rz]
      clear h hk r rw2 rz
      induction zs with
      | nil => rfl
      | cons z zs ih =>
        obtain ⟨a, b⟩ := z
        simp only [List.map_cons, List.zip_cons_cons]
        rw [← ih]
    have el : (zs.map (·.2)).length = o.1.length := by
      rw [← hk, KV.fst rz, List.length_map, List.length_map]
    have r2 : Vals (v :: appP o.2 (ys.map (·.2))) (u :: appP o.2 (zs.map (·.2))) := .cons ru (vals_appP rw2 o.2)
    exact F.go A outer s H ⟨[u], zs⟩ (u :: appP o.2 (zs.map (·.2))) (v :: appP o.2 (ys.map (·.2))) Q E hr hgd e0 (by have b := hbK o ho s u (zs.map (·.2)) el; rw [← e1] at b; exact b) r2 h
end
structure SupD2 (K : PySem.W.Frag) (mg : Str → Option Value) (file : Str) (CO D C : Addr) (x q : Str) (st : Stmt) (f cda cc f2 : Addr) (fd : FuncData) (cd : ClassData) : Prop where
  sf : SupF K "__init__" q st f fd D cda cc
  mkr : L2.Mk K C f
  gl : mg x = some (.ref C)
  co : CodeF K cda file
  cl : PySem.W.clsIn K D = some cd
  sc : SupC K D C "__init__" f2
  fat : PySem.W.findIn K (.ref CO) "__init__" = some (some (.ref f2))
  fi : PySem.W.fnIn K f2 = true
  ty : PySem.W.typeIn K (.ref f2) = some (.type "function")
def AtK2 (K : PySem.W.Frag) (mg : Str → Option Value) (file : Str) (CO D C : Addr) (x q : Str) (st : Stmt) : Prop := ∃ f cda cc f2 fd cd, SupD2 K mg file CO D C x q st f cda cc f2 fd cd
section
variable {P : Program} {w : World} {K : PySem.W.Frag} {mg : Str → Option Value} {base : Heap} {file : Str} {CO C D : Addr} {x q : Str} {st s0 : Stmt} {N ps ps0 : List Str} {k k0 : Nat} {sp sp0 : Sp} {os : List (List Str × List Nat)}
theorem hasK2_mk (A : AtK2 K mg file CO D C x q st) (S : NScope N ps ["__class__"] (defScope st)) (len : ∀ vs H Q E, sp vs H Q E → vs.length = ps.length)
    (hbi : ∀ (cda cc : Addr) (kV doc pm ct : Value) (an : Option Addr) (us : List Value), us.length = ps.length → bindArgs (PySem.W.ksFn "__init__" q (defArgs st) (defBody st) (defScope st) .none kV doc pm an (.ref cda) ct cc) ⟨us, []⟩ = pure (ps.zip us))
    (hbk : ∀ o ∈ os, ∀ (cda cc : Addr) (kV doc pm ct : Value) (an : Option Addr) (u : Value) (ws : List Value), ws.length = o.1.length → bindArgs (PySem.W.ksFn "__init__" q (defArgs st) (defBody st) (defScope st) .none kV doc pm an (.ref cda) ct cc) ⟨[u], o.1.zip ws⟩ = pure (ps.zip (u :: appP o.2 ws)))
    (hb : ∀ f cda cc f2 fd cd, SupD2 K mg file CO D C x q st f cda cc f2 fd cd → SupB P w K mg base D q st N k sp f cda cc) : HasK P w K mg base C x (k + 1) (spkP os sp) := by
  obtain ⟨f, cda, cc, f2, fd, cd, A⟩ := A
  refine ⟨f, A.mkr, A.gl, fk_ofP (fg_sup A.sf S len (hb f cda cc f2 fd cd A)) (A.sf.binds (hbi cda cc)) fun o ho => ?_⟩
  obtain ⟨oc, kV, doc, pm, ct, od, an, osl, rfl, lk, hcd⟩ := A.sf.ex
  exact fun s u ws hl => .of_eq (hbk o ho cda cc kV doc pm ct an u ws hl)
end
theorem ps_sup2 {P : Program} {w : World} {K : PySem.W.Frag} {mg : Str → Option Value} {base : Heap} {file : Str} {CO D C : Addr} {x q : Str} {st s0 : Stmt} {N ps0 : List Str} {k0 : Nat} {sp0 : Sp} {f cda cc f2 : Addr} {fd : FuncData} {cd : ClassData} {A : Around} {outer : List Env} {s : Shared} {H : Hp} {E : XK}
    {body : List Stmt} {e : Expr} {es : List Expr} {p0 p1 apos pos pos' : Pos} {a : Arg} {ta : TA} {pl : Sem Bool} (S : SupD2 K mg file CO D C x q st f cda cc f2 fd cd) (SW : SupW P K mg file) (hI : HasM P w K mg base CO "__init__" s0 ps0 k0 sp0)
    (hr : Room k0 (A.deeper (envF (supNF "__init__" q st cda cc) f s.heap.objs.size))) (hgd : Gd (A.deeper (envF (supNF "__init__" q st cda cc) f s.heap.objs.size)))
    (ha : PA (ncx CX0 P w K mg base N (supNF "__init__" q st cda cc) f A outer s H E) (e :: es) ta)
    (hks : (envF (supNF "__init__" q st cda cc) f s.heap.objs.size).kindOf "super" = some .globalImplicit := by rfl) (hkc : (envF (supNF "__init__" q st cda cc) f s.heap.objs.size).kindOf "__class__" = some .free := by rfl)
    (har : ((defArgs st).posonlyargs ++ (defArgs st).args).head? = some a := by rfl) (hN : N[0]? = some a.arg := by rfl) (hka : (envF (supNF "__init__" q st cda cc) f s.heap.objs.size).kindOf a.arg = some .local := by rfl)
    (hst : starEach (e :: es) (envF (supNF "__init__" q st cda cc) f s.heap.objs.size) = (false, eval e (envF (supNF "__init__" q st cda cc) f s.heap.objs.size)) :: starEach es (envF (supNF "__init__" q st cda cc) f s.heap.objs.size) := by rfl)
    (hpl : (backTo pos (starEach es (envF (supNF "__init__" q st cda cc) f s.heap.objs.size))).any (·.1) = false := by rfl)
    (he : eval (.Call (.Attribute (.Call (.Name "super" p0) [] [] p1) "__init__" apos) (e :: es) [] pos) (envF (supNF "__init__" q st cda cc) f s.heap.objs.size) = (do
      let ov ← attributeBase (.Call (.Name "super" p0) [] [] p1) "__init__" (envF (supNF "__init__" q st cda cc) f s.heap.objs.size) (eval (.Call (.Name "super" p0) [] [] p1) (envF (supNF "__init__" q st cda cc) f s.heap.objs.size))
      standAt apos.atName
      let (g, first) ← holding [ov] (getMethod ov "__init__" pl)
      callWith pos g first (backTo pos (starEach (e :: es) (envF (supNF "__init__" q st cda cc) f s.heap.objs.size))) []) := by rfl)
    (hi : interactive (envF (supNF "__init__" q st cda cc) f s.heap.objs.size) = false := by rfl)
    (hsw : swapsWith (.Call (.Attribute (.Call (.Name "super" p0) [] [] p1) "__init__" apos) (e :: es) [] pos) none pos'.line (envF (supNF "__init__" q st cda cc) f s.heap.objs.size) = pure false := by rfl) :
    PSA (ncx CX0 P w K mg base N (supNF "__init__" q st cda cc) f A outer s H E) body (.Expr (.Call (.Attribute (.Call (.Name "super" p0) [] [] p1) "__init__" apos) (e :: es) [] pos) pos') (tSup K D "__init__" f2 0 sp0 E0 ta) := by
  obtain ⟨fi, fdi, qi, Fi, hi0⟩ := hI
  have e2 : fi = f2 := by
    have := hi0.me.at_.symm.trans S.fat
    cases this
    rfl
  subst e2
  exact ps_sup (X := ncx CX0 P w K mg base N (supNF "__init__" q st cda cc) f A outer s H E) S.sf SW.p S.co S.cl SW.su SW.op hks hkc rfl rfl (by show List.lookup _ [(("__class__" : Str), cc)] = _; simp [List.lookup]) har hN hka hi0.ok hi0.bi S.fi S.ty hr hgd pass0 ha rfl hst hpl he hi hsw
inductive Ar where
  | nm (z : Str)
  | fm (q : Row)
  | it (i : Int)
def ArAt (CF : Addr) (H : Hp) (v : V) : Ar → Prop
  | .nm z => v = .str z ∧ nameS z = true
  | .fm q => FormAt CF H v q ∧ (textR q).length ≤ 300
  | .it i => v = .int i ∧ i.natAbs ≤ 10 ^ 39
def arT : Ar → Str
  | .nm z => z
  | .fm q => textR q
  | .it i => Str.ofString (toString i)
/-- the line of a statement -/
def lineS (k : Nat) (as : List Ar) : Str :=
  let a := fun i => arT (as.getD i (.nm ""))
  match k with
  | 0 => "let " ++ a 0 ++ " = " ++ a 1
  | 5 => "reverse " ++ a 0 ++ "[" ++ a 1 ++ "] (" ++ a 2 ++ ")"
  | 7 => "fill " ++ a 0 ++ "[" ++ a 1 ++ "] (" ++ a 2 ++ ") " ++ a 3
  | 8 => "resize " ++ a 0 ++ " (" ++ a 1 ++ ")"
  | k => stW k ++ " " ++ a 0 ++ "[" ++ a 1 ++ "] " ++ a 2 ++ "[" ++ a 3 ++ "] (" ++ a 4 ++ ")"
/-- which kinds of arguments a statement has -/
inductive Sig : Nat → List Ar → Prop
  | s0 (z : Str) (q : Row) : Sig 0 [.nm z, .fm q]
  | s1 (k : Nat) (h1 : 1 ≤ k) (h6 : k ≤ 6) (h5 : k ≠ 5) (z y : Str) (q r t : Row) : Sig k [.nm z, .fm q, .nm y, .fm r, .fm t]
  | s5 (z : Str) (q r : Row) : Sig 5 [.nm z, .fm q, .fm r]
  | s7 (z : Str) (q r : Row) (i : Int) : Sig 7 [.nm z, .fm q, .fm r, .it i]
  | s8 (z : Str) (q : Row) : Sig 8 [.nm z, .fm q]
structure StAt (CK : Nat → Addr) (CF : Addr) (H : Hp) (v : V) (k : Nat) (as : List Ar) : Prop where
  k9 : k < 9
  sg : Sig k as
  ex : ∃ a dx t vs, v = .ref a ∧ H a = some (.ins (CK k) dx ((stF k).zip vs ++ [(Str.ofString "lines", .ref t)])) ∧ Paired (ArAt CF H) vs as ∧ H t = some (.tup [.str (lineS k as)])
end G


namespace G
open PySem PySem.Spec PyProof.Rows L2 StX ClX LamX _root_.TL NdefX
theorem Sig.i0 {as : List Ar} (h : Sig 0 as) : ∃ z q, as = [.nm z, .fm q] := by
  cases h with
  | s0 z q => exact ⟨_, _, rfl⟩
  | s1 _ h1 _ _ => exact absurd h1 (by decide)
theorem Sig.i5 {as : List Ar} (h : Sig 5 as) : ∃ z q r, as = [.nm z, .fm q, .fm r] := by
  cases h with
  | s5 z q r => exact ⟨_, _, _, rfl⟩
  | s1 _ _ _ h5 => exact absurd rfl h5
theorem Sig.i7 {as : List Ar} (h : Sig 7 as) : ∃ z q r i, as = [.nm z, .fm q, .fm r, .it i] := by
  cases h with
  | s7 z q r i => exact ⟨_, _, _, _, rfl⟩
  | s1 _ _ h6 _ => exact absurd h6 (by decide)
theorem Sig.i8 {as : List Ar} (h : Sig 8 as) : ∃ z q, as = [.nm z, .fm q] := by
  cases h with
  | s8 z q => exact ⟨_, _, rfl⟩
  | s1 _ _ h6 _ => exact absurd h6 (by decide)
theorem Sig.i1 {k : Nat} {as : List Ar} (h : Sig k as) (h1 : 1 ≤ k) (h6 : k ≤ 6) (h5 : k ≠ 5) : ∃ z q y r t, as = [.nm z, .fm q, .nm y, .fm r, .fm t] := by
  cases h with
  | s0 z q => exact absurd h1 (by decide)
  | s1 _ _ _ _ => exact ⟨_, _, _, _, _, rfl⟩
  | s5 => exact absurd rfl h5
  | s7 => exact absurd h6 (by decide)
  | s8 => exact absurd h6 (by decide)
def spCkNm : Sp := fun vs H Q _ => ∃ z : Str, vs = [.str z] ∧ nameS z = true ∧ ∀ H', Same H H' → Q .non H'
def spStInit (CK : Nat → Addr) : Sp := fun vs H Q _ => ∃ (a t dx : Addr) (k : Nat) (fs : List (Str × V)), vs = [.ref a, .ref t] ∧ k < 9 ∧ H a = some (.ins (CK k) dx fs) ∧ fs.length ≤ 10 ∧ putF (Str.ofString "lines") (.ref t) fs = fs ++ [(Str.ofString "lines", .ref t)] ∧
  ∀ H', Rx [a] H H' → Same (fun b => if b = a then none else H b) H' → H' a = some (.ins (CK k) dx (fs ++ [(Str.ofString "lines", .ref t)])) → Q .non H'
def spIni (CK : Nat → Addr) (CF : Addr) (k : Nat) : Sp := fun vs H Q _ => ∃ (a dx : Addr) (ws : List V) (as : List Ar), vs = .ref a :: ws ∧ Sig k as ∧ Paired (ArAt CF H) ws as ∧ H a = some (.ins (CK k) dx []) ∧
  ∀ H', Rx [a] H H' → StAt CK CF H' (.ref a) k as → Q .non H'
theorem ArAt.nb {CF : Addr} {H H' : Hp} {v : V} {x : Ar} (n : Nb H H') (h : ArAt CF H v x) : ArAt CF H' v x := by
  cases x with
  | nm z => exact h
  | fm q => exact ⟨h.1.nb n, h.2⟩
  | it i => exact h
theorem ArAt.same {CF : Addr} {H H' : Hp} {v : V} {x : Ar} (n : Same H H') (h : ArAt CF H v x) : ArAt CF H' v x := by
  cases x with
  | nm z => exact h
  | fm q => exact ⟨h.1.same n, h.2⟩
  | it i => exact h
theorem StmC.naF {K : PySem.W.Frag} {mg : Str → Option Value} {ST IF : Addr} {CK : Nat → Addr} (f : StmC K mg ST IF CK) {i : Nat} (hi : i < 9) {x : Str} (h : x ∈ stF i) : NoAttr K (CK i) x := f.na i hi x (List.mem_append_left _ h)
theorem StmC.naL {K : PySem.W.Frag} {mg : Str → Option Value} {ST IF : Addr} {CK : Nat → Addr} (f : StmC K mg ST IF CK) {i : Nat} (hi : i < 9) : NoAttr K (CK i) "lines" := f.na i hi _ (List.mem_append_right _ (List.mem_singleton.mpr rfl))
end G


namespace G
open PySem PySem.Spec PyProof.Rows L2 StX ClX LamX _root_.TL NdefX
inductive RpI (C : Addr) (H : Hp) : V → Str → Prop where
  | str (z : Str) (l : (reprText z).length ≤ 100000) : RpI C H (.str z) (reprText z)
  | int (i : Int) (l : i.natAbs.log2 < 1920) (m : (Str.ofString (toString i)).length ≤ 100000) : RpI C H (.int i) (Str.ofString (toString i))
  | form {v : V} {q : Row} (h : FormAt C H v q) (l : (textR q).length ≤ 90000) : RpI C H v (reprR q)
def rReprLs (C : Addr) : RC := fun xs H Q => ∃ q vs ts, xs = [.ref q] ∧ H q = some (.lst vs) ∧ vs ≠ [] ∧ Paired (RpI C H) vs ts ∧ (listText ts).length ≤ 5000000 ∧ Q (.str (listText ts)) H
theorem Vals.ix : ∀ {vs : List V} {us : List Value} {i : Nat} {v : V}, Vals vs us → vs[i]? = some v → ∃ u, us[i]? = some u ∧ RelV v u
  | _, _, _, _, .nil, h => by simp at h
  | _, _, 0, _, .cons r _, h => by
    cases h
    exact ⟨_, rfl, r⟩
  | _, _, i + 1, _, .cons _ t, h => by
    obtain ⟨u, e, r⟩ := Vals.ix t (by simpa using h)
    exact ⟨u, by simpa using e, r⟩
section
variable {X : Cx} {C f : Addr} {pins : List (Addr × Obj)} {σ : L2.St} {H : Hp}
abbrev partsO (acc : Array Value) (c : Nat) : Obj := { cls := .type "list", data := .seq acc c }
/-- where the parts may stand -/
structure PartP (X : Cx) (pins : List (Addr × Obj)) (H : Hp) (P : Addr) : Prop where
  n : H P = none
  l : P ≠ X.env.locals
  fs : P ∉ X.fs
  ce : ∀ y c, X.env.cells.lookup y = some c → c ≠ P
  pn : ∀ p ∈ X.pn ++ pins, p.1 ≠ P
  sz : X.s_0.heap.objs.size ≤ P
theorem item_ls (h : Rpb X C f (spReprF C)) {s : Shared} {v : V} {u : Value} {t : Str} {P : Addr} {ob : Obj} (I : Inv X ((P, ob) :: pins) σ H s) (r : RelV v u) (rp : RpI C H v t) {b : Nat} (hb : b + t.length ≤ sizeLine) (args : Args) {Ex : Value → Shared → Prop} {G : Str → Shared → Prop}
    (k : ∀ s', Inv X ((P, ob) :: pins) σ H s' → G t s') : wpAny (model X.prog X.w) (X.A.in1.under (.builtin "list.__repr__.loop" args)) (pyReprUnder b u) G Ex s := by
  cases rp with
  | str z l =>
    obtain ⟨tk, rfl⟩ := r
    exact ReprIs.str z tk (by rw [sizeLine_eq]; omega) b hb _ _ _ _ fun tk' => k _ (I.tok tk')
  | int i l m =>
    obtain ⟨tk, rfl⟩ := r
    exact ReprIs.int tk l b hb _ _ _ _ fun tk' => k _ (I.tok tk')
  | @form _ q fa l =>
    obtain ⟨a, dx, tt, y, xs', rfl, fi⟩ := id fa
    obtain rfl : u = Value.ref a := r
    refine item_run (R := fun z H' => z = reprR q ∧ H' = H) h.me (h.rl _) (by rw [units_under_list_loop]; show X.A.units + 1 + 1 < cLine; have := h.un; omega) I fi.ins ⟨_, q, rfl, fa, by omega, _, rfl, rfl, rfl⟩ (by omega) ?_
    rintro z H' s' I' ⟨rfl, rfl⟩
    exact k s' I'
theorem loop_ls (h : Rpb X C f (spReprF C)) {q P : Addr} {vs : List V} {ts : List Str} (hq : H q = some (.lst vs)) (pr : Paired (RpI C H) vs ts) (hsz : (listText ts).length ≤ 5000000) (pp : PartP X pins H P) {R : Result → Shared → Prop}
    (hR : ∀ s' u, Inv X pins σ H s' → R (.ok (.ret (.str (listText ts) u))) s') :
    ∀ (m i : Nat) (s : Shared) (acc : Array Value) (c : Nat) (done : List (Str × Tok)), vs.length - i = m → i ≤ vs.length → Inv X pins σ H s → s.heap.get? P = some (partsO acc c) → acc.toList = strValues done → done.map (·.1) = ts.take i →
    codeAny (model X.prog X.w) X.A.in1 (.builtin "list.__repr__.loop" ⟨[.ref q, rawInt i, .ref P, rawInt ((piled (ts.take i) : Nat) : Int)], []⟩) R s := by
  have lt := paired_len pr
  have hp3 := piled_le_listText ts
  have lp : 2 * ts.length ≤ piled ts := by
    clear hp3 hsz pr lt hR
    induction ts with
    | nil => simp
    | cons t ts ih => rw [piled_cons, List.length_cons]; omega
  intro m
  induction m with
  | zero =>
    intro i s acc c done hm hi I hP hacc hdone
    obtain ⟨_, its, n, rv, ho⟩ := I.hok _ _ hq
    have hl := rv.length
    have ei : i = vs.length := by omega
    refine codeAny_builtin F.entry_list_repr_loop ?_
    show wpAny _ _ (Builtin.«list.__repr__.loop» ⟨[.ref q, .int i 0, .ref P, .int _ 0], []⟩) _ _ _
    rw [repr_loop_tree]
    refine wpAny_bind (wpAny_listItems ho rfl ?_)
    have no : its.toArray[(i : Int).toNat]? = none := by
      rw [Int.toNat_natCast, List.getElem?_toArray]
      exact List.getElem?_eq_none (by omega)
    simp only [no]
    unfold reprEnd
    refine wpAny_bind (wpAny_listItems hP rfl ?_)
    rw [hacc, repr_fold]
    refine wpAny_bind (wpAny_pure ?_)
    have all : done.map (·.1) = ts := by rw [hdone, ei, lt, List.take_length]
    rw [all]
    refine wpAny_bind (wpAny_mkStr (wpAny_pure ?_) (by show (listText ts).length ≤ _; rw [sizeLine_eq]; omega))
    exact hR _ _ (I.tok _)
  | succ m ih =>
    intro i s acc c done hm hi I hP hacc hdone
    obtain ⟨_, its, n, rv, ho⟩ := I.hok _ _ hq
    have hl := rv.length
    have iv : i < vs.length := by omega
    obtain ⟨t, ht, rp⟩ := G.paired_get pr (List.getElem?_eq_getElem iv)
    obtain ⟨u, hu, ru⟩ := Vals.ix rv (List.getElem?_eq_getElem iv)
    have tl : t.length ≤ 5000000 := Nat.le_trans (listText_mem_le (List.mem_of_getElem? ht)) hsz
    have pt := piled_take_le ts i
    refine codeAny_builtin F.entry_list_repr_loop ?_
    show wpAny _ _ (Builtin.«list.__repr__.loop» ⟨[.ref q, .int i 0, .ref P, .int _ 0], []⟩) _ _ _
    rw [repr_loop_tree]
    refine wpAny_bind (wpAny_listItems ho rfl ?_)
    have so : its.toArray[(i : Int).toNat]? = some u := by
      rw [Int.toNat_natCast, List.getElem?_toArray]
      exact hu
    simp only [so]
    rw [Int.toNat_natCast]
    have I1 : Inv X ((P, partsO acc c) :: pins) σ H s := I.pins_of fun p hp => by
      rcases List.mem_cons.mp hp with rfl | hp
      · exact ⟨hP, pp.n, pp.l, pp.fs, fun v z => nomatch z⟩
      · exact I.pin p (List.mem_append_right _ hp)
    refine wpAny_bind (wpAny_holding (item_ls h I1 ru rp (by rw [sizeLine_eq]; omega) _ fun s' I' => ?_))
    refine wpAny_bind (wpAny_mkStr ?_ (by rw [sizeLine_eq]; omega))
    refine wpAny_bind ?_
    have hP' : s'.heap.get? P = some (partsO acc c) := (I'.pin (P, partsO acc c) (List.mem_append.mpr (.inr List.mem_cons_self))).1
    show wpAny _ _ (updateSeq P _) _ _ _
    have asz : acc.size ≤ 5000000 := by
      have e1 : acc.toList.length = done.length := by rw [hacc]; simp [strValues]
      have e2 : done.length = (ts.take i).length := by rw [← hdone, List.length_map]
      rw [List.length_take] at e2
      have e3 : acc.toList.length = acc.size := Array.length_toList
      omega
    refine wpAny_updateSeq hP' rfl (wpAny_pure ⟨F.quiet_list_repr_loop _, ?_⟩) (by rw [sizeLine_eq]; omega)
    have Ib : Inv X pins σ H s' := I'.pins_of fun p hp => I'.pin p (List.mem_append_right _ (List.mem_cons_of_mem _ hp))
    generalize hhU : s'.heap.update P (Obj.mapSeq fun x => x.push (Value.str t s'.toks)) = hU
    have atP : ∃ c2, hU.get? P = some (partsO (acc.push (Value.str t s'.toks)) c2) := by
      rw [← hhU]
      exact ⟨_, Heap.get?_update_self (Obj.mapSeq fun x => x.push (Value.str t s'.toks)) hP' rfl⟩
    obtain ⟨c2, atP⟩ := atP
    have oth : ∀ b o, b ≠ P → s'.heap.get? b = some o → hU.get? b = some o := fun b o ne e => by
      rw [← hhU]
      exact (Heap.get?_update_other _ _ (fun h : P = b => ne h.symm)).trans e
    have I3 : Inv X pins σ H { s' with heap := hU, toks := s'.toks + 1 } := Ib.turned (it := P) oth pp.n pp.l (.inr pp.sz) pp.ce pp.pn
    have e1 : ((i : Int) + 1) = ((i + 1 : Nat) : Int) := by omega
    have e2 : piled (ts.take i) + (t.length + 2) = piled (ts.take (i + 1)) := (piled_take_succ ht).symm
    rw [e1, e2]
    exact ih (i + 1) _ (acc.push (.str t s'.toks)) c2 (done ++ [(t, s'.toks)]) (by omega) (by omega) I3 atP (by simp [hacc, strValues]) (by rw [List.map_append, hdone, take_snoc ht]; rfl)
theorem callLs {X : Cx} {C : Addr} (K : PySem.W.Frag) (h0 : ∃ f, Rpb X C f (spReprF C)) (hgd : Gd X.A) : CallR X (.builtin "repr") (rReprLs C) := by
  obtain ⟨f, h⟩ := h0
  have hun := h.un
  intro pins s σ H xs us Q I r hh
  obtain ⟨q, vs, ts, rfl, hq, ne, pr, hsz, hQ⟩ := hh
  cases r with
  | cons r0 rr =>
  cases rr
  obtain rfl : _ = Value.ref q := r0
  obtain ⟨_, its, n, rv, ho⟩ := I.hok _ _ hq
  obtain ⟨x, l, rfl⟩ : ∃ x l, its = x :: l := by
    cases rv with
    | nil => exact absurd rfl ne
    | cons _ _ => exact ⟨_, _, rfl⟩
  have hg1 : X.A.in1.guards = some [] := hgd.in1 rfl
  refine call_repr_slot (by omega) ⟨_, ho, rfl⟩ F.slot_list_repr.toG ?_
  refine wpAny_call (codeAny_call_builtin F.slot_list_repr.plain F.entry_list_repr (F.slot_list_repr.check _ _ _ _ _ _ _ _ ⟨_, ho, rfl⟩ (F.args_list_repr_1 _) ?_))
  show wpAny _ _ (Builtin.listReprAt 0 ⟨[.ref q], []⟩) _ _ s
  refine wpAny_list_repr_head hg1 (fun v rest kw hm => nomatch hm) ho rfl ?_
  refine wpAny_bind (m := newList []) (wpAny_newObj_type ?_)
  refine wpAny_pure ⟨F.quiet_list_repr_loop _, ?_⟩
  have kpt : ∀ b o, s.heap.get? b = some o → (s.heap.push (partsO #[] 0)).get? b = some o := fun b o e => Heap.get?_push_of_some _ e
  have pp : PartP X pins H s.heap.objs.size := ⟨I.hok.fresh (Nat.le_refl _), Nat.ne_of_gt I.lt, I.nofs (Nat.le_refl _), fun y c ec z => by
    obtain ⟨v, o, ho', _⟩ := I.cell y c ec
    exact absurd (Heap.lt_size ho') (by rw [z]; exact Nat.lt_irrefl _), fun p hp z => by
    have := (I.pin p hp).1
    exact absurd (Heap.lt_size this) (by rw [z]; exact Nat.lt_irrefl _), I.sz⟩
  have I0 : Inv X pins σ H { s with heap := s.heap.push (partsO #[] 0), toks := s.toks } := I.kept kpt
  refine loop_ls h hq pr hsz pp ?_ _ 0 _ #[] 0 [] rfl (Nat.zero_le _) I0 (Heap.get?_push_size _ rfl) rfl (by simp)
  intro s' u I'
  exact ⟨_, _, rfl, .str _, H, I', ⟨_, rfl⟩, hQ⟩
end
end G


namespace G
open PySem PySem.Spec PyProof.Rows L2 StX ClX LamX _root_.TL NdefX
theorem sub_bt {K : PySem.W.Frag} {C : Addr} : ∀ T ∈ tysB, PySem.W.subIn K (.type T) (.ref C) = some false := by
  intro T hT
  simp only [tysB, List.mem_cons, List.not_mem_nil, or_false] at hT
  rcases hT with rfl | rfl | rfl | rfl | rfl | rfl | rfl <;> rfl
inductive TyW (K : PySem.W.Frag) (CK : Nat → Addr) (n : Nat) (H : Hp) : V → Prop
  | own {a : Addr} {i : Nat} (h : InsD CK n H a i) : TyW K CK n H (.ref a)
  | bt {v : V} {T : String} (m : T ∈ tysB) (k : KindT K H v T) : TyW K CK n H v
/-- which one's method comes first -/
def Fst (K : PySem.W.Frag) (CK : Nat → Addr) (i j : Nat) : Prop := PySem.W.notFirst K (CK i) (.ref (CK j)) = true ∨ (CK j ≠ CK i ∧ PySem.W.subIn K (.ref (CK j)) (.ref (CK i)) = some true)
section
variable {prog : Program} {w : World} {A : Around} {E : Value → Shared → Prop} {s : Shared} {K : PySem.W.Frag} {x y C D L f : Addr} {h₀ : Heap} {m : Str → Option Value} {ox oy : Obj} {od od2 : Option Obj}
theorem first_K {op : CmpOp} {Q : Value → Shared → Prop} (hu : A.units < cLine) (F : Fr h₀ L s.heap m) (X₀ : K.In h₀) (I : PySem.W.InstAt s.heap x ox C od) (I2 : PySem.W.InstAt s.heap y oy D od2) (ne : D ≠ C) (sub : PySem.W.subIn K (.ref D) (.ref C) = some true)
    (one : wpAny (model prog w) A (tryCompare (.ref y) (cmpInfo op).2.2 (.ref x)) (fun r s' => ∃ v, r = some v ∧ Q v s') E s) : wpAny (model prog w) A (richCompare op (.ref x) (.ref y)) Q E s := by
  have X := X₀.keeps F.keep
  unfold richCompare
  simp only [oneThing_ref]
  refine wpAny_holding (wpAny_bind (wpAny_cRoomFor hu ?_))
  refine wpAny_bind (I.type.here (wpAny_bind (I2.type.here ?_)))
  have q : (Value.ref C != Value.ref D) = true := by
    simp only [bne_iff_ne]
    intro z
    cases z
    exact ne rfl
  rw [if_pos q]
  refine wpAny_bind ((PySem.W.looks_subIn X sub).here ?_)
  simp only [if_true]
  refine wpAny_bind (wpAny_mono one (fun r s' z => ?_) fun _ _ e => e)
  obtain ⟨v, rfl, hq⟩ := z
  exact wpAny_bind (wpAny_rule (wpAny_pure hq))
theorem cmpF_K {Q : Value → Shared → Prop} (hu : A.units < cLine) (F : Fr h₀ L s.heap m) (X₀ : K.In h₀) (I : PySem.W.InstAt s.heap x ox C od) (I2 : PySem.W.InstAt s.heap y oy D od2) (ne : D ≠ C) (sub : PySem.W.subIn K (.ref D) (.ref C) = some true)
    (hs : PySem.W.findIn K (.ref D) "__eq__" = some (some (.ref f))) (hf : PySem.W.isFn K (.ref f) = true)
    (h : wpAny (model prog w) A (call (.ref f) [.ref y, .ref x]) (PySem.W.CmpBack Q) E s) : wpAny (model prog w) A (richCompare .Eq (.ref x) (.ref y)) Q E s := by
  refine first_K hu F X₀ I I2 ne sub ?_
  have X := X₀.keeps F.keep
  show wpAny _ _ (tryCompare (.ref y) (Str.ofString "__eq__") (.ref x)) _ _ _
  unfold tryCompare
  refine wpAny_bind (PySem.W.ifBound_K X I2 hs hf (wpAny_mono h (fun v s' hv => ?_) fun _ _ e => e))
  cases v <;> first | exact hv.elim | exact wpAny_pure ⟨_, rfl, hv⟩
theorem neF_K {Q : Value → Shared → Prop} (hu : A.units + 1 < cLine) (F : Fr h₀ L s.heap m) (X₀ : K.In h₀) (I : PySem.W.InstAt s.heap x ox C od) (I2 : PySem.W.InstAt s.heap y oy D od2) (ne : D ≠ C) (sub : PySem.W.subIn K (.ref D) (.ref C) = some true)
    (hne : PySem.W.findIn K (.ref D) "__ne__" = some (some (.builtin "object.__ne__"))) (hs : PySem.W.findIn K (.ref D) "__eq__" = some (some (.ref f))) (hf : PySem.W.isFn K (.ref f) = true) (hm : PySem.W.mroIn K D (.type "object") = some true)
    (h : wpAny (model prog w) A.in1 (call (.ref f) [.ref y, .ref x]) (fun v s' => ∃ k, v = .bool k ∧ Q (.bool (!k)) s') E s) : wpAny (model prog w) A (richCompare .NotEq (.ref x) (.ref y)) Q E s := by
  refine first_K (Nat.lt_of_succ_lt hu) F X₀ I I2 ne sub ?_
  have X := X₀.keeps F.keep
  rw [show (cmpInfo CmpOp.NotEq).2.2 = Str.ofString "__ne__" from by rw [cmpInfo_NotEq]]
  unfold tryCompare
  refine wpAny_bind (ifBound_objNe X I2 hne (wpAny_call (codeAny_call_builtin PySem.F.cmp_object.ne.plain PySem.F.cmpEntry_ne (PySem.W.check_slot PySem.F.cmpKind_ne PySem.F.cmpSplit_ne (I2.type.andThen (PySem.W.looks_mroIn X hm)) (PySem.F.cmpArgs_ne _ _)
    (entry_ne (A := A.in1) hu X I2 hs hf (wpAny_mono h (fun v s' hv => ?_) fun _ _ e => e))))))
  obtain ⟨k, rfl, hq⟩ := hv
  first | exact ⟨k, rfl, _, rfl, hq⟩ | exact ⟨k, rfl, wpAny_pure ⟨_, rfl, hq⟩⟩ | exact ⟨k, rfl, wpAny_pure (wpAny_pure ⟨_, rfl, hq⟩)⟩
end
def rEqE (K : PySem.W.Frag) (CK : Nat → Addr) (n : Nat) (sp : Nat → Sp) : R2 := fun x y H Q => ∃ a i, x = .ref a ∧ InsD CK n H a i ∧ TyW K CK n H y ∧ sp i [.ref a, y] H Q E0
def rNeE (K : PySem.W.Frag) (CK : Nat → Addr) (n : Nat) (sp : Nat → Sp) : R2 := fun x y H Q => ∃ a i, x = .ref a ∧ InsD CK n H a i ∧ TyW K CK n H y ∧ sp i [.ref a, y] H (fun v H' => ∃ b, v = .bl b ∧ Q (.bl (!b)) H') E0
section
variable {X : Cx} {k n : Nat} {CK : Nat → Addr} {ps : List Str} {sp : Nat → Sp}
theorem eqE (K : PySem.W.Frag) (h : HasD X.prog X.w X.K X.mg X.base CK n "__eq__" ps k sp) (nf : ∀ i j, i < n → j < n → Fst X.K CK i j) (hsw : ∀ (i j : Nat) (a b : Addr) (H : Hp) (Q : VK), InsD CK n H b j → sp i [.ref a, .ref b] H Q E0 → ∃ j', j' < n ∧ CK j' = CK j ∧ sp j' [.ref b, .ref a] H Q E0) (hr : Room k X.A) (hgd : Gd X.A) (hk : X.K = K := by rfl) : OpR X (compareOp .Eq) (rEqE K CK n sp) := by
  subst hk
  intro pins s σ H x y v u Q I rx ry hq
  obtain ⟨a, i, rfl, ⟨hi, dx, fs, ha⟩, ty, hq⟩ := hq
  cases rx
  obtain ⟨ox, od, J, _⟩ := insC_at I (.inr ⟨dx, fs, ha⟩)
  obtain ⟨m, Fr⟩ := I.fr
  apply PySem.W.cmp_ofEq
  have plain : ∀ tb, PySem.W.Looks (model X.prog X.w) s.heap (typeOf u) tb → PySem.W.notFirst X.K (CK i) tb = true → wpAny (model X.prog X.w) X.A (richCompare .Eq (.ref a) u) _ _ s := fun tb lk nf => by
    obtain ⟨f, fd, hm⟩ := h i hi
    refine PySem.W.cmp_K (op := .Eq) (tb := tb) hr.units0 Fr I.ok.mod.kin J lk nf hm.me.at_ hm.me.fn ?_
    refine thn (runG (us := [.ref a, u]) (vs' := [.ref a, y]) (us' := [.ref a, u]) hm.ok hr hgd pass0 I (fun hl => ?_) (.cons rfl (.cons ry .nil)) hq) fun r s' q => RelV.back q
    have := hm.bi s [.ref a, u] I.kIn (by simpa using hl)
    simpa using this
  cases ty with
  | @bt _ T m kd => exact plain _ (kd.at I ry) (by unfold PySem.W.notFirst; rw [sub_bt T m]; rfl)
  | @own b j e =>
    cases ry
    obtain ⟨hj, dy, gs, e⟩ := id e
    obtain ⟨oy, oe, J2, _⟩ := insC_at I (.inr ⟨_, _, e⟩)
    rcases nf i j hi hj with g | ⟨ne, sub⟩
    · exact plain _ J2.type g
    · obtain ⟨j', hj', ej, hq'⟩ := hsw i j a b H _ ⟨hj, dy, gs, e⟩ hq
      obtain ⟨f, fd, hm⟩ := h j' hj'
      have hma := hm.me.at_
      rw [ej] at hma
      refine cmpF_K hr.units0 Fr I.ok.mod.kin J J2 ne sub hma hm.me.fn ?_
      refine thn (runG (us := [.ref b, .ref a]) (vs' := [.ref b, .ref a]) (us' := [.ref b, .ref a]) hm.ok hr hgd pass0 I (fun hl => ?_) (.cons rfl (.cons rfl .nil)) hq') fun r s' q => RelV.back q
      have := hm.bi s [.ref b, .ref a] I.kIn (by simpa using hl)
      simpa using this
theorem neE (K : PySem.W.Frag) (h : HasD X.prog X.w X.K X.mg X.base CK n "__eq__" ps k sp) (nf : ∀ i j, i < n → j < n → Fst X.K CK i j) (hsw : ∀ (i j : Nat) (a b : Addr) (H : Hp) (Q : VK), InsD CK n H b j → sp i [.ref a, .ref b] H Q E0 → ∃ j', j' < n ∧ CK j' = CK j ∧ sp j' [.ref b, .ref a] H Q E0) (hne : ∀ i, i < n → PySem.W.findIn X.K (.ref (CK i)) "__ne__" = some (some (.builtin "object.__ne__"))) (hob : ∀ i, i < n → PySem.W.mroIn X.K (CK i) (.type "object") = some true) (hr : Room (k + 1) X.A) (hgd : Gd X.A) (hk : X.K = K := by rfl) : OpR X (compareOp .NotEq) (rNeE K CK n sp) := by
  subst hk
  intro pins s σ H x y v u Q I rx ry hq
  obtain ⟨a, i, rfl, ⟨hi, dx, fs, ha⟩, ty, hq⟩ := hq
  cases rx
  obtain ⟨ox, od, J, _⟩ := insC_at I (.inr ⟨dx, fs, ha⟩)
  obtain ⟨m, Fr⟩ := I.fr
  have h1 : Room k X.A.in1 := hr.in1
  apply PySem.W.cmp_ofNotEq
  have run : ∀ (i : Nat) (hi : i < n) (f : Addr) (fd : FuncData) (hm : HasM0 X.prog X.w X.K X.mg X.base (CK i) "__eq__" ps k (sp i) f fd) (a : Addr) (y : V) (u : Value), RelV y u → sp i [.ref a, y] H (fun v H' => ∃ b, v = .bl b ∧ Q (.bl (!b)) H') E0 →
      wpAny (model X.prog X.w) X.A.in1 (call (.ref f) [.ref a, u]) (fun v s' => ∃ k, v = .bool k ∧ EP X pins σ Q (.bool (!k)) s') X.xe s := fun i hi f fd hm a y u ry hq => by
    have hl : [V.ref a, y].length = ps.length := hm.ok.len _ _ _ _ hq
    have bb := hm.bi s [.ref a, u] I.kIn (by simpa using hl)
    refine wpAny_call (codeAny_mono (hm.ok.go X.A.in1 X.stack s H ⟨[.ref a, u], []⟩ [.ref a, u] [.ref a, y] _ E0 h1 hgd.in1 I.env0.in1 (by simpa using bb) (.cons rfl (.cons ry .nil)) hq) fun rs s' hq' => ?_)
    cases rs with
    | error e => exact pass0 pins σ H s e s' I hq'
    | ok fl => cases fl with
      | ret u =>
        obtain ⟨v, H', I3, rv, b, hz, q3⟩ := I.after hq'
        subst hz
        cases rv
        exact ⟨b, rfl, .bl (!b), H', I3, rfl, q3⟩
      | next => exact hq'.elim
      | brk => exact hq'.elim
      | cont => exact hq'.elim
  have plain : ∀ tb, PySem.W.Looks (model X.prog X.w) s.heap (typeOf u) tb → PySem.W.notFirst X.K (CK i) tb = true → wpAny (model X.prog X.w) X.A (richCompare .NotEq (.ref a) u) _ _ s := fun tb lk nf => by
    obtain ⟨f, fd, hm⟩ := h i hi
    exact ne_K (tb := tb) h1.units0 Fr I.ok.mod.kin J lk nf (hne i hi) hm.me.at_ hm.me.fn (hob i hi) (run i hi f fd hm a y u ry hq)
  cases ty with
  | @bt _ T m kd => exact plain _ (kd.at I ry) (by unfold PySem.W.notFirst; rw [sub_bt T m]; rfl)
  | @own b j e =>
    cases ry
    obtain ⟨hj, dy, gs, e⟩ := id e
    obtain ⟨oy, oe, J2, _⟩ := insC_at I (.inr ⟨_, _, e⟩)
    rcases nf i j hi hj with g | ⟨ne, sub⟩
    · exact plain _ J2.type g
    · obtain ⟨j', hj', ej, hq'⟩ := hsw i j a b H _ ⟨hj, dy, gs, e⟩ hq
      obtain ⟨f, fd, hm⟩ := h j' hj'
      have hma := hm.me.at_
      rw [ej] at hma
      exact neF_K h1.units0 Fr I.ok.mod.kin J J2 ne sub (by rw [← ej]; exact hne j' hj') hma hm.me.fn (by rw [← ej]; exact hob j' hj') (run j' hj' f fd hm b (.ref a) (.ref a) rfl hq')
end
theorem StAt.ins {CK : Nat → Addr} {CF : Addr} {H : Hp} {v : V} {k : Nat} {as : List Ar} (h : StAt CK CF H v k as) : ∃ a, v = .ref a ∧ InsD CK 9 H a k := by
  obtain ⟨a, dx, t, vs, e, ha, _⟩ := h.ex
  exact ⟨a, e, h.k9, dx, _, ha⟩
theorem StAt.same {CK : Nat → Addr} {CF : Addr} {H H' : Hp} {v : V} {k : Nat} {as : List Ar} (r : Same H H') (h : StAt CK CF H v k as) : StAt CK CF H' v k as := by
  obtain ⟨a, dx, t, vs, e, ha, pr, ht⟩ := h.ex
  exact ⟨h.k9, h.sg, a, dx, t, vs, e, r _ _ ha, paired_mono (fun _ _ z => z.same r) pr, r _ _ ht⟩
theorem lookup_zip {β : Type} : ∀ {ks : List Str} {vs : List β} {r : List (Str × β)} {x : Str}, x ∉ ks → (ks.zip vs ++ r).lookup x = r.lookup x
  | [], vs, r, x, _ => by simp
  | k :: ks, [], r, x, _ => by simp
  | k :: ks, v :: vs, r, x, h => by
    have h1 : (x == k) = false := by simpa using fun z => h (by rw [z]; exact List.mem_cons_self)
    rw [List.zip_cons_cons, List.cons_append, List.lookup_cons, h1]
    exact lookup_zip fun z => h (List.mem_cons_of_mem _ z)
theorem lines_no : ∀ k, Str.ofString "lines" ∉ stF k := by
  intro k
  unfold stF
  split <;> decide +kernel
theorem lines_at {k : Nat} {vs : List V} {t : V} : ((stF k).zip vs ++ [(Str.ofString "lines", t)]).lookup (Str.ofString "lines") = some t := by
  rw [lookup_zip (lines_no k)]
  simp [List.lookup]
def spStrS (CK : Nat → Addr) (CF : Addr) (i : Nat) : Sp := fun vs H Q _ => ∃ (v : V) (as : List Ar), vs = [v] ∧ StAt CK CF H v i as ∧ (lineS i as).length ≤ 3000 ∧ Q (.str (lineS i as)) H
def stR (z : Str) : Str := Str.ofString "Statement(" ++ z ++ ")"
def spReprS (CK : Nat → Addr) (CF : Addr) (i : Nat) : Sp := fun vs H Q _ => ∃ (v : V) (as : List Ar), vs = [v] ∧ StAt CK CF H v i as ∧ (lineS i as).length ≤ 3000 ∧ Q (.str (stR (lineS i as))) H
def spEqS (K : PySem.W.Frag) (CK : Nat → Addr) (CF : Addr) (i : Nat) : Sp := fun vs H Q _ => ∃ (v y : V) (as : List Ar), vs = [v, y] ∧ StAt CK CF H v i as ∧
  ((∃ j bs, StAt CK CF H y j bs ∧ Q (.bl (decide (lineS i as = lineS j bs))) H) ∨ (∃ T ∈ tysB, KindT K H y T ∧ Q (.bl false) H))
/-- isinstance(v, Statement) of a built-in thing -/
theorem StmC.isB {K : PySem.W.Frag} {mg : Str → Option Value} {ST IF : Addr} {CK : Nat → Addr} {H : Hp} {Q : VK} {v : V} {T : String} (f : StmC K mg ST IF CK) (m : T ∈ tysB) (k : KindT K H v T) (h : Q (.bl false) H) : rIsi K [v, .ref ST] H Q := by
  have sb := f.sb T m
  cases k with
  | non => exact ⟨_, _, _, _, _, rfl, .own ST, .base .non, kit_no f.ic f.ty sb, h⟩
  | @bl b => exact ⟨_, _, _, _, _, rfl, .own ST, .base (.bl b), kit_no f.ic f.ty sb, h⟩
  | @int i => exact ⟨_, _, _, _, _, rfl, .own ST, .base (.int i), kit_no f.ic f.ty sb, h⟩
  | @str z => exact ⟨_, _, _, _, _, rfl, .own ST, .base (.str z), kit_no f.ic f.ty sb, h⟩
  | lst e => exact ⟨_, _, _, _, _, rfl, .own ST, .base (.lst e), kit_no f.ic f.ty sb, h⟩
  | tup e => exact ⟨_, _, _, _, _, rfl, .own ST, .base (.tup e), kit_no f.ic f.ty sb, h⟩
  | dK e => exact ⟨_, _, _, _, _, rfl, .own ST, .base (.dK e), kit_no f.ic f.ty sb, h⟩
theorem eqS_sw {K : PySem.W.Frag} {CK : Nat → Addr} {CF : Addr} (i j : Nat) (a b : Addr) (H : Hp) (Q : VK) (h : InsD CK 9 H b j) (s : spEqS K CK CF i [.ref a, .ref b] H Q E0) : ∃ j', j' < 9 ∧ CK j' = CK j ∧ spEqS K CK CF j' [.ref b, .ref a] H Q E0 := by
  obtain ⟨v, y, as, e, st, k⟩ := s
  cases e
  obtain ⟨hj, dy, gs, eb⟩ := h
  rcases k with ⟨j', bs, st2, k⟩ | ⟨T, m, kd, k⟩
  · obtain ⟨_, e2, h9, dx, fs, e3⟩ := st2.ins
    cases e2
    have ej : CK j' = CK j := by
      rw [eb] at e3
      injection e3 with e3
      injection e3 with e3
      exact e3.symm
    refine ⟨j', h9, ej, _, _, bs, rfl, st2, .inl ⟨i, as, st, ?_⟩⟩
    have : decide (lineS j' bs = lineS i as) = decide (lineS i as = lineS j' bs) := Bool.eq_iff_iff.mpr (by simp [eq_comm])
    rw [this]
    exact k
  · cases kd <;> (rename_i e; rw [eb] at e; cases e)
theorem s_eqT1 {K : PySem.W.Frag} {H : Hp} {Q : VK} {a b : Addr} {x y : Str} (h1 : H a = some (.tup [.str x])) (h2 : H b = some (.tup [.str y])) (h : Q (.bl (decide (x = y))) H) : rEqP K (.ref a) (.ref b) H Q := by
  refine ⟨.tuple [.str x], .tuple [.str y], .tup (SqT.of h1) (.cons (.str _) .nil), .tup (SqT.of h2) (.cons (.str _) .nil), rfl, rfl, by simp [PyData.depth, PyData.depthAll], ?_⟩
  have e : PyData.eqv (.tuple [.str x]) (.tuple [.str y]) = decide (x = y) := by
    simp only [PyData.eqv, PyData.eqvAll, Bool.and_true]
    exact Bool.eq_iff_iff.mpr (by simp)
  rw [e]
  exact h
end G


namespace G
open PySem PySem.Spec PyProof.Rows L2 StX ClX LamX _root_.TL NdefX
theorem app_as (a b c : Str) : a ++ b ++ c = a ++ (b ++ c) := ext_tl (by simp only [tl_append, List.append_assoc])
theorem split_hd {w r : Str} (h : 32 ∉ tl w) : ∃ ws, Txt.split (w ++ Str.ofString " " ++ r) (Str.ofString " ") = w :: ws := by
  have e := split_spl (w ++ Str.ofString " " ++ r) (Str.ofString " ") (by rw [show tl (Str.ofString " ") = [32] by decide +kernel]; simp) (kind_ok (by decide +kernel))
  rw [show tl (Str.ofString " ") = [32] by decide +kernel, tl_append, tl_append, show tl (Str.ofString " ") = [32] by decide +kernel, List.append_assoc] at e
  have e2 : spl [32] 0 [] (tl w ++ ([32] ++ tl r)) = ([] ++ tl w) :: spl [32] 0 [] (tl r) := spl_part1 h
  rw [e2] at e
  cases hs : Txt.split (w ++ Str.ofString " " ++ r) (Str.ofString " ") with
  | nil => rw [hs] at e; cases e
  | cons x xs =>
    rw [hs, List.map_cons] at e
    injection e with e1 e3
    exact ⟨xs, by rw [ext_tl (show tl x = tl w by rw [e1]; rfl)]⟩
theorem lineS_hd {k : Nat} (k9 : k < 9) (as : List Ar) : ∃ r, lineS k as = stW k ++ Str.ofString " " ++ r := by
  have hk : k = 0 ∨ k = 1 ∨ k = 2 ∨ k = 3 ∨ k = 4 ∨ k = 5 ∨ k = 6 ∨ k = 7 ∨ k = 8 := by omega
  rcases hk with rfl | rfl | rfl | rfl | rfl | rfl | rfl | rfl | rfl
  · refine ⟨arT (as.getD 0 (.nm "")) ++ " = " ++ arT (as.getD 1 (.nm "")), ?_⟩
    show Str.ofString "let " ++ _ ++ _ ++ _ = _
    rw [show Str.ofString "let " = stW 0 ++ Str.ofString " " by decide +kernel]
    simp only [app_as]
  iterate 4
    · refine ⟨arT (as.getD 0 (.nm "")) ++ "[" ++ arT (as.getD 1 (.nm "")) ++ "] " ++ arT (as.getD 2 (.nm "")) ++ "[" ++ arT (as.getD 3 (.nm "")) ++ "] (" ++ arT (as.getD 4 (.nm "")) ++ ")", ?_⟩
      unfold lineS
      simp only [app_as]
  · refine ⟨arT (as.getD 0 (.nm "")) ++ "[" ++ arT (as.getD 1 (.nm "")) ++ "] (" ++ arT (as.getD 2 (.nm "")) ++ ")", ?_⟩
    show Str.ofString "reverse " ++ _ ++ _ ++ _ ++ _ ++ _ ++ _ = _
    rw [show Str.ofString "reverse " = stW 5 ++ Str.ofString " " by decide +kernel]
    simp only [app_as]
  · refine ⟨arT (as.getD 0 (.nm "")) ++ "[" ++ arT (as.getD 1 (.nm "")) ++ "] " ++ arT (as.getD 2 (.nm "")) ++ "[" ++ arT (as.getD 3 (.nm "")) ++ "] (" ++ arT (as.getD 4 (.nm "")) ++ ")", ?_⟩
    unfold lineS
    simp only [app_as]
  · refine ⟨arT (as.getD 0 (.nm "")) ++ "[" ++ arT (as.getD 1 (.nm "")) ++ "] (" ++ arT (as.getD 2 (.nm "")) ++ ") " ++ arT (as.getD 3 (.nm "")), ?_⟩
    show Str.ofString "fill " ++ _ ++ _ ++ _ ++ _ ++ _ ++ _ ++ _ = _
    rw [show Str.ofString "fill " = stW 7 ++ Str.ofString " " by decide +kernel]
    simp only [app_as]
  · refine ⟨arT (as.getD 0 (.nm "")) ++ " (" ++ arT (as.getD 1 (.nm "")) ++ ")", ?_⟩
    show Str.ofString "resize " ++ _ ++ _ ++ _ ++ _ = _
    rw [show Str.ofString "resize " = stW 8 ++ Str.ofString " " by decide +kernel]
    simp only [app_as]
theorem stW_ok : ∀ k, 32 ∉ tl (stW k) ∧ (stW k).length ≤ 10 := by
  intro k
  unfold stW
  split <;> decide +kernel
theorem line_split {k : Nat} (k9 : k < 9) (as : List Ar) : ∃ ws, Txt.split (lineS k as) (Str.ofString " ") = stW k :: ws := by
  obtain ⟨r, e⟩ := lineS_hd k9 as
  rw [e]
  exact split_hd (stW_ok k).1
/-- the ten statements -/
def tenS (z y : Str) (e g a : Row) (i : Int) : List (Nat × List Ar) :=
  [(0, [.nm z, .fm e]), (1, [.nm z, .fm e, .nm y, .fm g, .fm a]), (2, [.nm z, .fm e, .nm y, .fm g, .fm a]), (3, [.nm z, .fm e, .nm y, .fm g, .fm a]), (4, [.nm z, .fm e, .nm y, .fm g, .fm a]),
   (5, [.nm z, .fm g, .fm a]), (6, [.nm z, .fm e, .nm y, .fm g, .fm a]), (7, [.nm z, .fm g, .fm a, .it i]), (8, [.nm z, .fm e]), (1, [.nm y, .fm a, .nm z, .fm e, .fm g])]
def StQ (CK : Nat → Addr) (CF : Addr) (H : Hp) (v : V) (p : Nat × List Ar) : Prop := StAt CK CF H v p.1 p.2
abbrev Fm (CF : Addr) (H : Hp) (v : V) (q : Row) : Prop := FormAt CF H v q ∧ (textR q).length ≤ 300
theorem Fm.same {CF : Addr} {H H' : Hp} {v : V} {q : Row} (r : Same H H') (h : Fm CF H v q) : Fm CF H' v q := ⟨h.1.same r, h.2⟩
def spTen (CK : Nat → Addr) (CF : Addr) : Sp := fun vs H Q _ => ∃ (t s : Addr) (z y : Str) (v1 v2 v3 : V) (e g a : Row) (i : Int), vs = [.ref t, .ref s, .int i] ∧ H t = some (.lst [.str z, .str y]) ∧ H s = some (.lst [v1, v2, v3]) ∧ nameS z = true ∧ nameS y = true ∧
  Fm CF H v1 e ∧ Fm CF H v2 g ∧ Fm CF H v3 a ∧ i.natAbs ≤ 10 ^ 39 ∧ ∀ D ys H', H D = none → Same H H' → H' D = some (.lst ys) → Paired (StQ CK CF H') ys (tenS z y e g a i) → Q (.ref D) H'
def spDueS : Sp := fun vs H Q _ => ∃ (t s : Addr) (z y : Str) (e g a : Row) (i : Int), vs = [.ref t, .ref s, .int i] ∧ H t = some (.lst [.str z, .str y]) ∧ H s = some (.lst [.str (textR e), .str (textR g), .str (textR a)]) ∧ nameS z = true ∧ nameS y = true ∧
  (textR e).length ≤ 300 ∧ (textR g).length ≤ 300 ∧ (textR a).length ≤ 300 ∧ i.natAbs ≤ 10 ^ 39 ∧ ∀ D H', H D = none → Same H H' → H' D = some (.lst ((tenS z y e g a i).map fun p => V.str (lineS p.1 p.2))) → Q (.ref D) H'
def sortB (k j : Nat) : Bool := decide (j < 9 ∧ (k = j ∨ (j = 1 ∧ 2 ≤ k ∧ k ≤ 4)))
def spSortS (CK : Nat → Addr) (CF : Addr) : Sp := fun vs H Q _ => ∃ (v : V) (k : Nat) (as : List Ar), vs = [v] ∧ StAt CK CF H v k as ∧ ∀ D H', H D = none → Same H H' → H' D = some (.lst ((List.range 10).map fun j => V.bl (sortB k j))) → Q (.ref D) H'
/-- the kind at a place -/
def kOf (n : Int) : Nat := if n = 9 then 1 else n.toNat
def spOneS (CK : Nat → Addr) (CF : Addr) : Sp := fun vs H Q _ => ∃ (v : V) (n : Int) (as : List Ar), vs = [v, .str (lineS (kOf n) as), .int n] ∧ 0 ≤ n ∧ n < 10 ∧ StAt CK CF H v (kOf n) as ∧ (lineS (kOf n) as).length ≤ 3000 ∧ ∀ H', Same H H' → Q (.bl true) H'
def spArgS (CK : Nat → Addr) (CF : Addr) : Sp := fun vs H Q _ => ∃ (v : V) (n : Int) (as : List Ar), vs = [v, .int n] ∧ 0 ≤ n ∧ n < 10 ∧ StAt CK CF H v (kOf n) as ∧ ∀ D ws H', H D = none → Same H H' → H' D = some (.lst ws) → Paired (ArAt CF H') ws as → Q (.ref D) H'
def spArgD (CF : Addr) : Sp := fun vs H Q _ => ∃ (t s : Addr) (z y : Str) (v1 v2 v3 : V) (e g a : Row) (i n : Int) (p : Nat × List Ar), vs = [.ref t, .ref s, .int i, .int n] ∧ H t = some (.lst [.str z, .str y]) ∧ H s = some (.lst [v1, v2, v3]) ∧ nameS z = true ∧ nameS y = true ∧
  Fm CF H v1 e ∧ Fm CF H v2 g ∧ Fm CF H v3 a ∧ i.natAbs ≤ 10 ^ 39 ∧ 0 ≤ n ∧ n < 10 ∧ (tenS z y e g a i)[n.toNat]? = some p ∧ ∀ D ws H', H D = none → Same H H' → H' D = some (.lst ws) → Paired (ArAt CF H') ws p.2 → Q (.ref D) H'
def spUnl (CK : Nat → Addr) (CF : Addr) : Sp := fun vs H Q _ => ∃ (v : V) (x : Str) (k : Nat) (as : List Ar), vs = [v, .str x] ∧ StAt CK CF H v k as ∧ ∀ H', Same H H' → Q (.bl true) H'
def spRight19 : Sp := fun vs H Q _ => ∃ p, vs = [.ref p] ∧ Pu p 0 H ∧ ∀ H', Rx [p] H H' → Q (.bl true) H'
section
variable {CK : Nat → Addr} {CF : Addr} {H : Hp} {Q : Addr → Hp → Prop} {os : List (List Str × List Nat)} {k : Nat} {ws : List V} {as : List Ar}
theorem s_mkSt (sg : Sig k as) (pa : Paired (ArAt CF H) ws as) (h : ∀ x H', Same H H' → StAt CK CF H' (.ref x) k as → Q x H') :
    ∀ x dx, H x = none → H dx = none → dx ≠ x → spkP os (spIni CK CF k) (.ref x :: ws) [] (upd (upd H dx (.own x)) x (.ins (CK k) dx [])) (fun v H2 => v = .non ∧ Q x H2) E0 := by
  intro x dx hx hd ne
  have s := same_new2 (o1 := .own x) (o2 := .ins (CK k) dx []) hx hd
  exact .inl ⟨rfl, x, dx, ws, as, rfl, sg, paired_mono (fun _ _ z => z.same s) pa, upd_same, fun H' r st => ⟨rfl, h x H' (same_rx hx s r) st⟩⟩
theorem s_mkStK {o : List Str × List Nat} {ks : List Str} {zs : List V} (ho : o ∈ os) (hk : ks = o.1) (hl : zs.length = ks.length) (sg : Sig k as) (pa : Paired (ArAt CF H) (appP o.2 zs) as) (h : ∀ x H', Same H H' → StAt CK CF H' (.ref x) k as → Q x H') :
    zs.length = ks.length ∧ ∀ x dx, H x = none → H dx = none → dx ≠ x → spkP os (spIni CK CF k) [.ref x] (ks.zip zs) (upd (upd H dx (.own x)) x (.ins (CK k) dx [])) (fun v H2 => v = .non ∧ Q x H2) E0 := by
  refine ⟨hl, fun x dx hx hd ne => ?_⟩
  have s := same_new2 (o1 := .own x) (o2 := .ins (CK k) dx []) hx hd
  have e2 : (ks.zip zs).map (·.2) = zs := by
    rw [← List.unzip_snd, List.unzip_zip hl.symm]
  have e1 : (ks.zip zs).map (·.1) = ks := by
    rw [← List.unzip_fst, List.unzip_zip hl.symm]
  refine .inr ⟨.ref x, o, ho, rfl, e1.trans hk, x, dx, _, as, rfl, sg, ?_, upd_same, fun H' r st => ⟨rfl, h x H' (same_rx hx s r) st⟩⟩
  rw [e2]
  exact paired_mono (fun _ _ z => z.same s) pa
end
theorem s_g3U {K : PySem.W.Frag} {σ σ' : L2.St} {H : Hp} {P : L2.St → Hp → Prop} {t l : Addr} {i j k m n : Nat} {x y a b c : V} (c1 : SqT K H t [x, y, .ref l]) (c2 : SqL K H l [a, b, c]) (e : (((((σ.set i (some x)).set j (some y)).set k (some a)).set m (some b)).set n (some c)) = σ') (h : P σ' H) :
    gTup K 3 (gCons (gName i) (gCons (gName j) (gCons (gUnl K 3 (gCons (gName k) (gCons (gName m) (gCons (gName n) gNil)))) gNil))) (.ref t) σ H P := by
  subst e
  exact ⟨t, _, rfl, c1, rfl, x, [y, .ref l], rfl, y, [.ref l], rfl, .ref l, [], rfl, s_u3 c2 ⟨rfl, h⟩⟩
theorem s_appN {H : Hp} {Q : VK} {p : Addr} {xs : List V} {y : V} (e : H p = some (.lst xs)) (c : xs.length < 1000) (h : ∀ J, J p = some (.lst (xs ++ [y])) → Nl H J → (∀ H0, Rx [] H0 H → H0 p = none → Rx [] H0 J) → Q .non J) : rAppend (.ref p) [y] H Q :=
  s_app e (sz2 (by omega)) (h _ upd_same (Nl.lst e) fun H0 r f => r.own f)
theorem StAt.nl {CK : Nat → Addr} {CF : Addr} {H H' : Hp} {v : V} {k : Nat} {as : List Ar} (r : Nl H H') (h : StAt CK CF H v k as) : StAt CK CF H' v k as := by
  obtain ⟨a, dx, t, vs, e, ha, pr, ht⟩ := h.ex
  exact ⟨h.k9, h.sg, a, dx, t, vs, e, r _ _ (fun _ z => nomatch z) ha, paired_mono (fun _ _ z => z.nb (Nb.of_nl r)) pr, r _ _ (fun _ z => nomatch z) ht⟩
theorem Fm.nl {CF : Addr} {H H' : Hp} {v : V} {q : Row} (r : Nl H H') (h : Fm CF H v q) : Fm CF H' v q := ⟨h.1.nb (Nb.of_nl r), h.2⟩
theorem Rx.fr0 {H H' : Hp} {l : Addr} (r : Rx [] H H') (h : H' l = none) : H l = none := by
  rcases hh : H l with _ | o
  · rfl
  · have := r _ _ (by simp) hh
    rw [h] at this
    cases this
theorem Rx.same0 {H H' : Hp} (r : Rx [] H H') : Same H H' := fun b o e => r b o (by simp) e
end G


namespace G
open PySem PySem.Spec PyProof.Rows L2 StX ClX LamX _root_.TL NdefX
def backS (z y : Str) (e g a : Str) : Str := z ++ Str.ofString "[" ++ e ++ Str.ofString "] " ++ y ++ Str.ofString "[" ++ g ++ Str.ofString "] (" ++ a ++ Str.ofString ")"
theorem line_mv {k : Nat} (h : k = 1 ∨ k = 2 ∨ k = 3 ∨ k = 4 ∨ k = 6) (z y : Str) (e g a : Row) : lineS k [.nm z, .fm e, .nm y, .fm g, .fm a] = stW k ++ Str.ofString " " ++ backS z y (textR e) (textR g) (textR a) := by
  have : lineS k [.nm z, .fm e, .nm y, .fm g, .fm a] = stW k ++ Str.ofString " " ++ z ++ Str.ofString "[" ++ textR e ++ Str.ofString "] " ++ y ++ Str.ofString "[" ++ textR g ++ Str.ofString "] (" ++ textR a ++ Str.ofString ")" := by
    rcases h with rfl | rfl | rfl | rfl | rfl <;> rfl
  rw [this]
  unfold backS
  simp only [app_as]
theorem due_eq (z y : Str) (e g a : Row) (i : Int) : (tenS z y e g a i).map (fun p => V.str (lineS p.1 p.2)) =
    [.str (Str.ofString "let " ++ z ++ Str.ofString " = " ++ textR e), .str (Str.ofString "copy" ++ Str.ofString " " ++ backS z y (textR e) (textR g) (textR a)), .str (Str.ofString "up" ++ Str.ofString " " ++ backS z y (textR e) (textR g) (textR a)),
     .str (Str.ofString "down" ++ Str.ofString " " ++ backS z y (textR e) (textR g) (textR a)), .str (Str.ofString "apart" ++ Str.ofString " " ++ backS z y (textR e) (textR g) (textR a)),
     .str (Str.ofString "reverse " ++ z ++ Str.ofString "[" ++ textR g ++ Str.ofString "] (" ++ textR a ++ Str.ofString ")"), .str (Str.ofString "swap " ++ backS z y (textR e) (textR g) (textR a)),
     .str (Str.ofString "fill " ++ z ++ Str.ofString "[" ++ textR g ++ Str.ofString "] (" ++ textR a ++ Str.ofString ") " ++ Str.ofString (toString i)), .str (Str.ofString "resize " ++ z ++ Str.ofString " (" ++ textR e ++ Str.ofString ")"),
     .str (Str.ofString "copy " ++ backS y z (textR a) (textR e) (textR g))] := by
  unfold tenS
  simp only [List.map_cons, List.map_nil, line_mv (.inl rfl), line_mv (.inr (.inl rfl)), line_mv (.inr (.inr (.inl rfl))), line_mv (.inr (.inr (.inr (.inl rfl)))), line_mv (.inr (.inr (.inr (.inr rfl))))]
  rw [show Str.ofString "swap " = stW 6 ++ Str.ofString " " by decide +kernel, show Str.ofString "copy " = stW 1 ++ Str.ofString " " by decide +kernel]
  rfl
theorem backS_len {z y e g a : Str} (h1 : z.length ≤ 8) (h2 : y.length ≤ 8) (h3 : e.length ≤ 300) (h4 : g.length ≤ 300) (h5 : a.length ≤ 300) : (backS z y e g a).length ≤ 930 := by
  have c1 : (Str.ofString "[").length = 1 := by decide +kernel
  have c2 : (Str.ofString "] ").length = 2 := by decide +kernel
  have c3 : (Str.ofString "] (").length = 3 := by decide +kernel
  have c4 : (Str.ofString ")").length = 1 := by decide +kernel
  unfold backS
  simp only [len_app]
  omega
end G
namespace G
open PySem PySem.Spec PyProof.Rows L2 StX ClX LamX _root_.TL NdefX
theorem sorts_eq (k : Nat) : (List.range 10).map (fun j => V.bl (sortB k j)) = [0, 1, 2, 3].map (fun j => V.bl (decide (k = j ∨ (j = 1 ∧ 2 ≤ k ∧ k ≤ 4)))) ++ [4, 5, 6].map (fun j => V.bl (decide (k = j ∨ (j = 1 ∧ 2 ≤ k ∧ k ≤ 4)))) ++ ([7, 8].map (fun j => V.bl (decide (k = j ∨ (j = 1 ∧ 2 ≤ k ∧ k ≤ 4)))) ++ [.bl false]) := by
  have e : List.range 10 = [0, 1, 2, 3, 4, 5, 6, 7, 8, 9] := by decide
  rw [e]
  simp [sortB]
theorem stF_mv {k : Nat} (h : k = 1 ∨ k = 2 ∨ k = 3 ∨ k = 4) : stF k = [Str.ofString "target", Str.ofString "to", Str.ofString "source", Str.ofString "start", Str.ofString "amount"] := by
  rcases h with rfl | rfl | rfl | rfl <;> rfl
theorem StmC.naM {K : PySem.W.Frag} {mg : Str → Option Value} {ST IF : Addr} {CK : Nat → Addr} (f : StmC K mg ST IF CK) {i : Nat} (hi : i < 9) (h : i = 1 ∨ i = 2 ∨ i = 3 ∨ i = 4) {x : Str} (m : x ∈ [Str.ofString "target", Str.ofString "to", Str.ofString "source", Str.ofString "start", Str.ofString "amount"]) : NoAttr K (CK i) x :=
  f.naF hi (by rw [stF_mv h]; exact m)
end G


namespace G
open PySem PySem.Spec PyProof.Rows L2 StX ClX LamX _root_.TL NdefX
theorem ArAt.ascL {CF : Addr} {H : Hp} {v : V} {x : Ar} (h : ArAt CF H v x) : asc (arT x) := by
  cases x with
  | nm z => exact (name_nm h.2).2.2
  | fm q =>
    obtain ⟨⟨a, dx, t, y, xs, e, fi⟩, _⟩ := h
    exact asc_text fi.rb.sym
  | it i => exact asc_int i
theorem ArAt.len {CF : Addr} {H : Hp} {v : V} {x : Ar} (h : ArAt CF H v x) : (arT x).length ≤ 574 := by
  cases x with
  | nm z =>
    have := (name_nm h.2).len
    show z.length ≤ 574
    omega
  | fm q =>
    have := h.2
    show (textR q).length ≤ 574
    omega
  | it i => exact len_int (Nat.lt_of_le_of_lt h.2 (by decide +kernel))
theorem arT_get {P : Str → Prop} (h0 : P "") {as : List Ar} (h : ∀ x ∈ as, P (arT x)) (i : Nat) : P (arT (as.getD i (.nm ""))) := by
  rw [List.getD_eq_getElem?_getD]
  cases e : as[i]? with
  | none => exact h0
  | some x => exact h x (List.mem_of_getElem? e)
theorem lineS_asc {as : List Ar} (h : ∀ x ∈ as, asc (arT x)) (k : Nat) : asc (lineS k as) := by
  have g := arT_get (P := asc) (by decide +kernel) h
  have w : asc (stW k) := by
    unfold stW
    split <;> decide +kernel
  have c1 : asc (Str.ofString "let ") := by decide +kernel
  have c2 : asc (Str.ofString " = ") := by decide +kernel
  have c3 : asc (Str.ofString "[") := by decide +kernel
  have c4 : asc (Str.ofString "] ") := by decide +kernel
  have c5 : asc (Str.ofString "] (") := by decide +kernel
  have c6 : asc (Str.ofString ")") := by decide +kernel
  have c7 : asc (Str.ofString ") ") := by decide +kernel
  have c8 : asc (Str.ofString " (") := by decide +kernel
  have c9 : asc (Str.ofString "reverse ") := by decide +kernel
  have c10 : asc (Str.ofString "fill ") := by decide +kernel
  have c11 : asc (Str.ofString "resize ") := by decide +kernel
  have c12 : asc (Str.ofString " ") := by decide +kernel
  unfold lineS
  split <;> (repeat (first | exact g _ | assumption | apply asc_app))
theorem lineS_len {as : List Ar} (h : ∀ x ∈ as, (arT x).length ≤ 574) (k : Nat) : (lineS k as).length ≤ 3000 := by
  have g := arT_get (P := fun z => z.length ≤ 574) (by decide +kernel) h
  have w := (stW_ok k).2
  have c1 : (Str.ofString "let ").length = 4 := by decide +kernel
  have c2 : (Str.ofString " = ").length = 3 := by decide +kernel
  have c3 : (Str.ofString "[").length = 1 := by decide +kernel
  have c4 : (Str.ofString "] ").length = 2 := by decide +kernel
  have c5 : (Str.ofString "] (").length = 3 := by decide +kernel
  have c6 : (Str.ofString ")").length = 1 := by decide +kernel
  have c7 : (Str.ofString ") ").length = 2 := by decide +kernel
  have c8 : (Str.ofString " (").length = 2 := by decide +kernel
  have c9 : (Str.ofString "reverse ").length = 8 := by decide +kernel
  have c10 : (Str.ofString "fill ").length = 5 := by decide +kernel
  have c11 : (Str.ofString "resize ").length = 7 := by decide +kernel
  have c12 : (Str.ofString " ").length = 1 := by decide +kernel
  have g0 := g 0
  have g1 := g 1
  have g2 := g 2
  have g3 := g 3
  have g4 := g 4
  unfold lineS
  split <;> (simp only [len_app]; omega)
theorem StAt.ascL {CK : Nat → Addr} {CF : Addr} {H : Hp} {v : V} {k : Nat} {as : List Ar} (h : StAt CK CF H v k as) : asc (lineS k as) := by
  obtain ⟨a, dx, t, vs, e, ha, pr, ht⟩ := h.ex
  exact lineS_asc (paired_all (P := fun x => G.asc (arT x)) (fun _ _ z => z.ascL) pr) k
theorem StAt.len {CK : Nat → Addr} {CF : Addr} {H : Hp} {v : V} {k : Nat} {as : List Ar} (h : StAt CK CF H v k as) : (lineS k as).length ≤ 3000 := by
  obtain ⟨a, dx, t, vs, e, ha, pr, ht⟩ := h.ex
  exact lineS_len (paired_all (P := fun x => (arT x).length ≤ 574) (fun _ _ z => z.len) pr) k
def oneD (z w : Str) : PyData := .list [.tuple [.str z], .str z, .str (stR z), .str w]
theorem asc_lt {z : Str} (h : asc z) : ∀ c ∈ z.cps.toList, c < 16 ^ 8 := fun c hc => by
  have := h c hc
  omega
theorem s_reprOne {K : PySem.W.Frag} {H : Hp} {Q : VK} {a t : Addr} {z w : Str} (h1 : H a = some (.lst [.ref t, .str z, .str (stR z), .str w])) (h2 : H t = some (.tup [.str z])) (az : asc z) (lz : z.length ≤ 3000) (aw : asc w) (lw : w.length ≤ 10) (h : Q (.str (oneD z w).shown) H) : rRepr K [.ref a] H Q := by
  have ar : asc (stR z) := asc_app (asc_app (by decide +kernel) az) (by decide +kernel)
  have lr : (stR z).length ≤ 3020 := by
    have h1 : (Str.ofString "Statement(").length = 10 := by decide +kernel
    have h2 : (Str.ofString ")").length = 1 := by decide +kernel
    have : stR z = Str.ofString "Statement(" ++ z ++ Str.ofString ")" := rfl
    rw [this]
    simp only [len_app]
    omega
  refine ⟨a, oneD z w, rfl, .lst (SqL.of h1) (.cons (.tup (SqT.of h2) (.cons (.str _) .nil)) (.cons (.str _) (.cons (.str _) (.cons (.str _) .nil)))), ?_, ?_, ?_, ?_, h⟩
  · simp [oneD, PyData.showable, PyData.showableAll]
  · simp [oneD, PyData.hasDict, PyData.hasDictAll]
  · simp [oneD, PyData.depth, PyData.depthAll]
  · have la : ∀ z : Str, asc z → (z.cps.toList.all fun c => decide (c < 16 ^ 8)) = true := fun z hz => by
      rw [List.all_eq_true]
      exact fun c hc => decide_eq_true (asc_lt hz c hc)
    have hs : (oneD z w).leavesShort 43 = true := by
      unfold oneD
      simp only [PyData.leavesShort, PyData.leavesShortAll, la _ az, la _ ar, la _ aw, Bool.and_true, Bool.and_self]
    have h1 := PyData.shown_le 43 (by decide) _ hs
    have hw : (oneD z w).weight ≤ 13000 := by
      unfold oneD
      have h3 : z.cps.size = z.length := rfl
      have h4 : (stR z).cps.size = (stR z).length := rfl
      have h5 : w.cps.size = w.length := rfl
      simp only [PyData.weight, PyData.weightAll]
      omega
    exact sz1 (by omega)
/-- the text that an argument has in a list -/
def arP : Ar → Str
  | .nm z => reprText z
  | .fm q => reprR q
  | .it i => Str.ofString (toString i)
theorem ArAt.rp {CF : Addr} {H : Hp} {v : V} {x : Ar} (h : ArAt CF H v x) : RpI CF H v (arP x) ∧ (arP x).length ≤ 1000 := by
  cases x with
  | nm z =>
    obtain ⟨rfl, hn⟩ := h
    have n := name_nm hn
    have l := PySem.StrLaws.reprText_len z (asc_lt n.2.2)
    have := n.len
    exact ⟨.str z (by omega), by show (reprText z).length ≤ 1000; omega⟩
  | fm q =>
    refine ⟨.form h.1 (by have := h.2; omega), ?_⟩
    have h1 : (Str.ofString "Form(").length = 5 := by decide +kernel
    have h2 : (Str.ofString ")").length = 1 := by decide +kernel
    have : reprR q = Str.ofString "Form(" ++ textR q ++ Str.ofString ")" := rfl
    have := h.2
    show (reprR q).length ≤ 1000
    unfold reprR
    rw [len_app, len_app]
    omega
  | it i =>
    obtain ⟨rfl, hi⟩ := h
    have hb : bd i := Nat.lt_of_le_of_lt hi (by decide +kernel)
    have := len_int hb
    exact ⟨.int i (bd_log hb) (by omega), by show (Str.ofString (toString i)).length ≤ 1000; omega⟩
theorem sum_le_of {l : List Str} {n : Nat} (h : ∀ z ∈ l, z.length ≤ n) : (l.map (·.length)).sum ≤ n * l.length := by
  induction l with
  | nil => simp
  | cons a l ih =>
    have h1 := h a List.mem_cons_self
    have h2 := ih fun z hz => h z (List.mem_cons_of_mem _ hz)
    rw [List.map_cons, List.sum_cons, List.length_cons, Nat.mul_succ]
    omega
theorem s_reprArs {C : Addr} {H : Hp} {Q : VK} {D : Addr} {ws : List V} {as : List Ar} (e : H D = some (.lst ws)) (pa : Paired (ArAt C H) ws as) (ne : as ≠ []) (l : as.length ≤ 10) (h : Q (.str (listText (as.map arP))) H) : rReprLs C [.ref D] H Q := by
  refine ⟨D, ws, as.map arP, rfl, e, ?_, ?_, ?_, h⟩
  · rintro rfl
    cases pa
    exact ne rfl
  · clear ne l h e
    induction pa with
    | nil => exact .nil
    | cons r t ih => exact .cons r.rp.1 ih
  · have h1 := listText_len_le (as.map arP)
    have h2 : ((as.map arP).map (·.length)).sum ≤ 1000 * (as.map arP).length := sum_le_of fun z hz => by
      obtain ⟨x, hx, rfl⟩ := List.mem_map.mp hz
      exact paired_all (P := fun x => (arP x).length ≤ 1000) (fun _ _ z => z.rp.2) pa x hx
    rw [List.length_map] at h1 h2
    omega
theorem wordS_at {k : Nat} {vs : List V} {t : V} : ((stF k).zip vs ++ [(Str.ofString "lines", t)]).lookup (Str.ofString "WORD") = none := by
  have h : Str.ofString "WORD" ∉ stF k := by
    unfold stF
    split <;> decide +kernel
  rw [lookup_zip h]
  have : (Str.ofString "WORD" == Str.ofString "lines") = false := by decide +kernel
  simp only [List.lookup, this]
theorem plain_bls : ∀ bs : List Bool, PyData.plain (bsD bs) = true := by
  intro bs
  have : ∀ bs : List Bool, PyData.plainAll (bs.map PyData.bool) = true := by
    intro bs
    induction bs with
    | nil => rfl
    | cons z zs ih => simp only [List.map_cons, PyData.plainAll, PyData.plain, ih, Bool.and_self]
  simp only [bsD, PyData.plain, this]
theorem s_eqBls {K : PySem.W.Frag} {H : Hp} {Q : VK} {a b : Addr} {bs : List Bool} (h1 : H a = some (.lst (bs.map V.bl))) (h2 : H b = some (.lst (bs.map V.bl))) (h : Q (.bl true) H) : rEqP K (.ref a) (.ref b) H Q := by
  refine ⟨bsD bs, bsD bs, .lst (SqL.of h1) dp_bls, .lst (SqL.of h2) dp_bls, plain_bls _, plain_bls _, ?_, ?_⟩
  · unfold bsD
    rw [PyData.depth, depth_bls]
    decide
  · rw [PySem.SeqAt.eqv_refl_plain _ (plain_bls _)]
    exact h
/-- what is due of a kind at a place -/
theorem due_kind {n : Int} (n0 : 0 ≤ n) (n10 : n < 10) {j : Nat} (hj : j < 10) : sortB (kOf n) j = (decide ((j : Int) = if n = 9 then 1 else n) || (decide ((j : Int) = 1) && decide (n = 2 ∨ n = 3 ∨ n = 4))) := by
  unfold sortB kOf
  refine Bool.eq_iff_iff.mpr ?_
  simp only [decide_eq_true_eq, Bool.or_eq_true, Bool.and_eq_true]
  split <;> omega
end G


namespace G
open PySem PySem.Spec PyProof.Rows L2 StX ClX LamX _root_.TL NdefX
theorem lcU {β : Type} {J : It} {xs : List V} {GG : Hp → Prop} {g : TG} {te : TE} {vs : List Nat} {σ : L2.St} {H : Hp} {Q : VK} {p : Addr} {n c : Nat} (w : Walk J xs.length GG (YAt xs)) (pu : Pu p n H) (P : Nat → β → Prop) (Rel : (Addr → Prop) → Hp → V → β → Prop)
    (st : ∀ A H H' v b, Ag A H H' → Nl H H' → Rel A H v b → Rel A H' v b)
    (hG : ∀ H1, Rx [p] H H1 → GG H1) (hl : xs.length ≤ 1000000)
    (hs : ∀ (D : Addr) (i : Nat) (x : V) (H1 : Hp) (K1 : VK), D ≠ p → (∃ ys, H1 D = some (.lst ys)) → xs[i]? = some x → Rx [p] H H1 → Pu p (n + c * i) H1 → (∀ y H4 b, P i b → Rx [p] H1 H4 → Pu p (n + c * (i + 1)) H4 → Rel (fun a => a = p ∨ a = D) H4 y b → K1 y H4) →
      g x (wipe σ vs) H1 fun σ2 H3 => wipe σ2 vs = wipe σ vs ∧ te σ2 H3 K1)
    (gm : ∀ x σ1 H1 (P P' : L2.St → Hp → Prop), (∀ a b, P a b → P' a b) → g x σ1 H1 P → g x σ1 H1 P')
    (h : ∀ D H' ys bs, H D = none → D ≠ p → Rx [p] H H' → Pu p (n + c * xs.length) H' → H' D = some (.lst ys) → Paired (Rel (fun a => a = p ∨ a = D) H') ys bs → bs.length = xs.length → (∀ i b, bs[i]? = some b → P i b) → Q (.ref D) H') : LC J g tYes te vs σ Q H := by
  intro D hD
  have np : D ≠ p := pu.ne hD
  have pst : ∀ {H1 H2 : Hp} {ys : List V} {bs : List β}, Ag (fun a => a = p ∨ a = D) H1 H2 → Nl H1 H2 → Paired (Rel (fun a => a = p ∨ a = D) H1) ys bs → Paired (Rel (fun a => a = p ∨ a = D) H2) ys bs := fun g t => paired_mono fun _ _ z => st _ _ _ _ _ g t z
  have agD : ∀ {H1 : Hp} {o : HO}, Ag (fun a => a = p ∨ a = D) H1 (upd H1 D o) := fun a u n e => by
    rw [upd_ne (fun z => n (.inr z))]
    exact e
  have agP : ∀ {H1 H2 : Hp}, Rx [p] H1 H2 → Ag (fun a => a = p ∨ a = D) H1 H2 := fun r a u n e => r a u (by simpa using fun z => n (.inl z)) e
  refine lc_it w (fun i H1 => Rx [p] H H1 ∧ Pu p (n + c * i) H1 ∧ ∃ ys bs, H1 D = some (.lst ys) ∧ ys.length = i ∧ Paired (Rel (fun a => a = p ∨ a = D) H1) ys bs ∧ ∀ j b, bs[j]? = some b → P j b) ⟨(Rx.refl H).own hD, (pu.upd np).mono (by omega), [], [], upd_same, rfl, .nil, fun j b z => by simp at z⟩ (fun i H1 _ q => hG H1 q.1) ?_ ?_
  · rintro i x H1 H2 hi ⟨r, pu1, ys, bs, hd, hy, hp, hb⟩ ⟨rfl, hx⟩
    refine gm _ _ _ _ _ ?_ (hs D i x H2 (fun y H4 => ∃ acc, H4 D = some (.lst acc) ∧ acc.length < sizeLine ∧ (Rx [p] H (upd H4 D (.lst (acc ++ [y]))) ∧ Pu p (n + c * (i + 1)) (upd H4 D (.lst (acc ++ [y]))) ∧ ∃ ys bs, (upd H4 D (.lst (acc ++ [y]))) D = some (.lst ys) ∧ ys.length = i + 1 ∧ Paired (Rel (fun a => a = p ∨ a = D) (upd H4 D (.lst (acc ++ [y])))) ys bs ∧ ∀ j b, bs[j]? = some b → P j b)) np ⟨ys, hd⟩ hx r pu1 ?_)
    · rintro σ2 H3 ⟨e, q⟩
      refine ⟨e, s_yes (iteT ?_)⟩
      exact q
    · intro y H4 b hP r4 pu4 rel
      have hd4 : H4 D = some (.lst ys) := r4 _ _ (by simpa using np) hd
      have nl := Nl.of_pu pu1 r4
      refine ⟨ys, hd4, sz2 (by omega), (r.trans r4).own hD, pu4.upd np, ys ++ [y], bs ++ [b], upd_same, by simp [hy], ?_, ?_⟩
      · exact Paired.snoc (pst agD (Nl.lst hd4) (pst (agP r4) nl hp)) (st _ _ _ _ _ agD (Nl.lst hd4) rel)
      · have hlen := paired_len hp
        intro j b' hj
        by_cases hj2 : j < bs.length
        · rw [List.getElem?_append_left hj2] at hj
          exact hb j b' hj
        · rw [List.getElem?_append_right (by omega)] at hj
          have : j - bs.length = 0 := by
            rcases Nat.eq_zero_or_pos (j - bs.length) with h | h
            · exact h
            · rw [List.getElem?_eq_none (by simp; omega)] at hj
              cases hj
          rw [this] at hj
          cases hj
          have : j = i := by omega
          rw [this]
          exact hP
  · rintro H1 ⟨r, pu1, ys, bs, hd, hy, hp, hb⟩
    have hlen := paired_len hp
    exact h D H1 ys bs hD np r pu1 hd hp (by omega) hb
def TmL (A : Addr → Prop) (H : Hp) (v : V) (row : Row) : Prop := ∃ l xs, v = .ref l ∧ ¬ A l ∧ H l = some (.lst xs) ∧ PrsL H xs row
theorem tmL_st : ∀ (A : Addr → Prop) (H H' : Hp) (v : V) (b : Row), Ag A H H' → Nl H H' → TmL A H v b → TmL A H' v b := by
  rintro A H H' v b g n ⟨l, xs, e, hn, hl, pr⟩
  exact ⟨l, xs, e, hn, g _ _ hn hl, pr.tp n.tp⟩
def GoodRow (row : Row) : Prop := Can row ∧ (∀ p ∈ row, p.2.natAbs ≤ 99) ∧ row.length ≤ 3 ∧ ∀ x ∈ keysR row, nameS x = true
theorem name_sym0 {z : Str} (h : nameS z = true) : symS z = true := by
  unfold symS
  rw [h]
  simp
theorem GoodRow.rb {row : Row} (h : GoodRow row) : RowB row :=
  ⟨by have := h.2.2.1; omega, fun p hp => name_sym0 (h.2.2.2 _ (mem_keys hp)), fun p hp => Nat.lt_of_le_of_lt (h.2.1 p hp) (by decide +kernel)⟩
theorem ten_at {z y : Str} {e g a : Row} {i n : Int} (n0 : 0 ≤ n) (n10 : n < 10) : ∃ as, (tenS z y e g a i)[n.toNat]? = some (kOf n, as) ∧ as ≠ [] ∧ as.length ≤ 10 := by
  have : n = 0 ∨ n = 1 ∨ n = 2 ∨ n = 3 ∨ n = 4 ∨ n = 5 ∨ n = 6 ∨ n = 7 ∨ n = 8 ∨ n = 9 := by omega
  rcases this with rfl | rfl | rfl | rfl | rfl | rfl | rfl | rfl | rfl | rfl <;> exact ⟨_, rfl, by simp, by simp⟩
/-- the statement at a place -/
theorem ten_get {CK : Nat → Addr} {CF : Addr} {H : Hp} {ys : List V} {z y : Str} {e g a : Row} {i n : Int} (pr : Paired (StQ CK CF H) ys (tenS z y e g a i)) (n0 : 0 ≤ n) (n10 : n < 10) :
    ∃ v as, atI ys n = some v ∧ (tenS z y e g a i)[n.toNat]? = some (kOf n, as) ∧ StAt CK CF H v (kOf n) as ∧ as ≠ [] ∧ as.length ≤ 10 ∧ atI ((tenS z y e g a i).map fun p => V.str (lineS p.1 p.2)) n = some (.str (lineS (kOf n) as)) := by
  obtain ⟨as, h, ne, l⟩ := ten_at (z := z) (y := y) (e := e) (g := g) (a := a) (i := i) n0 n10
  have hl := paired_len pr
  have h10 : (tenS z y e g a i).length = 10 := rfl
  have hlt : n.toNat < ys.length := by omega
  obtain ⟨v, hv, _, hg⟩ := atI_ofI (xs := ys) n0 (by omega)
  obtain ⟨b, hb, r⟩ := G.paired_get pr hg
  rw [h] at hb
  cases hb
  obtain ⟨v2, hv2, _, hg2⟩ := atI_ofI (xs := (tenS z y e g a i).map fun p => V.str (lineS p.1 p.2)) n0 (by rw [List.length_map]; omega)
  rw [List.getElem?_map, h] at hg2
  cases hg2
  exact ⟨v, as, hv, h, r, ne, l, hv2⟩
theorem GoodRow.len {row : Row} (h : GoodRow row) : (textR row).length ≤ 280 :=
  text_280 h.1 h.rb (by have := h.2.2.1; omega) fun x => Nat.le_trans (fac_abs h.1.nodup h.2.1 x) (by decide)
def FmA (CF : Addr) (A : Addr → Prop) (H : Hp) (v : V) (q : Row) : Prop := FormAt CF H v q
theorem fmA_st (CF : Addr) : ∀ (A : Addr → Prop) (H H' : Hp) (v : V) (b : Row), Ag A H H' → Nl H H' → FmA CF A H v b → FmA CF A H' v b := fun _ _ _ _ _ _ n h => FormAt.nb (Nb.of_nl n) h
def TxA (A : Addr → Prop) (H : Hp) (v : V) (q : Row) : Prop := v = .str (textR q)
theorem txA_st : ∀ (A : Addr → Prop) (H H' : Hp) (v : V) (b : Row), Ag A H H' → Nl H H' → TxA A H v b → TxA A H' v b := fun _ _ _ _ _ _ _ h => h
theorem three {α : Type} {l : List α} (h : l.length = 3) : ∃ a b c, l = [a, b, c] := by
  match l, h with
  | [a, b, c], _ => exact ⟨a, b, c, rfl⟩
theorem txt_eq {A : Addr → Prop} {H : Hp} {vs : List V} {bs : List Row} (h : Paired (TxA A H) vs bs) : vs = bs.map fun q => V.str (textR q) := by
  induction h with
  | nil => rfl
  | cons r t ih => rw [List.map_cons, ← ih, r]
theorem ix_eq {α : Type} {bs cs : List α} (h : bs.length = cs.length) (g : ∀ (i : Nat) b, bs[i]? = some b → cs[i]? = some b) : bs = cs := by
  refine List.ext_getElem? fun i => ?_
  by_cases hi : i < bs.length
  · rw [g i _ (List.getElem?_eq_getElem hi), List.getElem?_eq_getElem hi]
  · rw [List.getElem?_eq_none (by omega), List.getElem?_eq_none (by omega)]
theorem fm_three {C : Addr} {A : Addr → Prop} {H : Hp} {vs : List V} {e g a : Row} (h : Paired (FmA C A H) vs [e, g, a]) : ∃ v1 v2 v3, vs = [v1, v2, v3] ∧ FormAt C H v1 e ∧ FormAt C H v2 g ∧ FormAt C H v3 a := by
  cases h with
  | cons h1 h => cases h with
    | cons h2 h => cases h with
      | cons h3 h =>
        cases h
        exact ⟨_, _, _, rfl, h1, h2, h3⟩
/-- what stands when the law compares -/
structure R19 (CK : Nat → Addr) (C : Addr) (H : Hp) (tg s1 s2 md nd du : Addr) (my ny : List V) (v1 v2 v3 w1 w2 w3 : V) (z y : Str) (e g a : Row) (i : Int) : Prop where
  etg : H tg = some (.lst [.str z, .str y])
  es1 : H s1 = some (.lst [v1, v2, v3])
  es2 : H s2 = some (.lst [w1, w2, w3])
  F1 : Fm C H v1 e
  F2 : Fm C H v2 g
  F3 : Fm C H v3 a
  G1 : Fm C H w1 e
  G2 : Fm C H w2 g
  G3 : Fm C H w3 a
  emd : H md = some (.lst my)
  mpr : Paired (StQ CK C H) my (tenS z y e g a i)
  ent : H nd = some (.lst ny)
  npr : Paired (StQ CK C H) ny (tenS z y e g a i)
  edu : H du = some (.lst ((tenS z y e g a i).map fun p => V.str (lineS p.1 p.2)))
theorem R19.same {CK : Nat → Addr} {C : Addr} {H H' : Hp} {tg s1 s2 md nd du : Addr} {my ny : List V} {v1 v2 v3 w1 w2 w3 : V} {z y : Str} {e g a : Row} {i : Int} (r : Same H H') (h : R19 CK C H tg s1 s2 md nd du my ny v1 v2 v3 w1 w2 w3 z y e g a i) : R19 CK C H' tg s1 s2 md nd du my ny v1 v2 v3 w1 w2 w3 z y e g a i :=
  ⟨r _ _ h.etg, r _ _ h.es1, r _ _ h.es2, h.F1.same r, h.F2.same r, h.F3.same r, h.G1.same r, h.G2.same r, h.G3.same r, r _ _ h.emd, paired_mono (fun _ _ z => StAt.same r z) h.mpr, r _ _ h.ent, paired_mono (fun _ _ z => StAt.same r z) h.npr, r _ _ h.edu⟩
end G


namespace G
open PySem PySem.Spec PyProof.Rows L2 StX ClX LamX _root_.TL NdefX
theorem nine {p : Nat → Prop} (h0 : p 0) (h1 : p 1) (h2 : p 2) (h3 : p 3) (h4 : p 4) (h5 : p 5) (h6 : p 6) (h7 : p 7) (h8 : p 8) : ∀ i, i < 9 → p i := fun i hi => by
  match i, hi with
  | 0, _ => exact h0
  | 1, _ => exact h1
  | 2, _ => exact h2
  | 3, _ => exact h3
  | 4, _ => exact h4
  | 5, _ => exact h5
  | 6, _ => exact h6
  | 7, _ => exact h7
  | 8, _ => exact h8
theorem stmC_of {K : PySem.W.Frag} {mg : Str → Option Value} (h : stmL K = true) (g1 : mg "Statement" = some (.ref (He.ga K "Statement"))) (g2 : mg "If" = some (.ref (He.ga K "If"))) (gl : ∀ i, i < 9 → mg (stN i) = some (.ref (stA K i)))
    (i2 : PySem.W.specialIn K (.builtin "object.__class__") "__get__" = some (some (.builtin "getset_descriptor.__get__"))) (i3 : PySem.W.takesIn K (.builtin "object.__class__") = some true) : StmC K mg (He.ga K "Statement") (He.ga K "If") (stA K) := by
  unfold stmL at h
  rw [Bool.and_eq_true, Bool.and_eq_true, Bool.and_eq_true, List.all_eq_true, List.all_eq_true] at h
  obtain ⟨h1, h2, h3, h4⟩ := h
  have ha : ∀ i, i < 9 → stmA K i = true ∧ ∀ j, j < 9 → stmB K i j = true := by
    intro i hi
    have := h4 i (List.mem_range.mpr hi)
    rw [Bool.and_eq_true, List.all_eq_true] at this
    exact ⟨this.1, fun j hj => this.2 j (List.mem_range.mpr hj)⟩
  have a : ∀ i, i < 9 → _ := fun i hi => by
    have := (ha i hi).1
    unfold stmA at this
    simp only [Bool.and_eq_true, decide_eq_true_eq, List.all_eq_true] at this
    exact this
  have b : ∀ i j, i < 9 → j < 9 → _ := fun i j hi hj => by
    have := (ha i hi).2 j hj
    unfold stmB at this
    simp only [Bool.and_eq_true, Bool.or_eq_true, decide_eq_true_eq] at this
    exact this
  exact {
    at_ := g1
    gI := g2
    gl := gl
    fm := fun i hi => by
      obtain ⟨a1, a2, a3, a4, a5, a6, a7, _⟩ := a i hi
      exact ⟨⟨a1, a2, a3, a4⟩, a5, a6, a7⟩
    na := fun i hi => (a i hi).2.2.2.2.2.2.2.1
    i1 := fun i hi => (a i hi).2.2.2.2.2.2.2.2.1
    i2 := i2
    i3 := i3
    one := fun i hi => (a i hi).2.2.2.2.2.2.2.2.2.1
    kit := fun i j hi hj => (b i j hi hj).2
    kIf := fun i hi => (a i hi).2.2.2.2.2.2.2.2.2.2.1
    con := fun i hi => He.conB_ok (a i hi).2.2.2.2.2.2.2.2.2.2.2.1
    ne := fun i hi => (a i hi).2.2.2.2.2.2.2.2.2.2.2.2
    nf := fun i j hi hj => (b i j hi hj).1
    ic := h1
    ty := of_decide_eq_true h2
    sb := fun T hT => of_decide_eq_true (h3 T hT) }
end G


namespace K19
open PySem L2 G LamX NdefX
theorem sc__law_cell : FnScope N__law_cell ["_law_script", "_law_k"] (defScope s__law_cell) := ⟨rfl, rfl, rfl, by decide +kernel, rfl, by decide +kernel, by decide +kernel⟩
theorem sc__law_purse : FnScope N__law_purse ["_law_number"] (defScope s__law_purse) := ⟨rfl, rfl, rfl, by decide +kernel, rfl, by decide +kernel, by decide +kernel⟩
theorem sc_Form__repr_ : FnScope N_Form__repr_ ["self"] (defScope s_Form__repr_) := ⟨rfl, rfl, rfl, by decide +kernel, rfl, by decide +kernel, by decide +kernel⟩
theorem sc_is_integer : FnScope N_is_integer ["value"] (defScope s_is_integer) := ⟨rfl, rfl, rfl, by decide +kernel, rfl, by decide +kernel, by decide +kernel⟩
theorem sc_is_name : FnScope N_is_name ["value"] (defScope s_is_name) := ⟨rfl, rfl, rfl, by decide +kernel, rfl, by decide +kernel, by decide +kernel⟩
theorem sc_is_symbol : FnScope N_is_symbol ["value"] (defScope s_is_symbol) := ⟨rfl, rfl, rfl, by decide +kernel, rfl, by decide +kernel, by decide +kernel⟩
theorem sc_text_of : FnScope N_text_of ["terms"] (defScope s_text_of) := ⟨rfl, rfl, rfl, by decide +kernel, rfl, by decide +kernel, by decide +kernel⟩
theorem sc_Form__init_ : FnScope N_Form__init_ ["own_form", "factors"] (defScope s_Form__init_) := ⟨rfl, rfl, rfl, by decide +kernel, rfl, by decide +kernel, by decide +kernel⟩
theorem sc_term_of : FnScope N_term_of ["part"] (defScope s_term_of) := ⟨rfl, rfl, rfl, by decide +kernel, rfl, by decide +kernel, by decide +kernel⟩
theorem sc_form_of : FnScope N_form_of ["text"] (defScope s_form_of) := ⟨rfl, rfl, rfl, by decide +kernel, rfl, by decide +kernel, by decide +kernel⟩
theorem sc_Form_read : FnScope N_Form_read ["text"] (defScope s_Form_read) := ⟨rfl, rfl, rfl, by decide +kernel, rfl, by decide +kernel, by decide +kernel⟩
theorem sc_Statement__eq_ : FnScope N_Statement__eq_ ["self", "other"] (defScope s_Statement__eq_) := ⟨rfl, rfl, rfl, by decide +kernel, rfl, by decide +kernel, by decide +kernel⟩
theorem sc__law_arguments : FnScope N__law_arguments ["_law_made", "_law_spot"] (defScope s__law_arguments) := ⟨rfl, rfl, rfl, by decide +kernel, rfl, by decide +kernel, by decide +kernel⟩
theorem sc__law_arguments_due : FnScope N__law_arguments_due ["_law_tags", "_law_some", "_law_code", "_law_spot"] (defScope s__law_arguments_due) := ⟨rfl, rfl, rfl, by decide +kernel, rfl, by decide +kernel, by decide +kernel⟩
theorem sc_Form__str_ : FnScope N_Form__str_ ["self"] (defScope s_Form__str_) := ⟨rfl, rfl, rfl, by decide +kernel, rfl, by decide +kernel, by decide +kernel⟩
theorem sc_Statement__init_ : FnScope N_Statement__init_ ["self", "lines"] (defScope s_Statement__init_) := ⟨rfl, rfl, rfl, by decide +kernel, rfl, by decide +kernel, by decide +kernel⟩
theorem sc_check_form : FnScope N_check_form ["value"] (defScope s_check_form) := ⟨rfl, rfl, rfl, by decide +kernel, rfl, by decide +kernel, by decide +kernel⟩
theorem sc_check_name : FnScope N_check_name ["value"] (defScope s_check_name) := ⟨rfl, rfl, rfl, by decide +kernel, rfl, by decide +kernel, by decide +kernel⟩
theorem sc_Copy__init_ : NScope N_Copy__init_ ["self", "target", "to", "source", "start", "amount"] ["__class__"] (defScope s_Copy__init_) := nscope_by (by decide +kernel)
theorem sc_Fill__init_ : NScope N_Fill__init_ ["self", "array", "start", "amount", "letter"] ["__class__"] (defScope s_Fill__init_) := nscope_by (by decide +kernel)
theorem sc_Let__init_ : NScope N_Let__init_ ["self", "field", "form"] ["__class__"] (defScope s_Let__init_) := nscope_by (by decide +kernel)
theorem sc_Resize__init_ : NScope N_Resize__init_ ["self", "array", "length"] ["__class__"] (defScope s_Resize__init_) := nscope_by (by decide +kernel)
theorem sc_Reverse__init_ : NScope N_Reverse__init_ ["self", "array", "start", "amount"] ["__class__"] (defScope s_Reverse__init_) := nscope_by (by decide +kernel)
theorem sc_Swap__init_ : NScope N_Swap__init_ ["self", "first", "at", "second", "start", "amount"] ["__class__"] (defScope s_Swap__init_) := nscope_by (by decide +kernel)
theorem sc__law_by_name : FnScope N__law_by_name ["_law_tags", "_law_some", "_law_code"] (defScope s__law_by_name) := ⟨rfl, rfl, rfl, by decide +kernel, rfl, by decide +kernel, by decide +kernel⟩
theorem sc__law_by_place : FnScope N__law_by_place ["_law_tags", "_law_some", "_law_code"] (defScope s__law_by_place) := ⟨rfl, rfl, rfl, by decide +kernel, rfl, by decide +kernel, by decide +kernel⟩
theorem sc__law_due : FnScope N__law_due ["_law_tags", "_law_said", "_law_code"] (defScope s__law_due) := ⟨rfl, rfl, rfl, by decide +kernel, rfl, by decide +kernel, by decide +kernel⟩
theorem sc__law_small : FnScope N__law_small ["_law_terms"] (defScope s__law_small) := ⟨rfl, rfl, rfl, by decide +kernel, rfl, by decide +kernel, by decide +kernel⟩
theorem sc__law_take : FnScope N__law_take ["_law_purse_here", "_law_many"] (defScope s__law_take) := ⟨rfl, rfl, rfl, by decide +kernel, rfl, by decide +kernel, by decide +kernel⟩
theorem sc__law_total : FnScope N__law_total ["_law_pairs"] (defScope s__law_total) := ⟨rfl, rfl, rfl, by decide +kernel, rfl, by decide +kernel, by decide +kernel⟩
theorem sc__law_form : FnScope N__law_form ["_law_purse_here", "_law_symbols"] (defScope s__law_form) := ⟨rfl, rfl, rfl, by decide +kernel, rfl, by decide +kernel, by decide +kernel⟩
theorem sc__law_name : FnScope N__law_name ["_law_purse_here"] (defScope s__law_name) := ⟨rfl, rfl, rfl, by decide +kernel, rfl, by decide +kernel, by decide +kernel⟩
theorem sc__law_other_name : FnScope N__law_other_name ["_law_purse_here", "_law_taken"] (defScope s__law_other_name) := ⟨rfl, rfl, rfl, by decide +kernel, rfl, by decide +kernel, by decide +kernel⟩
theorem sc__law_names : FnScope N__law_names ["_law_purse_here", "_law_many"] (defScope s__law_names) := ⟨rfl, rfl, rfl, by decide +kernel, rfl, by decide +kernel, by decide +kernel⟩
theorem sc_Statement__repr_ : FnScope N_Statement__repr_ ["self"] (defScope s_Statement__repr_) := ⟨rfl, rfl, rfl, by decide +kernel, rfl, by decide +kernel, by decide +kernel⟩
theorem sc_Statement__str_ : FnScope N_Statement__str_ ["self"] (defScope s_Statement__str_) := ⟨rfl, rfl, rfl, by decide +kernel, rfl, by decide +kernel, by decide +kernel⟩
theorem sc__law_sorts : FnScope N__law_sorts ["_law_made"] (defScope s__law_sorts) := ⟨rfl, rfl, rfl, by decide +kernel, rfl, by decide +kernel, by decide +kernel⟩
theorem sc__law_one_right : FnScope N__law_one_right ["_law_made", "_law_line", "_law_spot"] (defScope s__law_one_right) := ⟨rfl, rfl, rfl, by decide +kernel, rfl, by decide +kernel, by decide +kernel⟩
theorem sc__law_say : FnScope N__law_say ["_law_terms"] (defScope s__law_say) := ⟨rfl, rfl, rfl, by decide +kernel, rfl, by decide +kernel, by decide +kernel⟩
theorem sc__law_unlike : FnScope N__law_unlike ["_law_made", "_law_line"] (defScope s__law_unlike) := ⟨rfl, rfl, rfl, by decide +kernel, rfl, by decide +kernel, by decide +kernel⟩
theorem sc__law_right : FnScope N__law_right ["_law_purse_here"] (defScope s__law_right) := ⟨rfl, rfl, rfl, by decide +kernel, rfl, by decide +kernel, by decide +kernel⟩
theorem sc_law : FnScope N_law ["_law_script"] (defScope s_law) := ⟨rfl, rfl, rfl, by decide +kernel, rfl, by decide +kernel, by decide +kernel⟩
structure Txt (mg : Str → Option Value) : Prop where
  b_len : mg "len" = none
  b_isinstance : mg "isinstance" = none
  b_str : mg "str" = none
  b_int : mg "int" = none
  b_tuple : mg "tuple" = none
  b_bool : mg "bool" = none
  b_dict : mg "dict" = none
  b_range : mg "range" = none
  b_all : mg "all" = none
  b_any : mg "any" = none
  b_sorted : mg "sorted" = none
  b_abs : mg "abs" = none
  b_max : mg "max" = none
  b_min : mg "min" = none
  b_sum : mg "sum" = none
  b_repr : mg "repr" = none
  b_enumerate : mg "enumerate" = none
  b_set : mg "set" = none
  b_divmod : mg "divmod" = none
  c_LETTERS : ∃ t, mg "LETTERS" = some (.str "abcdefghijklmnopqrstuvwxyz" t)
  c_DIGITS : ∃ t, mg "DIGITS" = some (.str "0123456789" t)
  c_MAX_LENGTH : ∃ t, mg "MAX_LENGTH" = some (.int 8 t)
  c_CELL : ∃ t, mg "CELL" = some (.str "@" t)
  c_VIEW : ∃ t, mg "VIEW" = some (.str "view" t)
  c_MAX_PARTS : ∃ t, mg "MAX_PARTS" = some (.int 12 t)
  c_MAX_DEPTH : ∃ t, mg "MAX_DEPTH" = some (.int 4 t)
  c_MAX_IFS : ∃ t, mg "MAX_IFS" = some (.int 4 t)
structure EF (K : PySem.W.Frag) (mg : Str → Option Value) (C : Addr) : Prop where

local macro_rules | `(tactic| walk_at "ne") => `(tactic| first
  | assumption | (apply Ne.symm; assumption)
  | (simp only [List.mem_cons, List.mem_nil_iff, List.not_mem_nil, or_false, not_or, ne_eq, not_false_eq_true, and_true]; first | assumption | (apply Ne.symm; assumption) | (refine And.intro ?_ ?_ <;> first | assumption | (apply Ne.symm; assumption)))
  | exact List.not_mem_nil)
local macro_rules | `(tactic| walk_at "hp") => `(tactic| first
  | assumption | exact upd_same
  | (refine (by assumption : Same _ _) _ _ ?_; walk_at "hp")
  | (refine (by assumption : Rx _ _ _) _ _ (by walk_at "ne") ?_; walk_at "hp"))
local macro_rules | `(tactic| walk_at "rx") => `(tactic| first
  | assumption | exact Rx.refl _ | exact Rx.same (by assumption)
  | (refine Rx.trans ?_ (by assumption); walk_at "rx")
  | (refine Rx.trans ?_ (Rx.same (by assumption)); walk_at "rx"))
local macro_rules | `(tactic| walk_at "sm") => `(tactic| first
  | assumption | exact Same.refl _ | (refine Same.trans ?_ (by assumption); walk_at "sm"))
local macro_rules | `(tactic| walk_at "dr") => `(tactic| first
  | assumption | (refine Dr.same (by assumption) ?_; walk_at "dr"))
local macro_rules | `(tactic| walk_at "sq") => `(tactic| first
  | assumption
  | exact SqL.of (by walk_at "hp") | exact SqT.of (by walk_at "hp"))
local macro_rules | `(tactic| walk_at "side") => `(tactic| first
  | assumption | rfl | decide | omega | (show (0 : Int) < _; omega) | (exact And.intro (by omega) (by omega))
  | (unfold CMul; omega) | (unfold CDiv; omega) | (unfold CPow; decide) | (exact sz1 (by omega)) | (exact sz1 (by simp only [len_app]; omega)) | (exact sz1 (by simp; done)) | (exact sz1 (by simp; omega)))
local macro_rules | `(tactic| walk_at "go1") => `(tactic| first
  | ((with_reducible refine' s_var ?ga ?_); (case ga => rfl))
  | with_reducible refine s_cons ?_
  | with_reducible refine s_nil ?_
  | with_reducible refine s_c ?_
  | ((with_reducible refine' s_gnE ?ge ?_); (case ge => (simp only [List.set_cons_succ, List.set_cons_zero]; rfl)))
  | with_reducible refine s_cb ?_
  | with_reducible refine s_op ?_
  | with_reducible refine s_call ?_
  | with_reducible refine s_seq ?_
  | with_reducible refine s_asg ?_
  | with_reducible refine s_tB ?_
  | with_reducible refine s_test ?_
  | with_reducible refine s_next ?_
  | ((with_reducible refine' s_eq ?ga ?_); (case ga => first | rfl | assumption))
  | ((with_reducible refine' s_ne ?ga ?_); (case ga => first | rfl | assumption))
  | with_reducible refine s_I0 ?_
  | with_reducible refine s_if ?_
  | ((with_reducible refine' s_ixT ?ga ?gb ?_); (case ga => walk_at "sq"); (case gb => first | rfl | assumption))
  | ((with_reducible refine' s_ixL ?ga ?gb ?_); (case ga => walk_at "sq"); (case gb => first | rfl | assumption))
  | ((with_reducible refine' s_lenL ?ga ?_); (case ga => walk_at "sq"))
  | ((with_reducible refine' s_lenT ?ga ?_); (case ga => walk_at "sq"))
  | with_reducible refine s_par ?_
  | with_reducible refine s_ret ?_
  | with_reducible refine s_retN ?_
  | with_reducible refine s_drop ?_
  | with_reducible refine s_gn ?_
  | with_reducible refine s_gsub ?_
  | with_reducible refine s_un ?_
  | with_reducible refine s_and ?_
  | with_reducible refine s_or ?_
  | with_reducible refine s_not ?_
  | with_reducible refine s_andV ?_
  | with_reducible refine s_orV ?_
  | with_reducible refine s_notV ?_
  | with_reducible refine s_ifE ?_
  | with_reducible refine s_chain ?_
  | with_reducible refine s_callZ ?_
  | with_reducible refine s_lst' ?_
  | with_reducible refine s_tup' ?_
  | with_reducible refine s_U ?_
  | with_reducible refine s_int1 ?_
  | with_reducible refine s_abs ?_
  | with_reducible refine s_max2 ?_
  | with_reducible refine s_min2 ?_
  | with_reducible refine s_ltS ?_
  | with_reducible refine s_sign ?_
  | with_reducible refine s_sl ?_
  | with_reducible refine s_noP ?_
  | with_reducible refine s_part ?_
  | with_reducible refine s_revL ?_
  | with_reducible refine s_lc ?_
  | with_reducible refine s_fr ?_
  | with_reducible refine s_iStr ?_
  | with_reducible refine s_iLst ?_
  | with_reducible refine s_iTup ?_
  | with_reducible refine s_iR1 ?_
  | with_reducible refine s_yes ?_
  | with_reducible refine s_dnew ?_
  | with_reducible refine s_bm ?_
  | with_reducible refine s_m1 ?_
  | with_reducible refine s_isStr ?_
  | with_reducible refine s_mkz ?_
  | with_reducible refine s_makeS ?_
  | with_reducible refine s_iEnumS ?_
  | with_reducible refine s_ends ?_
  | with_reducible refine s_ipI ?_
  | with_reducible refine s_con ?_
  | with_reducible refine s_cval ?_
  | with_reducible refine s_revT ?_
  | ((with_reducible refine' s_aug ?ga ?_); (case ga => rfl))
  | with_reducible refine s_fmtD ?_
  | with_reducible refine s_methD ?_
  | with_reducible refine s_callD ?_
  | with_reducible refine s_makeP ?_
  | with_reducible refine s_makeQ ?_
  | with_reducible refine s_cKw ?_
  | with_reducible refine s_find ?_
  | with_reducible refine s_iR2 ?_
  | with_reducible refine s_par3 ?_
  | with_reducible refine s_smX ?_
  | with_reducible refine s_jn ?_
  | with_reducible refine s_js0 ?_
  | with_reducible refine s_js ?_
  | with_reducible refine s_fmt ?_
  | with_reducible refine s_fld ?_
  | with_reducible refine s_sfld ?_
  | with_reducible refine s_dget ?_
  | with_reducible refine s_din ?_
  | with_reducible refine s_dget2 ?_
  | with_reducible refine s_dput ?_
  | with_reducible refine s_repl ?_
  | with_reducible refine s_isN ?_
  | with_reducible refine s_tupF ?_
  | with_reducible refine s_bm0 ?_
  | with_reducible refine s_mk2 ?_
  | with_reducible refine s_meth ?_
  | with_reducible refine s_methZ ?_
  | with_reducible refine s_smeth ?_
  | with_reducible refine s_dc ?_
  | with_reducible refine s_keys ?_
  | ((with_reducible refine' s_fldE ?ga ?gb ?gc ?gd ?_); (case ga => walk_at "hp"); (case gb => assumption); (case gc => assumption); (case gd => rfl))
  | ((with_reducible refine' s_g2E ?ga ?ge ?_); (case ga => walk_at "sq"); (case ge => (simp only [List.set_cons_succ, List.set_cons_zero]; rfl)))
  | ((with_reducible refine' s_g2 ?ga ?_); (case ga => walk_at "sq"))
  | ((with_reducible refine' s_g3E ?ga ?ge ?_); (case ga => walk_at "sq"); (case ge => (simp only [List.set_cons_succ, List.set_cons_zero]; rfl)))
  | ((with_reducible refine' s_g3 ?ga ?_); (case ga => walk_at "sq"))
  | ((with_reducible refine' s_u3E ?ga ?ge ?_); (case ga => walk_at "sq"); (case ge => (simp only [List.set_cons_succ, List.set_cons_zero]; rfl)))
  | ((with_reducible refine' s_u3 ?ga ?_); (case ga => walk_at "sq"))
  | ((with_reducible refine' s_jsE ?ga ?_); (case ga => walk_at "side"))
  | ((with_reducible refine' s_fmtS ?ga ?_); (case ga => walk_at "side"))
  | ((with_reducible refine' s_fmtI ?ga ?_); (case ga => assumption))
  | ((with_reducible refine' s_dgetE ?ga ?gb ?_); (case ga => first | exact Rd.of (by walk_at "hp") | exact Or.inr ⟨_, by walk_at "hp"⟩); (case gb => assumption))
  | ((with_reducible refine' s_dinE ?ga ?_); (case ga => first | exact Rd.of (by walk_at "hp") | exact Or.inr ⟨_, by walk_at "hp"⟩))
  | ((with_reducible refine' s_dg1 ?ga ?_); (case ga => walk_at "hp"))
  | ((with_reducible refine' s_dg2 ?ga ?_); (case ga => walk_at "hp"))
  | ((with_reducible refine' s_dputE ?ga ?gb ?_); (case ga => walk_at "hp"); (case gb => omega))
  | ((with_reducible refine' s_keysE ?ga ?_); (case ga => walk_at "hp"))
  | ((with_reducible refine' s_tyD ?ga ?_); (case ga => walk_at "hp"))
  | ((with_reducible refine' s_methPE ?ga ?gb ?_); (case ga => walk_at "hp"); (case gb => rfl))
  | ((with_reducible refine' s_methE ?ga ?gb ?_); (case ga => walk_at "hp"); (case gb => rfl))
  | ((with_reducible refine' s_I ?ga ?_); (case ga => walk_at "side"))
  | ((with_reducible refine' s_setL ?ga ?gb ?_); (case ga => walk_at "hp"); (case gb => first | rfl | assumption))
  | ((with_reducible refine' s_lenS ?ga ?_); (case ga => walk_at "side"))
  | ((with_reducible refine' s_addS ?ga ?_); (case ga => walk_at "side"))
  | ((with_reducible refine' s_slS ?ga ?_); (case ga => walk_at "side"))
  | ((with_reducible refine' s_ixS ?ga ?gb ?_); (case ga => walk_at "side"); (case gb => first | rfl | assumption))
  | ((with_reducible refine' s_sz ?ga ?_); (case ga => walk_at "side"))
  | ((with_reducible refine' s_tyL ?ga ?_); (case ga => walk_at "sq"))
  | ((with_reducible refine' s_app ?ga ?gb ?_); (case ga => walk_at "hp"); (case gb => exact sz2 (by first | omega | (simp; omega) | (simp; done))))
  | ((with_reducible refine' s_exL ?ga ?_); (case ga => walk_at "sq"))
  | ((with_reducible refine' s_exT ?ga ?_); (case ga => walk_at "sq"))
  | ((with_reducible refine' s_bd ?ga ?gb ?_); (case ga => omega); (case gb => omega))
  | ((with_reducible refine' s_isiS ?ga ?_); (case ga => assumption))
  | ((with_reducible refine' s_isiI ?ga ?_); (case ga => assumption))
  | ((with_reducible refine' s_isiB ?ga ?_); (case ga => assumption))
  | ((with_reducible refine' s_isiT ?ga ?_); (case ga => assumption))
  | ((with_reducible refine' s_par2E ?ge ?_); (case ge => (simp only [List.set_cons_succ, List.set_cons_zero]; rfl)))
  | ((with_reducible refine' s_par3E ?ge ?_); (case ge => (simp only [List.set_cons_succ, List.set_cons_zero]; rfl)))
  | (with_reducible refine ⟨_, rfl, ?_⟩)
  | (with_reducible refine ⟨_, _, rfl, ?_⟩)
  | (with_reducible refine L2.iteT ?_)
  | (with_reducible refine L2.iteF ?_)
  | (with_reducible refine ite_nf ?_)
  | (with_reducible refine ite_nt ?_))
local macro_rules | `(tactic| walk_at "go") => `(tactic| (repeat walk_at "go1"))
local macro_rules | `(tactic| walk_at "gos") => `(tactic| (repeat ((fail_if_success (with_reducible refine s_seqIf ?_)); walk_at "go1")))
section
variable {P : Program} {w : World} {K : PySem.W.Frag} {mg : Str → Option Value} {base : Heap} {C : Addr}
variable {X_Statement X_If : Addr} {CK : Nat → Addr} {file : Str}
theorem ok__law_cell (T : Txt mg) (FC : FormC K mg C) (MU : OwnI K C .Mult) (SC : StmC K mg X_Statement X_If CK) (SW : SupW P K mg file) (FM : FmtC K C) (EF : EF K mg C) (D : At K mg "_law_cell" s__law_cell) :
    Has P w K mg base CX0 "_law_cell" s__law_cell ["_law_script", "_law_k"] 1 (spCellP K) := by
  have nd := sc__law_cell.nd
  refine has_mk D sc__law_cell (fun vs H Q E h => ?len) (fun _ _ _ _ _ _ us hl => match us, hl with | [_, _], _ => rfl) (fun f cdv A outer s H vs Q E hr hgd h => ?bd)
  case len =>
    obtain ⟨a, ns, j, rfl, _⟩ := h
    rfl
  case bd =>
    obtain ⟨a, ns, j, rfl, hS, hn, j0, j1, k⟩ := h
    refine ⟨_, (pss_cons (ps_if (pt_cmpR op_lt (pv 1) (pe_callB (lenK K) rfl T.b_len (by decide +kernel) (pa_cons (pv 0) pa_nil)) (nomark _)) (pss_one (ps_ret (pe_ix (ixL K) (pv 0) (pv 1) (fun _ _ => rfl)))) pss_nil)
      (pss_cons (ps_set (i := 2) nd rfl (Or.inl rfl) (pe_op op_add pe_int (pe_op op_mul (pe_op op_mul pe_int (pv 1)) (pv 1))))
      (pss_cons (ps_for PassesOwn.never rfl (piL K (he := (pe_slice (slLK K) (pv 0) po_none (po_some pe_int)))) (pg_name (i := 3) nd rfl (Or.inl rfl))
      (pss_one (ps_set (i := 2) nd rfl (Or.inl rfl) (pe_op op_mod (pe_callTy c_int1 rfl T.b_int (by decide +kernel) (pa_cons (pe_op op_add (pe_op op_mul (pv 2) pe_int) (pv 3)) pa_nil)) pe_int))))
      (pss_one (ps_ret (pv 2)))))), ?_⟩
    refine s_st (σ' := [some (.ref a), some (.int j), none, none]) rfl ?_
    have hl : (ns.map V.int).length = ns.length := List.length_map _
    walk_at "go"
    refine ite_b (fun e => ?_) (fun e => ?_)
    · have hlt : j < ns.length := by have := of_decide_eq_true e; rw [hl] at this; exact this
      obtain ⟨m, hm⟩ : ∃ m : Int, atI (ns.map V.int) j = some (.int m) := by
        obtain ⟨v, hv, hv2, _⟩ := atI_ofI (xs := ns.map V.int) j0 (by rw [hl]; exact hlt)
        obtain ⟨m, _, rfl⟩ := List.mem_map.mp hv2
        exact ⟨m, hv⟩
      walk_at "go"
      exact k m H (Same.refl _)
    · walk_at "go"
      refine s_slL hS fun c H1 hc r1 e1 => ?_
      walk_at "go"
      refine for_it (walk_list (xs := cutV (ns.map V.int) none (some 5))) (fun i σ' H' => Same H H' ∧ H' c = some (.lst (cutV (ns.map V.int) none (some 5))) ∧ ∃ m o3, σ' = [some (.ref a), some (.int j), some (.int m), o3]) ⟨r1, e1, _, _, rfl⟩ (fun i σ' H' _ z => .of z.2.1) ?_ ?_
      · rintro i x σ' H2 H3 hi ⟨r2, e2, m, o3, rfl⟩ ⟨rfl, hx⟩
        obtain ⟨b, _, rfl⟩ := List.mem_map.mp (mem_cut (List.mem_of_getElem? hx))
        walk_at "go"
        exact ⟨r2, e2, _, _, rfl⟩
      · rintro σ' H2 ⟨r2, e2, m, o3, rfl⟩
        walk_at "go"
        exact k m H2 r2

theorem ok__law_purse (T : Txt mg) (FC : FormC K mg C) (MU : OwnI K C .Mult) (SC : StmC K mg X_Statement X_If CK) (SW : SupW P K mg file) (FM : FmtC K C) (EF : EF K mg C) (D : At K mg "_law_purse" s__law_purse) :
    Has P w K mg base CX0 "_law_purse" s__law_purse ["_law_number"] 1 spPurse := by
  have nd := sc__law_purse.nd
  refine has_mk D sc__law_purse (fun vs H Q E h => ?len) (fun _ _ _ _ _ _ us hl => match us, hl with | [_], _ => rfl) (fun f cdv A outer s H vs Q E hr hgd h => ?bd)
  case len =>
    obtain ⟨m, rfl, _⟩ := h
    rfl
  case bd =>
    obtain ⟨m, rfl, k⟩ := h
    refine ⟨_, (pss_one (ps_ret (pe_lst (pa_cons (pe_ifExp (PW.pt (pw_or (pt_cmpR op_lt (pv 0) pe_int (nomark _)) (pw_or1 (pt_cmpR op_ge (pv 0) (pe_op op_pow pe_int pe_int) (nomark _))))) (pe_callB c_abs rfl T.b_abs (by decide +kernel) (pa_cons (pv 0) pa_nil)) pe_int) (pa_cons (pe_op op_mod (pe_callTy c_int1 rfl T.b_int (by decide +kernel) (pa_cons (pv 0) pa_nil)) pe_int) (pa_cons pe_int pa_nil)))))), ?_⟩
    refine s_st (σ' := [some (.int m)]) rfl ?_
    have fin : ∀ d : Int, 0 ≤ d → G.Mk (HO.lst [.int d, .int (m % 2147483629), .int 0]) H Q := fun d h0 => s_mk fun p H1 hp r1 e1 => k p H1 hp r1 ⟨d, _, 0, e1, h0, Int.emod_nonneg _ (by decide), Int.emod_lt_of_pos _ (by decide), Int.le_refl _, by simp⟩
    walk_at "go"
    refine ite_b (fun e => ?_) (fun e => ?_)
    · walk_at "go"
      refine fin _ ?_
      split <;> omega
    · walk_at "go"
      refine ite_b (fun e => ?_) (fun e => ?_)
      · walk_at "go"
        refine fin _ ?_
        split <;> omega
      · walk_at "go"
        exact fin _ (Int.le_refl _)

theorem ok_Form__repr_ (T : Txt mg) (FC : FormC K mg C) (MU : OwnI K C .Mult) (SC : StmC K mg X_Statement X_If CK) (SW : SupW P K mg file) (FM : FmtC K C) (EF : EF K mg C) (D : AtM K C "__repr__" "Form.__repr__" s_Form__repr_) :
    HasR P w K mg base C "__repr__" ["self"] 1 (spReprF C) := by
  have nd := sc_Form__repr_.nd
  refine hasR_mk D sc_Form__repr_ (fun vs H Q E h => ?len) (fun _ _ _ _ _ _ us hl => match us, hl with | [_], _ => rfl) (fun f cdv A outer s H vs Q E hr h => ?bd)
  case len =>
    obtain ⟨v, q, rfl, _⟩ := h
    rfl
  case bd =>
    obtain ⟨v, q, rfl, ⟨a, dx, t, y, xs, rfl, fi⟩, hl, k⟩ := h
    have fcls := FC.cls
    have fnt := FC.nt
    have fns := FC.ns
    have fnx := FC.nx
    have fins := fi.ins
    have h1 : (Str.ofString "Form(").length = 5 := by decide +kernel
    have h2 : (Str.ofString ")").length = 1 := by decide +kernel
    have h0 : Str.empty.length = 0 := rfl
    refine ⟨_, (pss_one (ps_ret (pe_joinedN (PJ.cons pe_str (PJ.cons (pe_fmt (fldK K (he := (pv 0)))) (PJ.cons pe_str PJ.nil)))))), ?_⟩
    walk_at "go"
    rw [emp_app]
    exact k

theorem ok_is_integer (T : Txt mg) (FC : FormC K mg C) (MU : OwnI K C .Mult) (SC : StmC K mg X_Statement X_If CK) (SW : SupW P K mg file) (FM : FmtC K C) (EF : EF K mg C) (D : At K mg "is_integer" s_is_integer) :
    Has P w K mg base CX0 "is_integer" s_is_integer ["value"] 1 (spAsk 0 fun _ v => isI v) := by
  have nd := sc_is_integer.nd
  refine has_mk D sc_is_integer (fun vs H Q E h => ?len) (fun _ _ _ _ _ _ us hl => match us, hl with | [_], _ => rfl) (fun f cdv A outer s H vs Q E hr hgd h => ?bd)
  case len =>
    obtain ⟨v, Av, rfl, _⟩ := h
    rfl
  case bd =>
    obtain ⟨v, Av, rfl, t, k⟩ := h
    refine ⟨_, (pss_one (ps_ret (pe_and (pe_callB (isiK K) rfl T.b_isinstance (by decide +kernel) (pa_cons (pv 0) (pa_cons (pe_bltn (v := .ty "int") rfl T.b_int (by decide +kernel) rfl) pa_nil))) (pe_one (pe_not (pe_callB (isiK K) rfl T.b_isinstance (by decide +kernel) (pa_cons (pv 0) (pa_cons (pe_bltn (v := .ty "bool") rfl T.b_bool (by decide +kernel) rfl) pa_nil)))))))), ?_⟩
    walk_at "go"
    refine ite_b (fun e => ?_) (fun e => ?_)
    · walk_at "go"
      exact rtb (k _ (Same.refl _)) (by cases v <;> first | rfl | (simp [isI, isB] at e))
    · exact rtb (k _ (Same.refl _)) (by cases v <;> first | rfl | (simp [isI, isB] at e))

theorem ok_is_name (T : Txt mg) (FC : FormC K mg C) (MU : OwnI K C .Mult) (SC : StmC K mg X_Statement X_If CK) (SW : SupW P K mg file) (FM : FmtC K C) (EF : EF K mg C) (D : At K mg "is_name" s_is_name) :
    Has P w K mg base CX0 "is_name" s_is_name ["value"] 1 (spAsk 0 fun _ v => nameV v) := by
  have nd := sc_is_name.nd
  refine has_mk D sc_is_name (fun vs H Q E h => ?len) (fun _ _ _ _ _ _ us hl => match us, hl with | [_], _ => rfl) (fun f cdv A outer s H vs Q E hr hgd h => ?bd)
  case len =>
    obtain ⟨v, Av, rfl, _⟩ := h
    rfl
  case bd =>
    obtain ⟨v, Av, rfl, t, k⟩ := h
    refine ⟨_, (pss_cons (ps_if (PW.pt (pw_or (pt_not (pt_val (pe_callB (isiK K) rfl T.b_isinstance (by decide +kernel) (pa_cons (pv 0) (pa_cons (pe_bltn (v := .ty "str") rfl T.b_str (by decide +kernel) rfl) pa_nil))))) (pw_or (pt_not (pt_chain op_le op_le pe_int (pe_callB (lenK K) rfl T.b_len (by decide +kernel) (pa_cons (pv 0) pa_nil)) (pe_gI rfl T.c_MAX_LENGTH))) (pw_or1 (pt_cmpR op_eq (pv 0) (pe_gS rfl T.c_VIEW) (nomark _)))))) (pss_one (ps_ret pe_bl)) pss_nil)
      (pss_one (ps_ret (pe_and (pe_cmpR o_sign (pe_ix ix_str (pv 0) pe_int (fun _ _ => rfl)) (pe_gS rfl T.c_LETTERS) rfl) (pe_one (pe_callB (allK K) rfl T.b_all (by decide +kernel) (pa_cons (pe_lc (own := [("sign", 1)]) (g := gName 1) (tt := tYes) rfl nd (pi_str (pv 0)) (blkOk_by (N := N_is_name) (sc := defScope s_is_name) (own := [("sign", 1)]) (by decide +kernel)) (fun _ _ _ _ _ => (pg_name (i := 1) nd rfl (Or.inl rfl))) (fun _ _ _ _ _ => pts_nil) (fun _ _ _ _ _ => (pe_cmpR o_sign (pv 1) (pe_op o_addS (pe_gS rfl T.c_LETTERS) (pe_gS rfl T.c_DIGITS)) rfl))) pa_nil))))))), ?_⟩
    cases hs : isS v with
    | false =>
      walk_at "go"
      refine ite_t (by rw [hs]; rfl) ?_
      walk_at "go"
      exact rtb (k _ (Same.refl _)) (by cases v <;> first | rfl | cases hs)
    | true =>
      obtain ⟨z, rfl⟩ := isS_str hs
      have hz : z.length ≤ 100000 := t
      have k0 : ∀ {b : Bool} {H' : Hp}, nameS z = b → Same H H' → Q (.bl b) H' := fun e r => rtb (k _ r) e.symm
      walk_at "go"
      refine ite_f rfl ?_
      walk_at "go"
      refine ite_b (fun e1 => ?_) (fun e1 => ?_)
      · walk_at "go"
        refine ite_b (fun e2 => ?_) (fun e2 => ?_)
        · walk_at "go"
          exact k0 (by simp at e2; simp [nameS]; omega) (Same.refl _)
        · walk_at "go"
          refine ite_b (fun e3 => ?_) (fun e3 => ?_)
          · walk_at "go"
            exact k0 (by simp at e3; simp [nameS, e3]) (Same.refl _)
          · walk_at "go"
            obtain ⟨c, cs, hc⟩ := cons_of_len (z := z) (by simp at e1; omega)
            refine s_ixS (c := c) (sz1 (by omega)) (by rw [hc]; exact atI_0) ?_
            walk_at "go"
            refine ite_b (fun e4 => ?_) (fun e4 => ?_)
            · walk_at "go"
              refine lcP wx_str (sgV (letS ++ digS)) (fun _ _ => trivial) (by rw [strV_len]; omega) ?_ gm_name ?_
              · intro x H1 Q1 hx r q
                obtain ⟨c', rfl⟩ := mem_strV hx
                refine ⟨rfl, ?_⟩
                walk_at "go"
                exact q _ (Same.refl _)
              · intro D H' hD r hd
                walk_at "go"
                rw [sgV_map] at hd
                refine s_all hd ?_
                refine k0 ?_ r
                simp at e1 e2 e3 e4
                simp [nameS, e3, hc]
                intro _ _
                exact ⟨⟨by omega, by omega⟩, e4⟩
            · walk_at "go"
              exact k0 (by simp at e4; simp [nameS, hc]; intros; simp_all [letS]) (Same.refl _)
      · walk_at "go"
        exact k0 (by simp at e1; simp [nameS]; omega) (Same.refl _)

theorem ok_is_symbol (T : Txt mg) (FC : FormC K mg C) (MU : OwnI K C .Mult) (SC : StmC K mg X_Statement X_If CK) (SW : SupW P K mg file) (FM : FmtC K C) (EF : EF K mg C) (D : At K mg "is_symbol" s_is_symbol) (h_is_name : Has P w K mg base CX0 "is_name" s_is_name ["value"] 1 (spAsk 0 fun _ v => nameV v)) :
    Has P w K mg base CX0 "is_symbol" s_is_symbol ["value"] 2 (spAsk 0 fun _ v => symV v) := by
  have nd := sc_is_symbol.nd
  refine has_mk D sc_is_symbol (fun vs H Q E h => ?len) (fun _ _ _ _ _ _ us hl => match us, hl with | [_], _ => rfl) (fun f cdv A outer s H vs Q E hr hgd h => ?bd)
  case len =>
    obtain ⟨v, Av, rfl, _⟩ := h
    rfl
  case bd =>
    obtain ⟨v, Av, rfl, t, k⟩ := h
    refine ⟨_, (pss_one (ps_ret (pe_and (pe_callB (isiK K) rfl T.b_isinstance (by decide +kernel) (pa_cons (pv 0) (pa_cons (pe_bltn (v := .ty "str") rfl T.b_str (by decide +kernel) rfl) pa_nil))) (pe_one (pe_or (pe_cmpR op_eq (pv 0) (pe_gS rfl T.c_CELL) (nomark _)) (pe_one (peH h_is_name (hr.mono (by decide)) hgd rfl (pa_cons (pv 0) pa_nil)))))))), ?_⟩
    cases hs : isS v with
    | false =>
      walk_at "go"
      refine ite_f hs ?_
      exact rtb (k _ (Same.refl _)) (by cases v <;> first | rfl | cases hs)
    | true =>
      obtain ⟨z, rfl⟩ := isS_str hs
      walk_at "go"
      refine ite_t rfl ?_
      walk_at "go"
      refine ite_b (fun e => ?_) (fun e => ?_)
      · exact rtb (k _ (Same.refl _)) (by simp [symV] at e ⊢; exact Or.inl e)
      · walk_at "go"
        refine ⟨.str z, Av, rfl, t, fun H' r => ?_⟩
        exact rtb (k _ r) (by simp [symV, nameV] at e ⊢; simp [e])

theorem ok_text_of (T : Txt mg) (FC : FormC K mg C) (MU : OwnI K C .Mult) (SC : StmC K mg X_Statement X_If CK) (SW : SupW P K mg file) (FM : FmtC K C) (EF : EF K mg C) (D : At K mg "text_of" s_text_of) :
    Has P w K mg base CX0 "text_of" s_text_of ["terms"] 1 (spTextOf K) := by
  have nd := sc_text_of.nd
  refine has_mk D sc_text_of (fun vs H Q E h => ?len) (fun _ _ _ _ _ _ us hl => match us, hl with | [_], _ => rfl) (fun f cdv A outer s H vs Q E hr hgd h => ?bd)
  case len =>
    obtain ⟨t, xs, q, rfl, _⟩ := h
    rfl
  case bd =>
    obtain ⟨t, xs, q, rfl, ht, hp, rb, k⟩ := h
    refine ⟨_, (pss_cons (ps_set (i := 1) nd rfl (Or.inl rfl) (pe_lst pa_nil))
      (pss_cons (ps_for PassesOwn.never rfl (piT K (he := (pv 0))) (gT K (n := 2) (hc := rfl) (hg := (pgs_cons (pg_name (i := 2) nd rfl (Or.inl rfl)) (pgs_cons (pg_name (i := 3) nd rfl (Or.inl rfl)) pgs_nil))))
      (pss_cons (ps_set (i := 4) nd rfl (Or.inl rfl) (pe_ifExp (pt_cmpR op_eq (pe_callB c_abs rfl T.b_abs (by decide +kernel) (pa_cons (pv 3) pa_nil)) pe_int (nomark _)) (pv 2) (pe_joinedN (PJ.cons (pe_fmt (pe_callB c_abs rfl T.b_abs (by decide +kernel) (pa_cons (pv 3) pa_nil))) (PJ.cons pe_str (PJ.cons (pe_fmt (pv 2)) PJ.nil))))))
      (pss_one (ps_if (pt_cmpR (eqDK K (hu := hr.units)) (pv 1) (pe_lst pa_nil) (nomark _)) (pss_one (ps_expr (appendK K (ho := (pv 1)) (ha := (pa_cons (pe_ifExp (pt_cmpR op_lt (pv 3) pe_int (nomark _)) (pe_joinedN (PJ.cons pe_str (PJ.cons (pe_fmt (pv 4)) PJ.nil))) (pv 4)) pa_nil))))) (pss_one (ps_expr (appendK K (ho := (pv 1)) (ha := (pa_cons (pe_ifExp (pt_cmpR op_lt (pv 3) pe_int (nomark _)) (pe_joinedN (PJ.cons pe_str (PJ.cons (pe_fmt (pv 4)) PJ.nil))) (pe_joinedN (PJ.cons pe_str (PJ.cons (pe_fmt (pv 4)) PJ.nil)))) pa_nil)))))))))
      (pss_one (ps_ret (pe_ifExp (pt_cmpR (neDK K (hu := hr.units)) (pv 1) (pe_lst pa_nil) (nomark _)) (joinK K (ho := pe_str) (he := (pv 1))) pe_str))))), ?_⟩
    walk_at "go"
    refine s_mk fun w0 H1 hw r1 e1 => ?_
    walk_at "go"
    have ht1 := Same.sqt r1 ht
    walk_at "go"
    have hlen := hp.len
    have hq1 := rb.len
    refine lc_of (walk_tup (xs := xs)) (fun i σ H2 => Same H H2 ∧ ∃ o1 o2 o3, σ = [some (.ref t), some (.ref w0), o1, o2, o3] ∧ H2 w0 = some (.lst ((wordsR (q.take i)).map V.str))) ⟨r1, _, _, _, rfl, e1⟩ (fun i σ H2 _ h => Same.sqt h.1 ht) ?_ ?_
    · rintro i x σ H2 H3 hi ⟨r2, o1, o2, o3, rfl, hw2⟩ ⟨rfl, hx⟩
      obtain ⟨p, t1, hq, rfl, hpt⟩ := hp.at hx
      have hpt2 := r2 _ _ hpt
      have hpq : p ∈ q := List.mem_of_getElem? hq
      have hsy := rb.sym p hpq
      have hbd := rb.bd p hpq
      have hl1 := (sym_len hsy).2
      have hl2 := len_abs hbd
      have hl3 := bd_abs hbd
      have hl4 := len_word hsy hbd
      have hls : (Str.ofString "*").length = 1 := by decide +kernel
      have hlm : (Str.ofString "-").length = 1 := by decide +kernel
      have hl5 : (Str.ofString " - ").length = 3 := by decide +kernel
      have hl6 : (Str.ofString " + ").length = 3 := by decide +kernel
      have hle : Str.empty.length = 0 := rfl
      have has : ∀ z ∈ wordsR (q.take i), asc z := asc_words fun p hp => rb.sym p (List.mem_of_mem_take hp)
      have htk := take_snoc hq
      have hkl : (wordsR (q.take i)).length ≤ 1000 := by rw [words_len, List.length_take]; omega
      refine s_g2 (SqT.of hpt2) ?_
      have fin : ∀ (H5 : Hp) (z : Str), Same H3 H5 → z = (if q.take i = [] then partR p else tailR p) → H5 w0 = some (.lst ((wordsR (q.take i)).map V.str)) → Same H (upd H5 w0 (.lst ((wordsR (q.take i)).map V.str ++ [V.str z]))) ∧ ∃ o1 o2 o3, [some (V.ref t), some (V.ref w0), some (V.str p.1), some (V.int p.2), some (V.str (wordR p))] = [some (V.ref t), some (V.ref w0), o1, o2, o3] ∧ upd H5 w0 (.lst ((wordsR (q.take i)).map V.str ++ [V.str z])) w0 = some (.lst ((wordsR (q.take (i + 1))).map V.str)) := by
        intro H5 z r5 ez h5
        refine ⟨fun a o e => ?_, _, _, _, rfl, ?_⟩
        · rw [upd_ne (ne_of_none e hw)]
          exact r5 _ _ (r2 _ _ e)
        · rw [upd_same, htk, words_snoc, ez, List.map_append]
          rfl
      with_reducible refine s_seqJ (fun σ' H' => σ' = [some (.ref t), some (.ref w0), some (.str p.1), some (.int p.2), some (.str (wordR p))] ∧ H' = H3) ?_ (fun N hN => ?_)
      · rintro σ' H' ⟨rfl, rfl⟩
        walk_at "go"
        refine s_mk fun w1 H4 hw4 r4 e4 => ?_
        have hw5 : H4 w0 = some (.lst ((wordsR (q.take i)).map V.str)) := by walk_at "hp"
        refine s_eqNil hw5 e4 has ?_
        walk_at "go"
        refine ite_b (fun e => ?_) (fun e => ?_)
        · have e' : q.take i = [] := words_nil.mp (by simpa using e)
          walk_at "go"
          refine ite_b (fun e2 => ?_) (fun e2 => ?_)
          · walk_at "go"
            exact fin _ _ r4 (by rw [emp_app, if_pos e', partR, if_pos (by simpa using e2)]) hw5
          · walk_at "go"
            exact fin _ _ r4 (by rw [if_pos e', partR, if_neg (by simpa using e2)]) hw5
        · have e' : ¬ q.take i = [] := fun z => by simp [words_nil.mpr z] at e
          walk_at "go"
          refine ite_b (fun e2 => ?_) (fun e2 => ?_)
          · walk_at "go"
            exact fin _ _ r4 (by rw [emp_app, if_neg e', tailR, if_pos (by simpa using e2)]) hw5
          · walk_at "go"
            exact fin _ _ r4 (by rw [emp_app, if_neg e', tailR, if_neg (by simpa using e2)]) hw5
      · walk_at "go"
        refine ite_b (fun e => ?_) (fun e => ?_)
        · walk_at "go"
          refine hN _ _ ⟨?_, rfl⟩
          have e' : absI p.2 = 1 := by simpa [absI] using e
          simp [wordR, e']
        · walk_at "go"
          refine hN _ _ ⟨?_, rfl⟩
          have e' : ¬ absI p.2 = 1 := by simpa [absI] using e
          rw [emp_app]
          simp [wordR, e']
          rfl
    · rintro σ H2 ⟨r2, o1, o2, o3, rfl, hw2⟩
      have eq : q.take xs.length = q := List.take_of_length_le (by omega)
      rw [eq] at hw2
      walk_at "go"
      refine s_mk fun w1 H4 hw4 r4 e4 => ?_
      have hw5 : H4 w0 = some (.lst ((wordsR q).map V.str)) := by walk_at "hp"
      refine s_neNil hw5 e4 (asc_words rb.sym) ?_
      walk_at "go"
      refine ite_b (fun e => ?_) (fun e => ?_)
      · have e' : ¬ q = [] := fun z => by simp [words_nil.mpr z] at e
        walk_at "go"
        have hsw := sum_words rb
        refine s_join hw5 ?_ ?_
        · have h0 : (Str.ofString "").length = 0 := by decide +kernel
          rw [h0]
          omega
        · have et : textR q = Txt.join "" (wordsR q) := by rw [textR, if_neg e']
          have := k H4 (Same.trans r2 r4)
          rw [et] at this
          exact this
      · have e' : q = [] := words_nil.mp (by simpa using e)
        walk_at "go"
        have := k H4 (Same.trans r2 r4)
        rw [e', text_nil] at this
        exact this

theorem ok_Form__init_ (T : Txt mg) (FC : FormC K mg C) (MU : OwnI K C .Mult) (SC : StmC K mg X_Statement X_If CK) (SW : SupW P K mg file) (FM : FmtC K C) (EF : EF K mg C) (D : AtK K mg C "Form" "Form.__init__" s_Form__init_) (h_is_integer : Has P w K mg base CX0 "is_integer" s_is_integer ["value"] 1 (spAsk 0 fun _ v => isI v)) (h_is_symbol : Has P w K mg base CX0 "is_symbol" s_is_symbol ["value"] 2 (spAsk 0 fun _ v => symV v)) (h_text_of : Has P w K mg base CX0 "text_of" s_text_of ["terms"] 1 (spTextOf K)) :
    HasK P w K mg base C "Form" 3 (spMake C) := by
  have nd := sc_Form__init_.nd
  refine hasK_mk (sp := spInit C) D rfl sc_Form__init_ (fun f cdv A outer s H vs Q E hr hgd h => ?bd)
  case bd =>
    obtain ⟨a, dx, d, r, rfl, ha, hd, nr, rb, k⟩ := h
    have fcls := FC.cls
    have fnt := FC.nt
    have fns := FC.ns
    have fnx := FC.nx
    refine ⟨_, (pss_cons (ps_lock (ps_for PassesOwn.never rfl (pi_keys (pv 1)) (pg_name (i := 2) nd rfl (Or.inl rfl))
      (pss_one (ps_if (pt_not (pt_val (peH h_is_symbol (hr.mono (by decide)) hgd rfl (pa_cons (pv 2) pa_nil)))) (pss_one ps_never) pss_nil))))
      (pss_cons (ps_lock (ps_for PassesOwn.never rfl (pi_keys (pv 1)) (pg_name (i := 2) nd rfl (Or.inl rfl))
      (pss_one (ps_if (pt_not (pt_val (peH h_is_integer (hr.mono (by decide)) hgd rfl (pa_cons (pe_dget (hu_of hr) (pv 1) (pv 2) (fun _ _ => rfl)) pa_nil)))) (pss_one ps_never) pss_nil))))
      (pss_cons (sfldK K (ha := (pv 0)) (hv := (pe_callTy (tupFK K) rfl T.b_tuple (by decide +kernel) (pa_cons (pe_callB (sortSIK K) rfl T.b_sorted (by decide +kernel) (pa_cons (pe_lock (pe_lc (own := [("symbol", 2)]) (g := gName 2) rfl nd (pi_keys (pv 1)) (blkOk_by (N := N_Form__init_) (sc := defScope s_Form__init_) (own := [("symbol", 2)]) (by decide +kernel)) (fun _ _ _ _ _ => (pg_name (i := 2) nd rfl (Or.inl rfl))) (fun _ _ _ _ _ => (pts_one (pt_cmpR op_ne (pe_dget (hu_of hr) (pv 1) (pv 2) (fun _ _ => rfl)) pe_int (nomark _)))) (fun _ _ _ _ _ => (pe_tup (pa_cons (pv 2) (pa_cons (pe_dget (hu_of hr) (pv 1) (pv 2) (fun _ _ => rfl)) pa_nil)))))) pa_nil)) pa_nil))))
      (pss_cons (sfldK K (ha := (pv 0)) (hv := (pe_callTy (tupOfK K) rfl T.b_tuple (by decide +kernel) (pa_cons (pe_lc (own := [("symbol", 2), ("factor", 3)]) (g := gTup K 2 (gCons (gName 2) (gCons (gName 3) gNil))) (tt := tYes) rfl nd (piT K (he := (fldK K (he := (pv 0))))) (blkOk_by (N := N_Form__init_) (sc := defScope s_Form__init_) (own := [("symbol", 2), ("factor", 3)]) (by decide +kernel)) (fun _ _ _ _ _ => (gT K (n := 2) (hc := rfl) (hg := (pgs_cons (pg_name (i := 2) nd rfl (Or.inl rfl)) (pgs_cons (pg_name (i := 3) nd rfl (Or.inl rfl)) pgs_nil))))) (fun _ _ _ _ _ => pts_nil) (fun _ _ _ _ _ => (pv 2))) pa_nil))))
      (pss_one (sfldK K (ha := (pv 0)) (hv := (peH h_text_of (hr.mono (by decide)) hgd rfl (pa_cons (fldK K (he := (pv 0))) pa_nil))))))))), ?_⟩
    with_reducible refine s_seqJ (fun σ' H' => ∃ o1, σ' = [some (.ref a), some (.ref d), o1, none] ∧ Same H H') ?_ (fun N hN => ?_)
    rotate_left
    · refine s_lock hd fun od => ?_
      walk_at "go"
      refine ⟨d, od, rfl, .inl ⟨kvR r, upd_same, ?_⟩⟩
      refine lc_of (walk_keys (kvs := kvR r)) (fun i σ H2 => Same (upd H d (.frz od (.dK (kvR r)))) H2 ∧ ∃ o1, σ = [some (.ref a), some (.ref d), o1, none]) ⟨Same.refl _, _, rfl⟩ (fun i σ H2 _ h => h.1 _ _ upd_same) ?_ ?_
      · rintro i x σ H2 H3 hi ⟨r2, o1, rfl⟩ ⟨rfl, kk, v, hk, ex⟩
        obtain ⟨p, hp, e⟩ := kvR_at hk
        cases e
        obtain rfl : x = .str p.1 := ex
        have hpr := List.mem_of_getElem? hp
        have hl := (sym_len (rb.sym p hpr)).2
        have hv : valR r p.1 = some p.2 := by rw [val_mem (mem_keys hpr), fac_mem nr hpr]
        have hfz : H3 d = some (.frz od (.dK (kvR r))) := r2 _ _ upd_same
        walk_at "go"
        refine ⟨_, fun _ => False, rfl, Th.str (by omega), fun H4 r4 => ?_⟩
        walk_at "go"
        refine ite_f (by show (!symV (.str p.1)) = false; have := rb.sym p hpr; unfold symS at this; simp [symV, this]) ?_
        walk_at "go"
        exact ⟨Same.trans r2 r4, _, rfl⟩
      · rintro σ H2 ⟨r2, o1, rfl⟩
        obtain ⟨l1, l2⟩ := lock_same hd r2
        exact ⟨l1, hN _ _ ⟨o1, rfl, l2⟩⟩
    rintro σ1 H1 ⟨o1, rfl, r1⟩
    have hd1 := r1 _ _ hd
    have ha1 := r1 _ _ ha
    with_reducible refine s_seqJ (fun σ' H' => ∃ o1, σ' = [some (.ref a), some (.ref d), o1, none] ∧ Same H H') ?_ (fun N hN => ?_)
    rotate_left
    · refine s_lock hd1 fun od => ?_
      walk_at "go"
      refine ⟨d, od, rfl, .inl ⟨kvR r, upd_same, ?_⟩⟩
      refine lc_of (walk_keys (kvs := kvR r)) (fun i σ H2 => Same (upd H1 d (.frz od (.dK (kvR r)))) H2 ∧ ∃ o1, σ = [some (.ref a), some (.ref d), o1, none]) ⟨Same.refl _, _, rfl⟩ (fun i σ H2 _ h => h.1 _ _ upd_same) ?_ ?_
      · rintro i x σ H2 H3 hi ⟨r2, o1, rfl⟩ ⟨rfl, kk, v, hk, ex⟩
        obtain ⟨p, hp, e⟩ := kvR_at hk
        cases e
        obtain rfl : x = .str p.1 := ex
        have hpr := List.mem_of_getElem? hp
        have hl := (sym_len (rb.sym p hpr)).2
        have hv : valR r p.1 = some p.2 := by rw [val_mem (mem_keys hpr), fac_mem nr hpr]
        have hfz : H3 d = some (.frz od (.dK (kvR r))) := r2 _ _ upd_same
        walk_at "go"
        refine ⟨_, fun _ => False, rfl, Th.int, fun H4 r4 => ?_⟩
        walk_at "go"
        refine ite_f rfl ?_
        walk_at "go"
        exact ⟨Same.trans r2 r4, _, rfl⟩
      · rintro σ H2 ⟨r2, o1, rfl⟩
        obtain ⟨l1, l2⟩ := lock_same hd1 r2
        exact ⟨l1, hN _ _ ⟨o1, rfl, Same.trans r1 l2⟩⟩
    rintro σ2 H2 ⟨o2, rfl, r2⟩
    have hd2 := r2 _ _ hd
    have ha2 := r2 _ _ ha
    have nad : a ≠ d := fun z => by rw [z, hd] at ha; cases ha
    have hrl := rb.len
    with_reducible refine s_seqJ (fun σ' H' => ∃ o1 t xs q, σ' = [some (.ref a), some (.ref d), o1, none] ∧ CanOf r q ∧ Rx [a] H H' ∧ H' a = some (.ins C dx [("terms", .ref t)]) ∧ FT H' t xs ∧ PrsL H' xs q) ?_ (fun N hN => ?_)
    rotate_left
    · walk_at "go"
      refine s_lockE hd2 fun od => ?_
      walk_at "go"
      refine ⟨d, od, rfl, .inl ⟨kvR r, upd_same, ?_⟩⟩
      refine lcR (walk_keys (kvs := kvR r)) (fun i => r[i]?.bind fun p => if p.2 ≠ 0 then some p else none) PrR tpR_pr (fun H3 r3 => r3 _ _ upd_same) (fun i H1 x H2 y => y.1 ▸ Same.refl _) (by rw [kvR_len]; omega) ?_ ?_
      · rintro i x H3 H4 K1 K2 hi r3 ⟨rfl, kk, v, hk, ex⟩ c1 c2
        obtain ⟨p, hp, e⟩ := kvR_at hk
        cases e
        obtain rfl : x = .str p.1 := ex
        have hpr := List.mem_of_getElem? hp
        have hv : valR r p.1 = some p.2 := by rw [val_mem (mem_keys hpr), fac_mem nr hpr]
        have hfz : H4 d = some (.frz od (.dK (kvR r))) := r3 _ _ upd_same
        refine ⟨rfl, ?_⟩
        walk_at "go"
        refine ite_b (fun e => ?_) (fun e => ?_)
        · have e' : p.2 ≠ 0 := by simpa using e
          walk_at "go"
          refine s_mk fun t0 H5 ht0 r5 e5 => ?_
          exact c1 _ _ p (by rw [hp]; simp [e']) r5 ⟨t0, rfl, e5⟩
        · have e' : p.2 = 0 := by simpa using e
          exact c2 _ (by rw [hp]; simp [e']) (Same.refl _)
      · intro D H3 ys hD r3 e3 pr
        obtain ⟨l1, l2⟩ := lock_same hd2 r3
        refine ⟨l1, ?_⟩
        have hDd : D ≠ d := fun z => by rw [z, upd_same] at hD; cases hD
        have tp : Tp H3 (upd H3 d (.dK (kvR r))) := fun b ys eb => by
          have : b ≠ d := fun z => by rw [z, l1] at eb; cases eb
          rw [upd_ne this]
          exact eb
        have pr2 := (PrsL.of_paired pr).tp tp
        have e4 : (upd H3 d (.dK (kvR r))) D = some (.lst ys) := by rw [upd_ne hDd]; exact e3
        rw [kvR_len, range_get] at pr2
        generalize upd H3 d (.dK (kvR r)) = H4 at l2 pr2 e4
        walk_at "go"
        refine s_sortSI (SqL.of e4) pr2 fun l H5 zs q hl r5 e5 pr5 so pe => ?_
        walk_at "go"
        refine s_tupFE (SqL.of e5) fun t H6 ht r6 ft6 => ?_
        have ha6 : H6 a = some (.ins C dx []) := by walk_at "hp"
        walk_at "go"
        refine s_sfldE ha6 fcls fnt (by decide) ?_
        rw [fm_filter] at pe
        exact hN _ _ ⟨_, t, zs, q, rfl, can_of_sorted nr so pe, Rx.step (Rx.same (Same.trans r2 l2)) (Same.trans r5 r6), upd_same, ft6.ins ha6, (pr5.same r6).tp (Tp.ins ha6)⟩
    rintro σ3 H3 ⟨o3, t, xs, q, rfl, cq, r3, ha3, ft3, pr3⟩
    have rbq := rb.can cq nr
    have hlq := rbq.len
    have hlx := pr3.len
    with_reducible refine s_seqJ (fun σ' H' => ∃ o1 y, σ' = [some (.ref a), some (.ref d), o1, none] ∧ Rx [a] H H' ∧ H' a = some (.ins C dx [("terms", .ref t), ("symbols", .ref y)]) ∧ FT H' t xs ∧ PrsL H' xs q ∧ H' y = some (.tup ((keysR q).map V.str))) ?_ (fun N hN => ?_)
    rotate_left
    · have hT3 : SqT K H3 t xs := ft3.sqt
      walk_at "go"
      refine lcR (walk_tup (xs := xs)) (fun i => q[i]?.map fun p => p.1) (fun _ v (b : Str) => v = .str b) tpR_eq (fun H1 r1 => Same.sqt r1 hT3) yat_same (by omega) ?_ ?_
      · rintro i x H4 H5 K1 K2 hi r4 ⟨rfl, hx⟩ c1 c2
        obtain ⟨p, t1, hq, rfl, hpt⟩ := pr3.at hx
        refine s_g2 (SqT.of (r4 _ _ hpt)) ⟨rfl, ?_⟩
        walk_at "go"
        exact c1 _ _ _ (by rw [hq]; rfl) (Same.refl _) rfl
      · intro D H4 ys hD r4 e4 pr
        have e2 := paired_eq pr
        rw [hlx, G.range_map] at e2
        rw [e2] at e4
        walk_at "go"
        refine s_tupL (SqL.of e4) fun y H5 hy r5 e5 => ?_
        have ha5 : H5 a = some (.ins C dx [("terms", .ref t)]) := by walk_at "hp"
        walk_at "go"
        refine s_sfldE ha5 fcls fns (by simp) ?_
        have ny : y ≠ a := fun z => by rw [z, ha5] at e5; cases e5
        have r35 : Same H3 H5 := Same.trans r4 r5
        exact hN _ _ ⟨_, y, rfl, Rx.step r3 r35, upd_same, (ft3.same r35).ins ha5, (pr3.same r35).tp (Tp.ins ha5), by rw [upd_ne ny]; exact e5⟩
    rintro σ4 H4 ⟨o4, y, rfl, r4, ha4, ft4, pr4, hy4⟩
    walk_at "go"
    refine ⟨t, xs, q, rfl, ft4.sqt, pr4, rbq, fun H5 r5 => ?_⟩
    have ha5 := r5 _ _ ha4
    walk_at "go"
    refine s_sfldE ha5 fcls fnx (by simp) ?_
    have ny : y ≠ a := fun z => by rw [z, ha4] at hy4; cases hy4
    exact k q _ cq (Rx.step r4 r5) ⟨a, dx, t, y, xs, rfl, upd_same, (ft4.same r5).ins ha5, (pr4.same r5).tp (Tp.ins ha5), by rw [upd_ne ny]; exact r5 _ _ hy4, cq.can, rbq⟩

theorem ok_term_of (T : Txt mg) (FC : FormC K mg C) (MU : OwnI K C .Mult) (SC : StmC K mg X_Statement X_If CK) (SW : SupW P K mg file) (FM : FmtC K C) (EF : EF K mg C) (D : At K mg "term_of" s_term_of) (h_is_symbol : Has P w K mg base CX0 "is_symbol" s_is_symbol ["value"] 2 (spAsk 0 fun _ v => symV v)) :
    Has P w K mg base CX0 "term_of" s_term_of ["part"] 3 spTermOf := by
  have nd := sc_term_of.nd
  refine has_mk D sc_term_of (fun vs H Q E h => ?len) (fun _ _ _ _ _ _ us hl => match us, hl with | [_], _ => rfl) (fun f cdv A outer s H vs Q E hr hgd h => ?bd)
  case len =>
    obtain ⟨z, rfl, _⟩ := h
    rfl
  case bd =>
    obtain ⟨z, rfl, hl, k0, k1⟩ := h
    refine ⟨_, (pss_cons (ps_asg (pe_ifExp (pt_cmpR op_eq (pe_slice sl_str (pv 0) po_none (po_some pe_int)) pe_str (nomark _)) (pe_tup (pa_cons (pe_op op_sub pe_int pe_int) (pa_cons (pe_slice sl_str (pv 0) (po_some pe_int) po_none) pa_nil))) (pe_tup (pa_cons pe_int (pa_cons (pv 0) pa_nil)))) (gT K (n := 2) (hc := rfl) (hg := (pgs_cons (pg_name (i := 1) nd rfl (Or.inl rfl)) (pgs_cons (pg_name (i := 2) nd rfl (Or.inl rfl)) pgs_nil)))))
      (pss_cons (ps_asg (pe_partN (pv 2) pe_str) (gT K (n := 3) (hc := rfl) (hg := (pgs_cons (pg_name (i := 3) nd rfl (Or.inl rfl)) (pgs_cons (pg_name (i := 4) nd rfl (Or.inl rfl)) (pgs_cons (pg_name (i := 5) nd rfl (Or.inl rfl)) pgs_nil))))))
      (pss_cons (ps_if (pt_cmpR op_eq (pv 4) pe_str (nomark _)) (pss_one (ps_par (i := 3) (j := 5) (by rfl) nd rfl rfl (by decide) rfl rfl (pa_cons pe_str (pa_cons (pv 2) pa_nil)) (by rfl))) pss_nil)
      (pss_cons (ps_if (PW.pt (pw_or (pt_not (pt_val (peH h_is_symbol (hr.mono (by decide)) hgd rfl (pa_cons (pv 5) pa_nil)))) (pw_or (pt_cmpR op_eq (pv 3) pe_str (nomark _)) (pw_or1 (pt_not (pt_val (pe_callB (allK K) rfl T.b_all (by decide +kernel) (pa_cons (pe_lc (own := [("digit", 6)]) (g := gName 6) (tt := tYes) rfl nd (pi_str (pv 3)) (blkOk_by (N := N_term_of) (sc := defScope s_term_of) (own := [("digit", 6)]) (by decide +kernel)) (fun _ _ _ _ _ => (pg_name (i := 6) nd rfl (Or.inl rfl))) (fun _ _ _ _ _ => pts_nil) (fun _ _ _ _ _ => (pe_cmpR o_sign (pv 6) (pe_gS rfl T.c_DIGITS) rfl))) pa_nil)))))))) (pss_one (ps_ret pe_non)) pss_nil)
      (pss_one (ps_ret (pe_tup (pa_cons (pv 5) (pa_cons (pe_op op_mul (pv 1) (pe_callTy c_intS rfl T.b_int (by decide +kernel) (pa_cons (pv 3) pa_nil))) pa_nil))))))))), ?_⟩
    have hls := len_sign z
    have hlc := len_cut z none (some 1)
    have hlc2 := len_cut z (some 1) none
    with_reducible refine s_seqJ (fun σ' H' => σ' = [some (.str z), some (.int (signF z).1), some (.str (signF z).2), none, none, none, none] ∧ Same H H') ?_ (fun N hN => ?_)
    rotate_left
    · walk_at "go"
      refine ite_b (fun e => ?_) (fun e => ?_)
      · have e' : cutS z none (some 1) = "-" := by simpa using e
        walk_at "go"
        refine s_mk fun t1 H1 ht1 r1 e1 => ?_
        walk_at "go"
        refine hN _ _ ⟨?_, r1⟩
        unfold signF
        rw [if_pos e']
        rfl
      · have e' : ¬ cutS z none (some 1) = "-" := by simpa using e
        walk_at "go"
        refine s_mk fun t1 H1 ht1 r1 e1 => ?_
        walk_at "go"
        refine hN _ _ ⟨?_, r1⟩
        unfold signF
        rw [if_neg e']
        rfl
    rintro σ1 H1 ⟨rfl, r1⟩
    obtain ⟨hn1, hn2⟩ := len_numF (signF z).2 (by omega)
    with_reducible refine s_seqJ (fun σ' H' => σ' = [some (.str z), some (.int (signF z).1), some (.str (signF z).2), some (.str (Txt.partition (signF z).2 "*").1), some (.str (Txt.partition (signF z).2 "*").2.1), some (.str (Txt.partition (signF z).2 "*").2.2), none] ∧ Same H H') ?_ (fun N hN => ?_)
    rotate_left
    · walk_at "go"
      refine s_partE (by decide +kernel) (sz1 (by omega)) fun t2 H2 ht2 r2 e2 => ?_
      walk_at "go"
      exact hN _ _ ⟨rfl, Same.trans r1 r2⟩
    rintro σ2 H2 ⟨rfl, r2⟩
    with_reducible refine s_seqJ (fun σ' H' => σ' = [some (.str z), some (.int (signF z).1), some (.str (signF z).2), some (.str (numF (signF z).2).1), some (.str (Txt.partition (signF z).2 "*").2.1), some (.str (numF (signF z).2).2), none] ∧ Same H H') ?_ (fun N hN => ?_)
    rotate_left
    · walk_at "go"
      refine ite_b (fun e => ?_) (fun e => ?_)
      · have e' : (Txt.partition (signF z).2 "*").2.1 = "" := by simpa using e
        walk_at "go"
        refine hN _ _ ⟨?_, r2⟩
        unfold numF
        rw [if_pos e']
        all_goals rfl
      · have e' : ¬ (Txt.partition (signF z).2 "*").2.1 = "" := by simpa using e
        walk_at "go"
        refine hN _ _ ⟨?_, r2⟩
        unfold numF
        rw [if_neg e']
    rintro σ3 H3 ⟨rfl, r3⟩
    have none_of : ∀ H', Same H3 H' → ¬ (symS (numF (signF z).2).2 = true ∧ (numF (signF z).2).1 ≠ "" ∧ digF (numF (signF z).2).1 = true) → Q .non H' := fun H' r c => k0 (by unfold termF; rw [if_neg c]) H' (Same.trans r3 r)
    walk_at "go"
    refine ⟨_, fun _ => False, rfl, Th.str (by omega), fun H4 r4 => ?_⟩
    walk_at "go"
    refine ite_b (fun e => ?_) (fun e => ?_)
    · have e1 : ¬ symS (numF (signF z).2).2 = true := by simpa [symV_S] using e
      walk_at "go"
      exact none_of _ r4 fun c => e1 c.1
    have e1 : symS (numF (signF z).2).2 = true := by simpa [symV_S] using e
    walk_at "go"
    refine ite_b (fun e => ?_) (fun e => ?_)
    · have e2 : (numF (signF z).2).1 = "" := by simpa using e
      walk_at "go"
      exact none_of _ r4 fun c => c.2.1 e2
    have e2 : ¬ (numF (signF z).2).1 = "" := by simpa using e
    walk_at "go"
    refine lcP wx_str (sgV digS) (fun _ _ => trivial) (by rw [strV_len]; omega) ?_ gm_name ?_
    · intro x H5 Q1 hx r q
      obtain ⟨c', rfl⟩ := mem_strV hx
      refine ⟨rfl, ?_⟩
      walk_at "go"
      exact q _ (Same.refl _)
    · intro D H5 hD r5 hd
      rw [sgV_map] at hd
      walk_at "go"
      refine s_all hd ?_
      have ed : (((numF (signF z).2).1.cps.toList.map fun c => decide (c ∈ digS.cps.toList)).all id) = digF (numF (signF z).2).1 := by
        unfold digF
        rw [List.all_map]
        rfl
      rw [ed]
      walk_at "go"
      refine ite_b (fun e => ?_) (fun e => ?_)
      · have e3 : ¬ digF (numF (signF z).2).1 = true := by simpa using e
        walk_at "go"
        exact none_of _ (Same.trans r4 r5) fun c => e3 c.2.2
      have e3 : digF (numF (signF z).2).1 = true := by simpa using e
      walk_at "go"
      refine s_intS e3 e2 (by omega) ?_
      have hcm : CMul (signF z).1 (NumText.digitsVal (TL.tl (numF (signF z).2).1) : Nat) := by
        refine .inl ?_
        unfold signF
        split
        · show -2 ^ 64 < (0 - 1 : Int) ∧ (0 - 1 : Int) < 2 ^ 64
          decide
        · show -2 ^ 64 < (1 : Int) ∧ (1 : Int) < 2 ^ 64
          decide
      walk_at "go"
      refine s_mk fun t6 H6 ht6 r6 e6 => ?_
      have r36 := Same.trans r3 (Same.trans r4 (Same.trans r5 r6))
      have hn : H t6 = none := Same.free (Same.trans r3 (Same.trans r4 r5)) ht6
      exact k1 _ (by unfold termF; rw [if_pos ⟨e1, e2, e3⟩]) t6 H6 hn r36 e6

theorem ok_form_of (T : Txt mg) (FC : FormC K mg C) (MU : OwnI K C .Mult) (SC : StmC K mg X_Statement X_If CK) (SW : SupW P K mg file) (FM : FmtC K C) (EF : EF K mg C) (D : At K mg "form_of" s_form_of) (h_Form__init_ : HasK P w K mg base C "Form" 3 (spMake C)) (h_term_of : Has P w K mg base CX0 "term_of" s_term_of ["part"] 3 spTermOf) :
    Has P w K mg base CX0 "form_of" s_form_of ["text"] 5 (spFormOf C) := by
  have nd := sc_form_of.nd
  refine has_mk D sc_form_of (fun vs H Q E h => ?len) (fun _ _ _ _ _ _ us hl => match us, hl with | [_], _ => rfl) (fun f cdv A outer s H vs Q E hr hgd h => ?bd)
  case len =>
    obtain ⟨z, rfl, _⟩ := h
    rfl
  case bd =>
    obtain ⟨z, rfl, hl, k0, k1⟩ := h
    have fcls := FC.cls
    have fnt := FC.nt
    have fns := FC.ns
    have fnx := FC.nx
    obtain ⟨hpl, hpp⟩ := parts_ok hl
    have th : Th (fun _ => False) H 0 (.str z) := Th.str (by omega)
    have kn : rawF z = none → ∀ H', Same H H' → Q .non H' := fun e => k0 fun q cq rb z' => by
      have := rawF_text cq rb.sym
      rw [z', e] at this
      cases this
    refine ⟨_, (pss_cons (ps_if (pt_not (pt_val (pe_callB (isiK K) rfl T.b_isinstance (by decide +kernel) (pa_cons (pv 0) (pa_cons (pe_bltn (v := .ty "str") rfl T.b_str (by decide +kernel) rfl) pa_nil))))) (pss_one (ps_ret pe_non)) pss_nil)
      (pss_cons (ps_set (i := 1) nd rfl (Or.inl rfl) pe_dnewK)
      (pss_cons (ps_for PassesOwn.never rfl (piL K (he := (pe_ifC (pv 0) (pe_lst pa_nil) (pet_splitN (CwR.pet_replC (pv 0)) pe_str)))) (pg_name (i := 2) nd rfl (Or.inl rfl))
      (pss_cons (ps_set (i := 3) nd rfl (Or.inl rfl) (peH h_term_of (hr.mono (by decide)) hgd rfl (pa_cons (pv 2) pa_nil)))
      (pss_cons (ps_if (pt_cmpR op_isN1 (pv 3) pe_non (nomark _)) (pss_one (ps_ret pe_non)) pss_nil)
      (pss_one (ps_dput (hu_of hr) (pv 1) (pe_ix (ixT K) (pv 3) pe_int (fun _ _ => rfl)) (pe_ix (ixT K) (pv 3) pe_int (fun _ _ => rfl)) rfl)))))
      (pss_cons (ps_set (i := 4) nd rfl (Or.inl rfl) (peMk h_Form__init_ (hr.mono (by decide)) hgd rfl (pv 1)))
      (pss_one (ps_ret (pe_ifExp (pt_cmpR op_eq (fldK K (he := (pv 4))) (pv 0) (nomark _)) (pv 4) pe_non))))))), ?_⟩
    walk_at "go"
    refine ite_f rfl ?_
    walk_at "go"
    refine s_mk fun d H1 hd r1 e1 => ?_
    with_reducible refine s_gn ?_
    with_reducible refine s_seq ?_
    with_reducible refine s_fr ?_
    refine s_iLstJ (fun a H2 => Same H1 H2 ∧ H2 a = some (.lst ((partsF z).map V.str))) (fun a H2 h => ⟨⟨_, SqL.of h.2⟩, ?_⟩) (fun N hN => ?_)
    rotate_left
    · walk_at "go"
      refine ite_b (fun e => ?_) (fun e => ?_)
      · have e' : z = "0" := by simpa using e
        walk_at "go"
        refine s_mk fun a H2 ha r2 e2 => ?_
        refine hN _ _ ⟨r2, ?_⟩
        unfold partsF
        rw [if_pos e']
        exact e2
      · have e' : ¬ z = "0" := by simpa using e
        walk_at "go"
        refine s_replE ?_ ?_
        · have : (Str.ofString " + -").length = 4 := by decide +kernel
          rw [this]
          omega
        walk_at "go"
        have hrl := repl_len z
        refine s_splitE (by decide +kernel) (sz1 (by omega)) fun a H2 ha r2 e2 => ?_
        refine hN _ _ ⟨r2, ?_⟩
        unfold partsF
        rw [if_neg e']
        exact e2
    · obtain ⟨r12, e2⟩ := h
      have r02 := Same.trans r1 r12
      have hda : a ≠ d := fun w => by
        have h1 := r12 _ _ e1
        rw [← w, e2] at h1
        cases h1
      refine lc_of (walk_list (xs := (partsF z).map V.str)) (fun i σ H3 => Same H H3 ∧ (∃ o1 o2, σ = [some (.str z), some (.ref d), o1, o2, none]) ∧ H3 a = some (.lst ((partsF z).map V.str)) ∧ ∃ acc : Row, ((partsF z).take i).foldlM G.stepF [] = some acc ∧ H3 d = some (.dK (kvR acc)) ∧ acc.length ≤ i ∧ (keysR acc).Nodup ∧ ∀ x ∈ keysR acc, symS x = true ∧ bd (fac acc x)) ⟨r02, ⟨_, _, rfl⟩, e2, [], rfl, r12 _ _ e1, Nat.le_refl _, nodup_nilR, fun x hx => (List.not_mem_nil hx).elim⟩ (fun i σ H3 _ h => SqL.of h.2.2.1) ?_ ?_
      · rintro i x σ H3 H4 hi ⟨r3, ⟨o1, o2, rfl⟩, e3, acc, ea, ed, la, na, oa⟩ ⟨rfl, hx⟩
        rw [List.getElem?_map] at hx
        obtain ⟨p, hp, rfl⟩ := Option.map_eq_some_iff.mp hx
        have hp1 := hpp p (List.mem_of_getElem? hp)
        rw [List.length_map] at hi
        walk_at "go"
        refine ⟨p, rfl, hp1, fun en H5 r5 => ?_, fun t et t5 H5 ht5 r5 e5 => ?_⟩
        · walk_at "go"
          exact kn (by rw [rawF_fold]; exact foldF_none hp ea en) _ (Same.trans r3 r5)
        · walk_at "go"
          have ed5 := r5 _ _ ed
          have e35 := r5 _ _ e3
          obtain ⟨ts, tb⟩ := termF_ok et hp1
          have hla : acc.length ≤ 1000 := by omega
          refine ite_f rfl ?_
          walk_at "go"
          refine ⟨fun b o e => ?_, ⟨_, _, rfl⟩, ?_, putR acc t.1 t.2, ?_, upd_same, ?_, nodup_put na, ?_⟩
          · rw [upd_ne (ne_of_none e hd)]
            exact r5 _ _ (r3 _ _ e)
          · rw [upd_ne hda]
            exact e35
          · rw [foldF_snoc hp ea]
            unfold G.stepF
            rw [et]
            rfl
          · have := len_put acc t.1 t.2
            omega
          · intro x hx
            rw [keysR_put] at hx
            rw [fac_put]
            by_cases ex : x = t.1
            · rw [if_pos ex, ex]
              exact ⟨ts, tb⟩
            · rw [if_neg ex]
              split at hx
              · exact oa x hx
              · rcases List.mem_append.mp hx with hx | hx
                · exact oa x hx
                · exact absurd (by simpa using hx) ex
      · rintro σ H3 ⟨r3, ⟨o1, o2, rfl⟩, e3, acc, ea, ed, la, na, oa⟩
        rw [List.length_map] at ea la
        rw [List.take_of_length_le (Nat.le_refl _)] at ea
        have rba : RowB acc := ⟨by omega, fun p hp => (oa p.1 (mem_keys hp)).1, fun p hp => by
          have := (oa p.1 (mem_keys hp)).2
          rw [fac_mem na hp] at this
          exact this⟩
        walk_at "go"
        refine s_make ed na rba fun x q H4 cq r4 fa => ?_
        have r34 := Same.trans r3 r4
        have fa' := fa
        obtain ⟨a4, dx4, t4, y4, xs4, eq4, fi⟩ := fa
        cases eq4
        have fins := fi.ins
        walk_at "go"
        refine ite_b (fun e => ?_) (fun e => ?_)
        · walk_at "go"
          exact k1 _ q _ r34 fa' (by simpa using e)
        · walk_at "go"
          refine k0 (fun q' cq' rb' ez => ?_) _ r34
          have h1 := rawF_text cq' rb'.sym
          rw [ez, rawF_fold, ea] at h1
          cases h1
          have h2 := cq.uniq cq'.self
          rw [h2] at e
          simp [ez] at e

theorem ok_Form_read (T : Txt mg) (FC : FormC K mg C) (MU : OwnI K C .Mult) (SC : StmC K mg X_Statement X_If CK) (SW : SupW P K mg file) (FM : FmtC K C) (EF : EF K mg C) (D : AtS K C "read" "Form.read" s_Form_read) (h_form_of : Has P w K mg base CX0 "form_of" s_form_of ["text"] 5 (spFormOf C)) :
    HasS P w K mg base C "read" s_Form_read ["text"] 6 (spRead C) := by
  have nd := sc_Form_read.nd
  refine hasS_mk D sc_Form_read (fun vs H Q E h => ?len) (fun _ _ _ _ _ _ us hl => match us, hl with | [_], _ => rfl) (fun f cdv A outer s H vs Q E hr hgd h => ?bd)
  case len =>
    obtain ⟨q, rfl, _⟩ := h
    rfl
  case bd =>
    obtain ⟨q, rfl, cq, rb, hl, k⟩ := h
    refine ⟨_, (pss_cons (ps_set (i := 1) nd rfl (Or.inl rfl) (peH h_form_of (hr.mono (by decide)) hgd rfl (pa_cons (pv 0) pa_nil)))
      (pss_cons (ps_if (pt_cmpR op_isN1 (pv 1) pe_non (nomark _)) (pss_one ps_never) pss_nil)
      (pss_one (ps_ret (pv 1))))), ?_⟩
    walk_at "go"
    refine ⟨textR q, rfl, hl, fun no => (no q cq rb rfl).elim, fun v q' H1 r1 fa et => ?_⟩
    have eq : q' = q := by
      obtain ⟨a, dx, t, y, xs, _, fi⟩ := id fa
      have h1 := rawF_text fi.can fi.rb.sym
      rw [et, rawF_text cq rb.sym] at h1
      cases h1
      rfl
    subst eq
    obtain ⟨a, dx, t, y, xs, rfl, fi⟩ := id fa
    walk_at "go"
    refine ite_f rfl ?_
    walk_at "go"
    exact k _ H1 r1 fa

theorem ok_Statement__eq_ (T : Txt mg) (FC : FormC K mg C) (MU : OwnI K C .Mult) (SC : StmC K mg X_Statement X_If CK) (SW : SupW P K mg file) (FM : FmtC K C) (EF : EF K mg C) (D : ∀ i, i < 9 → AtM K (CK i) "__eq__" "Statement.__eq__" s_Statement__eq_)  :
    HasD P w K mg base CK 9 "__eq__" ["self", "other"] 1 (spEqS K CK C) := by
  have nd := sc_Statement__eq_.nd
  intro i hi
  refine (hasM_mk (sp := ((spEqS K CK C)) i) (D i hi) sc_Statement__eq_ (fun vs H Q E h => ?len) (fun _ _ _ _ _ _ us hl => match us, hl with | [_, _], _ => rfl) (fun f cdv A outer s H vs Q E hr hgd h => ?bd)).toD (n := 9)
  case len =>
    obtain ⟨v, y, as, rfl, _⟩ := h
    rfl
  case bd =>
    obtain ⟨v, y, as, rfl, st, h⟩ := h
    have k9 := st.k9
    obtain ⟨a, dx, t, ws, rfl, ha, pa, ht⟩ := st.ex
    refine ⟨_, (pss_one (ps_ret (pe_and (pe_callB (isiK K) rfl T.b_isinstance (by decide +kernel) (pa_cons (pv 1) (pa_cons (pe_glob (v := .ref X_Statement) rfl SC.at_ rfl) pa_nil))) (pe_one (pe_cmpR (eqPK K (hu := hr.units)) (fldK K (he := (pv 0))) (fldK K (he := (pv 1))) (nomark _)))))), ?_⟩
    refine s_st (σ' := [some (.ref a), some y]) rfl ?_
    walk_at "go"
    rcases h with ⟨j, bs, st2, k⟩ | ⟨T, m, kd, k⟩
    · have j9 := st2.k9
      obtain ⟨a2, dx2, t2, ws2, rfl, ha2, pa2, ht2⟩ := st2.ex
      refine SC.isi ha2 j9 ?_
      walk_at "go"
      refine s_fldE ha (SC.cls k9) (SC.naL k9) lines_at ?_
      walk_at "go"
      refine s_fldE ha2 (SC.cls j9) (SC.naL j9) lines_at ?_
      exact s_eqT1 ht ht2 k
    · refine SC.isB m kd ?_
      walk_at "go"
      exact k

theorem ok__law_arguments (T : Txt mg) (FC : FormC K mg C) (MU : OwnI K C .Mult) (SC : StmC K mg X_Statement X_If CK) (SW : SupW P K mg file) (FM : FmtC K C) (EF : EF K mg C) (D : At K mg "_law_arguments" s__law_arguments) :
    Has P w K mg base CX0 "_law_arguments" s__law_arguments ["_law_made", "_law_spot"] 1 (spArgS CK C) := by
  have nd := sc__law_arguments.nd
  refine has_mk D sc__law_arguments (fun vs H Q E h => ?len) (fun _ _ _ _ _ _ us hl => match us, hl with | [_, _], _ => rfl) (fun f cdv A outer s H vs Q E hr hgd h => ?bd)
  case len =>
    obtain ⟨v, n, as, rfl, _⟩ := h
    rfl
  case bd =>
    obtain ⟨v, n, as, rfl, n0, n10, st, kont⟩ := h
    have k9 := st.k9
    have sg := st.sg
    obtain ⟨a, dx, t, ws, rfl, ha, pa, ht⟩ := st.ex
    refine ⟨_, (pss_cons (ps_if (pt_cmpR op_eq (pv 1) pe_int (nomark _)) (pss_one (ps_ret (pe_lst (pa_cons (fldK K (he := (pv 0))) (pa_cons (fldK K (he := (pv 0))) pa_nil))))) pss_nil)
      (pss_cons (ps_if (pt_cmpR op_eq (pv 1) pe_int (nomark _)) (pss_one (ps_ret (pe_lst (pa_cons (fldK K (he := (pv 0))) (pa_cons (fldK K (he := (pv 0))) (pa_cons (fldK K (he := (pv 0))) pa_nil)))))) pss_nil)
      (pss_cons (ps_if (pt_cmpR op_eq (pv 1) pe_int (nomark _)) (pss_one (ps_ret (pe_lst (pa_cons (fldK K (he := (pv 0))) (pa_cons (fldK K (he := (pv 0))) (pa_cons (fldK K (he := (pv 0))) (pa_cons (fldK K (he := (pv 0))) (pa_cons (fldK K (he := (pv 0))) pa_nil)))))))) pss_nil)
      (pss_cons (ps_if (pt_cmpR op_eq (pv 1) pe_int (nomark _)) (pss_one (ps_ret (pe_lst (pa_cons (fldK K (he := (pv 0))) (pa_cons (fldK K (he := (pv 0))) (pa_cons (fldK K (he := (pv 0))) (pa_cons (fldK K (he := (pv 0))) pa_nil))))))) pss_nil)
      (pss_cons (ps_if (pt_cmpR op_eq (pv 1) pe_int (nomark _)) (pss_one (ps_ret (pe_lst (pa_cons (fldK K (he := (pv 0))) (pa_cons (fldK K (he := (pv 0))) pa_nil))))) pss_nil)
      (pss_one (ps_ret (pe_lst (pa_cons (fldK K (he := (pv 0))) (pa_cons (fldK K (he := (pv 0))) (pa_cons (fldK K (he := (pv 0))) (pa_cons (fldK K (he := (pv 0))) (pa_cons (fldK K (he := (pv 0))) pa_nil))))))))))))), ?_⟩
    refine s_st (σ' := [some (.ref a), some (.int n)]) rfl ?_
    walk_at "go"
    refine ite_b (fun e => ?_) (fun e => ?_)
    · obtain rfl : n = 0 := by simpa using e
      have kn : kOf 0 = 0 := by decide
      rw [kn] at ha sg k9
      obtain ⟨z0, q1, rfl⟩ := sg.i0
      obtain ⟨v0, v1, rfl, g0, g1⟩ : ∃ v0 v1, ws = [v0, v1] ∧ ArAt C H v0 (.nm z0) ∧ ArAt C H v1 (.fm q1) := by
        cases pa with | cons g0 pa =>
        cases pa with | cons g1 pa =>
        cases pa with | nil => exact ⟨_, _, rfl, g0, g1⟩
      walk_at "go"
      refine s_fldE (v := v0) ha (SC.cls k9) (SC.naF k9 (by decide +kernel)) rfl ?_
      walk_at "go"
      refine s_fldE (v := v1) ha (SC.cls k9) (SC.naF k9 (by decide +kernel)) rfl ?_
      walk_at "go"
      refine s_mk fun D H1 hD r1 e1 => ?_
      exact kont D _ H1 hD r1 e1 (.cons (g0.same r1) (.cons (g1.same r1) .nil))
    have m0 : n ≠ 0 := by simpa using e
    walk_at "go"
    refine ite_b (fun e => ?_) (fun e => ?_)
    · obtain rfl : n = 5 := by simpa using e
      have kn : kOf 5 = 5 := by decide
      rw [kn] at ha sg k9
      obtain ⟨z0, q1, q2, rfl⟩ := sg.i5
      obtain ⟨v0, v1, v2, rfl, g0, g1, g2⟩ : ∃ v0 v1 v2, ws = [v0, v1, v2] ∧ ArAt C H v0 (.nm z0) ∧ ArAt C H v1 (.fm q1) ∧ ArAt C H v2 (.fm q2) := by
        cases pa with | cons g0 pa =>
        cases pa with | cons g1 pa =>
        cases pa with | cons g2 pa =>
        cases pa with | nil => exact ⟨_, _, _, rfl, g0, g1, g2⟩
      walk_at "go"
      refine s_fldE (v := v0) ha (SC.cls k9) (SC.naF k9 (by decide +kernel)) rfl ?_
      walk_at "go"
      refine s_fldE (v := v1) ha (SC.cls k9) (SC.naF k9 (by decide +kernel)) rfl ?_
      walk_at "go"
      refine s_fldE (v := v2) ha (SC.cls k9) (SC.naF k9 (by decide +kernel)) rfl ?_
      walk_at "go"
      refine s_mk fun D H1 hD r1 e1 => ?_
      exact kont D _ H1 hD r1 e1 (.cons (g0.same r1) (.cons (g1.same r1) (.cons (g2.same r1) .nil)))
    have m5 : n ≠ 5 := by simpa using e
    walk_at "go"
    refine ite_b (fun e => ?_) (fun e => ?_)
    · obtain rfl : n = 6 := by simpa using e
      have kn : kOf 6 = 6 := by decide
      rw [kn] at ha sg k9
      obtain ⟨z0, q1, z2, q3, q4, rfl⟩ := sg.i1 (by decide) (by decide) (by decide)
      obtain ⟨v0, v1, v2, v3, v4, rfl, g0, g1, g2, g3, g4⟩ : ∃ v0 v1 v2 v3 v4, ws = [v0, v1, v2, v3, v4] ∧ ArAt C H v0 (.nm z0) ∧ ArAt C H v1 (.fm q1) ∧ ArAt C H v2 (.nm z2) ∧ ArAt C H v3 (.fm q3) ∧ ArAt C H v4 (.fm q4) := by
        cases pa with | cons g0 pa =>
        cases pa with | cons g1 pa =>
        cases pa with | cons g2 pa =>
        cases pa with | cons g3 pa =>
        cases pa with | cons g4 pa =>
        cases pa with | nil => exact ⟨_, _, _, _, _, rfl, g0, g1, g2, g3, g4⟩
      walk_at "go"
      refine s_fldE (v := v0) ha (SC.cls k9) (SC.naF k9 (by decide +kernel)) rfl ?_
      walk_at "go"
      refine s_fldE (v := v1) ha (SC.cls k9) (SC.naF k9 (by decide +kernel)) rfl ?_
      walk_at "go"
      refine s_fldE (v := v2) ha (SC.cls k9) (SC.naF k9 (by decide +kernel)) rfl ?_
      walk_at "go"
      refine s_fldE (v := v3) ha (SC.cls k9) (SC.naF k9 (by decide +kernel)) rfl ?_
      walk_at "go"
      refine s_fldE (v := v4) ha (SC.cls k9) (SC.naF k9 (by decide +kernel)) rfl ?_
      walk_at "go"
      refine s_mk fun D H1 hD r1 e1 => ?_
      exact kont D _ H1 hD r1 e1 (.cons (g0.same r1) (.cons (g1.same r1) (.cons (g2.same r1) (.cons (g3.same r1) (.cons (g4.same r1) .nil)))))
    have m6 : n ≠ 6 := by simpa using e
    walk_at "go"
    refine ite_b (fun e => ?_) (fun e => ?_)
    · obtain rfl : n = 7 := by simpa using e
      have kn : kOf 7 = 7 := by decide
      rw [kn] at ha sg k9
      obtain ⟨z0, q1, q2, i3, rfl⟩ := sg.i7
      obtain ⟨v0, v1, v2, v3, rfl, g0, g1, g2, g3⟩ : ∃ v0 v1 v2 v3, ws = [v0, v1, v2, v3] ∧ ArAt C H v0 (.nm z0) ∧ ArAt C H v1 (.fm q1) ∧ ArAt C H v2 (.fm q2) ∧ ArAt C H v3 (.it i3) := by
        cases pa with | cons g0 pa =>
        cases pa with | cons g1 pa =>
        cases pa with | cons g2 pa =>
        cases pa with | cons g3 pa =>
        cases pa with | nil => exact ⟨_, _, _, _, rfl, g0, g1, g2, g3⟩
      walk_at "go"
      refine s_fldE (v := v0) ha (SC.cls k9) (SC.naF k9 (by decide +kernel)) rfl ?_
      walk_at "go"
      refine s_fldE (v := v1) ha (SC.cls k9) (SC.naF k9 (by decide +kernel)) rfl ?_
      walk_at "go"
      refine s_fldE (v := v2) ha (SC.cls k9) (SC.naF k9 (by decide +kernel)) rfl ?_
      walk_at "go"
      refine s_fldE (v := v3) ha (SC.cls k9) (SC.naF k9 (by decide +kernel)) rfl ?_
      walk_at "go"
      refine s_mk fun D H1 hD r1 e1 => ?_
      exact kont D _ H1 hD r1 e1 (.cons (g0.same r1) (.cons (g1.same r1) (.cons (g2.same r1) (.cons (g3.same r1) .nil))))
    have m7 : n ≠ 7 := by simpa using e
    walk_at "go"
    refine ite_b (fun e => ?_) (fun e => ?_)
    · obtain rfl : n = 8 := by simpa using e
      have kn : kOf 8 = 8 := by decide
      rw [kn] at ha sg k9
      obtain ⟨z0, q1, rfl⟩ := sg.i8
      obtain ⟨v0, v1, rfl, g0, g1⟩ : ∃ v0 v1, ws = [v0, v1] ∧ ArAt C H v0 (.nm z0) ∧ ArAt C H v1 (.fm q1) := by
        cases pa with | cons g0 pa =>
        cases pa with | cons g1 pa =>
        cases pa with | nil => exact ⟨_, _, rfl, g0, g1⟩
      walk_at "go"
      refine s_fldE (v := v0) ha (SC.cls k9) (SC.naF k9 (by decide +kernel)) rfl ?_
      walk_at "go"
      refine s_fldE (v := v1) ha (SC.cls k9) (SC.naF k9 (by decide +kernel)) rfl ?_
      walk_at "go"
      refine s_mk fun D H1 hD r1 e1 => ?_
      exact kont D _ H1 hD r1 e1 (.cons (g0.same r1) (.cons (g1.same r1) .nil))
    have m8 : n ≠ 8 := by simpa using e
    walk_at "go"
    obtain ⟨k, kn, k1, k6, k5⟩ : ∃ k, kOf n = k ∧ 1 ≤ k ∧ k ≤ 6 ∧ k ≠ 5 := by
      refine ⟨_, rfl, ?_⟩
      unfold kOf
      split <;> omega
    have ks : k = 1 ∨ k = 2 ∨ k = 3 ∨ k = 4 := by
      rw [← kn]
      unfold kOf
      split <;> omega
    rw [kn] at ha sg k9
    rw [stF_mv ks] at ha
    obtain ⟨z0, q1, z2, q3, q4, rfl⟩ := sg.i1 k1 k6 k5
    obtain ⟨v0, v1, v2, v3, v4, rfl, g0, g1, g2, g3, g4⟩ : ∃ v0 v1 v2 v3 v4, ws = [v0, v1, v2, v3, v4] ∧ ArAt C H v0 (.nm z0) ∧ ArAt C H v1 (.fm q1) ∧ ArAt C H v2 (.nm z2) ∧ ArAt C H v3 (.fm q3) ∧ ArAt C H v4 (.fm q4) := by
      cases pa with | cons g0 pa =>
      cases pa with | cons g1 pa =>
      cases pa with | cons g2 pa =>
      cases pa with | cons g3 pa =>
      cases pa with | cons g4 pa =>
      cases pa with | nil => exact ⟨_, _, _, _, _, rfl, g0, g1, g2, g3, g4⟩
    walk_at "go"
    refine s_fldE (v := v0) ha (SC.cls k9) (SC.naM k9 ks (by decide +kernel)) rfl ?_
    walk_at "go"
    refine s_fldE (v := v1) ha (SC.cls k9) (SC.naM k9 ks (by decide +kernel)) rfl ?_
    walk_at "go"
    refine s_fldE (v := v2) ha (SC.cls k9) (SC.naM k9 ks (by decide +kernel)) rfl ?_
    walk_at "go"
    refine s_fldE (v := v3) ha (SC.cls k9) (SC.naM k9 ks (by decide +kernel)) rfl ?_
    walk_at "go"
    refine s_fldE (v := v4) ha (SC.cls k9) (SC.naM k9 ks (by decide +kernel)) rfl ?_
    walk_at "go"
    refine s_mk fun D H1 hD r1 e1 => ?_
    exact kont D _ H1 hD r1 e1 (.cons (g0.same r1) (.cons (g1.same r1) (.cons (g2.same r1) (.cons (g3.same r1) (.cons (g4.same r1) .nil)))))

theorem ok__law_arguments_due (T : Txt mg) (FC : FormC K mg C) (MU : OwnI K C .Mult) (SC : StmC K mg X_Statement X_If CK) (SW : SupW P K mg file) (FM : FmtC K C) (EF : EF K mg C) (D : At K mg "_law_arguments_due" s__law_arguments_due) :
    Has P w K mg base CX0 "_law_arguments_due" s__law_arguments_due ["_law_tags", "_law_some", "_law_code", "_law_spot"] 1 (spArgD C) := by
  have nd := sc__law_arguments_due.nd
  refine has_mk D sc__law_arguments_due (fun vs H Q E h => ?len) (fun _ _ _ _ _ _ us hl => match us, hl with | [_, _, _, _], _ => rfl) (fun f cdv A outer s H vs Q E hr hgd h => ?bd)
  case len =>
    obtain ⟨t, s, z, y, v1, v2, v3, e, g, a, i, n, p, rfl, _⟩ := h
    rfl
  case bd =>
    obtain ⟨t, s, z, y, v1, v2, v3, e, g, a, i, n, p, rfl, ht, hs, nz, ny, f1, f2, f3, hi, n0, n10, hp, kont⟩ := h
    refine ⟨_, (pss_cons (ps_asg (pe_tup (pa_cons (pe_ix (ixL K) (pv 0) pe_int (fun _ _ => rfl)) (pa_cons (pe_ix (ixL K) (pv 0) pe_int (fun _ _ => rfl)) (pa_cons (pv 1) pa_nil)))) (gT K (n := 3) (hc := rfl) (hg := (pgs_cons (pg_name (i := 4) nd rfl (Or.inl rfl)) (pgs_cons (pg_name (i := 5) nd rfl (Or.inl rfl)) (pgs_cons (gU K (n := 3) (hc := rfl) (hg := (pgs_cons (pg_name (i := 6) nd rfl (Or.inl rfl)) (pgs_cons (pg_name (i := 7) nd rfl (Or.inl rfl)) (pgs_cons (pg_name (i := 8) nd rfl (Or.inl rfl)) pgs_nil))))) pgs_nil))))))
      (pss_cons (ps_if (pt_cmpR (inQ K) (pv 3) (pe_lst (pa_cons pe_int (pa_cons pe_int pa_nil))) rfl) (pss_one (ps_ret (pe_lst (pa_cons (pv 4) (pa_cons (pv 6) pa_nil))))) pss_nil)
      (pss_cons (ps_if (pt_cmpR op_eq (pv 3) pe_int (nomark _)) (pss_one (ps_ret (pe_lst (pa_cons (pv 4) (pa_cons (pv 7) (pa_cons (pv 8) pa_nil)))))) pss_nil)
      (pss_cons (ps_if (pt_cmpR op_eq (pv 3) pe_int (nomark _)) (pss_one (ps_ret (pe_lst (pa_cons (pv 4) (pa_cons (pv 7) (pa_cons (pv 8) (pa_cons (pv 2) pa_nil))))))) pss_nil)
      (pss_one (ps_ret (pe_ifExp (pt_cmpR op_eq (pv 3) pe_int (nomark _)) (pe_lst (pa_cons (pv 5) (pa_cons (pv 8) (pa_cons (pv 4) (pa_cons (pv 6) (pa_cons (pv 7) pa_nil)))))) (pe_lst (pa_cons (pv 4) (pa_cons (pv 6) (pa_cons (pv 5) (pa_cons (pv 7) (pa_cons (pv 8) pa_nil))))))))))))), ?_⟩
    refine s_st (σ' := [some (.ref t), some (.ref s), some (.int i), some (.int n), none, none, none, none, none]) rfl ?_
    walk_at "go"
    refine s_mk fun tt H0 htt r0 e0 => ?_
    have hs0 := r0 _ _ hs
    have f1 := f1.same r0
    have f2 := f2.same r0
    have f3 := f3.same r0
    refine s_g3U (SqT.of e0) (SqL.of hs0) (by simp only [List.set_cons_succ, List.set_cons_zero]; rfl) ?_
    walk_at "go"
    refine s_mk fun ml H1 hml r1 e1 => ?_
    walk_at "go"
    refine s_in (SqL.of e1) rfl rfl ?_
    have ei : inV (.int n) [.int 0, .int 8] = decide (n = 0 ∨ n = 8) := by
      unfold inV
      simp only [List.any_cons, List.any_nil, Bool.or_false]
      show ((0 == n) || (8 == n)) = _
      exact Bool.eq_iff_iff.mpr (by simp; omega)
    rw [ei]
    have r01 := r0.trans r1
    have f1 := f1.same r1
    have f2 := f2.same r1
    have f3 := f3.same r1
    refine ⟨_, rfl, ite_b (fun ee => ?_) (fun ee => ?_)⟩
    · walk_at "go"
      refine s_mk fun D H2 hD r2 e2 => ?_
      refine kont D _ H2 (r01.free hD) (r01.trans r2) e2 ?_
      have : p = (0, [.nm z, .fm e]) ∨ p = (8, [.nm z, .fm e]) := by
        rcases of_decide_eq_true ee with rfl | rfl
        · exact .inl (by simpa [tenS] using hp.symm)
        · exact .inr (by simpa [tenS] using hp.symm)
      rcases this with rfl | rfl <;> exact .cons ⟨rfl, nz⟩ (.cons (f1.same r2) .nil)
    have m08 : ¬ (n = 0 ∨ n = 8) := by simpa using ee
    walk_at "go"
    refine ite_b (fun ee => ?_) (fun ee => ?_)
    · obtain rfl : n = 5 := by simpa using ee
      walk_at "go"
      refine s_mk fun D H2 hD r2 e2 => ?_
      obtain rfl : p = (5, [.nm z, .fm g, .fm a]) := by simpa [tenS] using hp.symm
      exact kont D _ H2 (r01.free hD) (r01.trans r2) e2 (.cons ⟨rfl, nz⟩ (.cons (f2.same r2) (.cons (f3.same r2) .nil)))
    have m5 : n ≠ 5 := by simpa using ee
    walk_at "go"
    refine ite_b (fun ee => ?_) (fun ee => ?_)
    · obtain rfl : n = 7 := by simpa using ee
      walk_at "go"
      refine s_mk fun D H2 hD r2 e2 => ?_
      obtain rfl : p = (7, [.nm z, .fm g, .fm a, .it i]) := by simpa [tenS] using hp.symm
      exact kont D _ H2 (r01.free hD) (r01.trans r2) e2 (.cons ⟨rfl, nz⟩ (.cons (f2.same r2) (.cons (f3.same r2) (.cons ⟨rfl, hi⟩ .nil))))
    have m7 : n ≠ 7 := by simpa using ee
    walk_at "go"
    refine ite_b (fun ee => ?_) (fun ee => ?_)
    · obtain rfl : n = 9 := by simpa using ee
      walk_at "go"
      refine s_mk fun D H2 hD r2 e2 => ?_
      obtain rfl : p = (1, [.nm y, .fm a, .nm z, .fm e, .fm g]) := by simpa [tenS] using hp.symm
      exact kont D _ H2 (r01.free hD) (r01.trans r2) e2 (.cons ⟨rfl, ny⟩ (.cons (f3.same r2) (.cons ⟨rfl, nz⟩ (.cons (f1.same r2) (.cons (f2.same r2) .nil)))))
    have m9 : n ≠ 9 := by simpa using ee
    walk_at "go"
    refine s_mk fun D H2 hD r2 e2 => ?_
    have e2' : p.2 = [.nm z, .fm e, .nm y, .fm g, .fm a] := by
      have : n = 1 ∨ n = 2 ∨ n = 3 ∨ n = 4 ∨ n = 6 := by omega
      rcases this with rfl | rfl | rfl | rfl | rfl <;> (have h := hp.symm; simp [tenS] at h; rw [h])
    refine kont D _ H2 (r01.free hD) (r01.trans r2) e2 ?_
    rw [e2']
    exact .cons ⟨rfl, nz⟩ (.cons (f1.same r2) (.cons ⟨rfl, ny⟩ (.cons (f2.same r2) (.cons (f3.same r2) .nil))))

theorem ok_Form__str_ (T : Txt mg) (FC : FormC K mg C) (MU : OwnI K C .Mult) (SC : StmC K mg X_Statement X_If CK) (SW : SupW P K mg file) (FM : FmtC K C) (EF : EF K mg C) (D : AtM K C "__str__" "Form.__str__" s_Form__str_) :
    HasM P w K mg base C "__str__" s_Form__str_ ["self"] 1 (spStr C) := by
  have nd := sc_Form__str_.nd
  refine hasM_mk D sc_Form__str_ (fun vs H Q E h => ?len) (fun _ _ _ _ _ _ us hl => match us, hl with | [_], _ => rfl) (fun f cdv A outer s H vs Q E hr hgd h => ?bd)
  case len =>
    obtain ⟨v, q, rfl, _⟩ := h
    rfl
  case bd =>
    obtain ⟨v, q, rfl, ⟨a, dx, t, y, xs, rfl, fi⟩, hl, k⟩ := h
    have fcls := FC.cls
    have fnt := FC.nt
    have fns := FC.ns
    have fnx := FC.nx
    have fins := fi.ins
    refine ⟨_, (pss_one (ps_ret (pe_joined1 (pe_fmt (fldK K (he := (pv 0))))))), ?_⟩
    walk_at "go"
    exact k

theorem ok_Statement__init_ (T : Txt mg) (FC : FormC K mg C) (MU : OwnI K C .Mult) (SC : StmC K mg X_Statement X_If CK) (SW : SupW P K mg file) (FM : FmtC K C) (EF : EF K mg C) (D : AtM K X_Statement "__init__" "Statement.__init__" s_Statement__init_)  :
    HasM P w K mg base X_Statement "__init__" s_Statement__init_ ["self", "lines"] 1 (spStInit CK) := by
  have nd := sc_Statement__init_.nd
  refine hasM_mk D sc_Statement__init_ (fun vs H Q E h => ?len) (fun _ _ _ _ _ _ us hl => match us, hl with | [_, _], _ => rfl) (fun f cdv A outer s H vs Q E hr hgd h => ?bd)
  case len =>
    obtain ⟨a, t, dx, k, fs, rfl, _⟩ := h
    rfl
  case bd =>
    obtain ⟨a, t, dx, k, fs, rfl, k9, ha, l10, pf, kont⟩ := h
    refine ⟨_, (pss_one (sfldK K (ha := (pv 0)) (hv := (pv 1)))), ?_⟩
    refine s_st (σ' := [some (.ref a), some (.ref t)]) rfl ?_
    walk_at "go"
    refine s_sfldN ha (SC.cls k9) (SC.naL k9) (by omega) pf (Rx.refl _) fun J x s a1 => ?_
    exact kont J x s a1

theorem ok_check_form (T : Txt mg) (FC : FormC K mg C) (MU : OwnI K C .Mult) (SC : StmC K mg X_Statement X_If CK) (SW : SupW P K mg file) (FM : FmtC K C) (EF : EF K mg C) (D : At K mg "check_form" s_check_form) :
    Has P w K mg base CX0 "check_form" s_check_form ["value"] 1 (spCheckForm C) := by
  have nd := sc_check_form.nd
  refine has_mk D sc_check_form (fun vs H Q E h => ?len) (fun _ _ _ _ _ _ us hl => match us, hl with | [_], _ => rfl) (fun f cdv A outer s H vs Q E hr hgd h => ?bd)
  case len =>
    obtain ⟨v, q, rfl, _⟩ := h
    rfl
  case bd =>
    obtain ⟨v, q, rfl, ⟨a, dx, t, y, xs, rfl, fi⟩, k⟩ := h
    refine ⟨_, (pss_one (ps_if (pt_not (pt_val (pe_callB (isiK K) rfl T.b_isinstance (by decide +kernel) (pa_cons (pv 0) (pa_cons (pe_glob (v := .ref C) rfl FC.at_ rfl) pa_nil))))) (pss_one ps_never) pss_nil)), ?_⟩
    walk_at "go"
    refine FC.isi fi.ins ?_
    walk_at "go"
    exact k

theorem ok_check_name (T : Txt mg) (FC : FormC K mg C) (MU : OwnI K C .Mult) (SC : StmC K mg X_Statement X_If CK) (SW : SupW P K mg file) (FM : FmtC K C) (EF : EF K mg C) (D : At K mg "check_name" s_check_name) (h_is_name : Has P w K mg base CX0 "is_name" s_is_name ["value"] 1 (spAsk 0 fun _ v => nameV v)) :
    Has P w K mg base CX0 "check_name" s_check_name ["value"] 2 spCkNm := by
  have nd := sc_check_name.nd
  refine has_mk D sc_check_name (fun vs H Q E h => ?len) (fun _ _ _ _ _ _ us hl => match us, hl with | [_], _ => rfl) (fun f cdv A outer s H vs Q E hr hgd h => ?bd)
  case len =>
    obtain ⟨z, rfl, _⟩ := h
    rfl
  case bd =>
    obtain ⟨z, rfl, hz, k⟩ := h
    refine ⟨_, (pss_one (ps_if (pt_not (pt_val (peH h_is_name (hr.mono (by decide)) hgd rfl (pa_cons (pv 0) pa_nil)))) (pss_one ps_never) pss_nil)), ?_⟩
    refine s_st (σ' := [some (.str z)]) rfl ?_
    walk_at "go"
    refine ⟨_, fun _ => False, rfl, Th.str (by have := (name_nm hz).len; omega), fun H1 r1 => ?_⟩
    walk_at "go"
    refine ite_f (by show (!nameS z) = false; rw [hz]; rfl) ?_
    walk_at "go"
    exact k H1 r1

theorem ok_Copy__init__1 (T : Txt mg) (FC : FormC K mg C) (MU : OwnI K C .Mult) (SC : StmC K mg X_Statement X_If CK) (SW : SupW P K mg file) (FM : FmtC K C) (EF : EF K mg C) (D : AtK2 K mg file X_Statement (CK 1) (CK 1) "Copy" "Copy.__init__" s_Copy__init_) (h_Form__str_ : HasM P w K mg base C "__str__" s_Form__str_ ["self"] 1 (spStr C)) (h_Statement__init_ : HasM P w K mg base X_Statement "__init__" s_Statement__init_ ["self", "lines"] 1 (spStInit CK)) (h_check_form : Has P w K mg base CX0 "check_form" s_check_form ["value"] 1 (spCheckForm C)) (h_check_name : Has P w K mg base CX0 "check_name" s_check_name ["value"] 2 spCkNm) :
    HasK P w K mg base (CK 1) "Copy" 4 (spkP [(["amount", "start", "source", "to", "target"], [4, 3, 2, 1, 0]), (["target", "to", "source", "start", "amount"], [0, 1, 2, 3, 4])] ((spIni CK C) 1)) := by
  have nd := sc_Copy__init_.nd
  refine hasK2_mk (os := [(["amount", "start", "source", "to", "target"], [4, 3, 2, 1, 0]), (["target", "to", "source", "start", "amount"], [0, 1, 2, 3, 4])]) D sc_Copy__init_ (fun vs H Q E h => ?len) (fun _ _ _ _ _ _ _ us hl => match us, hl with | [_, _, _, _, _, _], _ => rfl) (fun o ho => by
    simp only [List.mem_cons, List.not_mem_nil, or_false] at ho
    rcases ho with rfl | rfl
    all_goals
      intro cda cc kV doc pm ct an u ws hl
      match ws, hl with
      | [_, _, _, _, _], _ => rfl) (fun f cda cc f2 fd cd SD A outer s H vs Q E hr hgd h => ?bd)
  case len =>
    obtain ⟨a, dx, ws, as, rfl, sg, pa, _⟩ := h
    obtain ⟨z0, q1, z2, q3, q4, rfl⟩ := sg.i1 (by decide) (by decide) (by decide)
    have := paired_len pa
    simp at this
    simp [this]
  case bd =>
    obtain ⟨a, dx, ws, as, rfl, sg, pa, ha, kont⟩ := h
    obtain ⟨z0, q1, z2, q3, q4, rfl⟩ := sg.i1 (by decide) (by decide) (by decide)
    obtain ⟨v0, v1, v2, v3, v4, rfl, g0, g1, g2, g3, g4⟩ : ∃ v0 v1 v2 v3 v4, ws = [v0, v1, v2, v3, v4] ∧ ArAt C H v0 (.nm z0) ∧ ArAt C H v1 (.fm q1) ∧ ArAt C H v2 (.nm z2) ∧ ArAt C H v3 (.fm q3) ∧ ArAt C H v4 (.fm q4) := by
      cases pa with | cons g0 pa =>
      cases pa with | cons g1 pa =>
      cases pa with | cons g2 pa =>
      cases pa with | cons g3 pa =>
      cases pa with | cons g4 pa =>
      cases pa with | nil => exact ⟨_, _, _, _, _, rfl, g0, g1, g2, g3, g4⟩
    obtain ⟨rfl, n0⟩ := g0
    have ln0 := (name_nm n0).len
    obtain ⟨f1, lf1⟩ := g1
    obtain ⟨rfl, n2⟩ := g2
    have ln2 := (name_nm n2).len
    obtain ⟨f3, lf3⟩ := g3
    obtain ⟨f4, lf4⟩ := g4
    have lz : Str.empty.length = 0 := rfl
    have lc0 : (Str.ofString " ").length = 1 := by decide +kernel
    have lc1 : (Str.ofString "[").length = 1 := by decide +kernel
    have lc2 : (Str.ofString "] ").length = 2 := by decide +kernel
    have lc3 : (Str.ofString "[").length = 1 := by decide +kernel
    have lc4 : (Str.ofString "] (").length = 3 := by decide +kernel
    have lc5 : (Str.ofString ")").length = 1 := by decide +kernel
    have lw : (stW 1).length ≤ 10 := by decide +kernel
    obtain ⟨uW, hW⟩ := SC.con 1 (by decide)
    refine ⟨_, (pssA_cons (psa_of (ps_expr (peH h_check_name (hr.mono (by decide)) hgd rfl (pa_cons (pv 1) pa_nil)))) (pssA_cons (psa_of (ps_expr (peH h_check_form (hr.mono (by decide)) hgd rfl (pa_cons (pv 2) pa_nil)))) (pssA_cons (psa_of (ps_expr (peH h_check_name (hr.mono (by decide)) hgd rfl (pa_cons (pv 3) pa_nil)))) (pssA_cons (psa_of (ps_expr (peH h_check_form (hr.mono (by decide)) hgd rfl (pa_cons (pv 4) pa_nil)))) (pssA_cons (psa_of (ps_expr (peH h_check_form (hr.mono (by decide)) hgd rfl (pa_cons (pv 5) pa_nil)))) (pssA_cons (psa_of (sfldK K (ha := (pv 0)) (hv := (pv 1)))) (pssA_cons (psa_of (sfldK K (ha := (pv 0)) (hv := (pv 2)))) (pssA_cons (psa_of (sfldK K (ha := (pv 0)) (hv := (pv 3)))) (pssA_cons (psa_of (sfldK K (ha := (pv 0)) (hv := (pv 4)))) (pssA_cons (psa_of (sfldK K (ha := (pv 0)) (hv := (pv 5)))) (pssA_one (ps_sup2 SD SW h_Statement__init_ (hr.mono (by decide)) hgd (pa_cons (pe_tup (pa_cons (pe_joinedN (PJ.cons (pe_fmt (conK K (he := (pv 0)))) (PJ.cons pe_str (PJ.cons (pe_fmt (pv 1)) (PJ.cons pe_str (PJ.cons (fmtD (CK := fun _ => C) (n := 1) (HasD.one h_Form__str_) (fun _ _ => FM) (hr.mono (by decide)) hgd (pv 2)) (PJ.cons pe_str (PJ.cons (pe_fmt (pv 3)) (PJ.cons pe_str (PJ.cons (fmtD (CK := fun _ => C) (n := 1) (HasD.one h_Form__str_) (fun _ _ => FM) (hr.mono (by decide)) hgd (pv 4)) (PJ.cons pe_str (PJ.cons (fmtD (CK := fun _ => C) (n := 1) (HasD.one h_Form__str_) (fun _ _ => FM) (hr.mono (by decide)) hgd (pv 5)) (PJ.cons pe_str PJ.nil))))))))))))) pa_nil)) pa_nil))))))))))))), ?_⟩
    refine s_st (σ' := [some (.ref a), some (.str z0), some (v1), some (.str z2), some (v3), some (v4), some (.ref (CK 1))]) rfl ?_
    have k9 : 1 < 9 := by decide
    walk_at "go"
    refine ⟨z0, rfl, n0, fun H1 r1 => ?_⟩
    have f1 := f1.same r1
    have f3 := f3.same r1
    have f4 := f4.same r1
    have ha := r1 _ _ ha
    walk_at "go"
    refine ⟨v1, q1, rfl, f1, ?_⟩
    walk_at "go"
    refine ⟨z2, rfl, n2, fun H3 r3 => ?_⟩
    have f1 := f1.same r3
    have f3 := f3.same r3
    have f4 := f4.same r3
    have ha := r3 _ _ ha
    walk_at "go"
    refine ⟨v3, q3, rfl, f3, ?_⟩
    walk_at "go"
    refine ⟨v4, q4, rfl, f4, ?_⟩
    walk_at "go"
    refine s_sfldN (gs := [(Str.ofString "target", .str z0)]) ha (SC.cls k9) (SC.naF k9 (by decide +kernel)) (by simp) rfl (Rx.refl _) fun J0 x0 _ a0 => ?_
    walk_at "go"
    refine s_sfldN (gs := [(Str.ofString "target", .str z0), (Str.ofString "to", v1)]) a0 (SC.cls k9) (SC.naF k9 (by decide +kernel)) (by simp) rfl x0 fun J1 x1 _ a1 => ?_
    walk_at "go"
    refine s_sfldN (gs := [(Str.ofString "target", .str z0), (Str.ofString "to", v1), (Str.ofString "source", .str z2)]) a1 (SC.cls k9) (SC.naF k9 (by decide +kernel)) (by simp) rfl x1 fun J2 x2 _ a2 => ?_
    walk_at "go"
    refine s_sfldN (gs := [(Str.ofString "target", .str z0), (Str.ofString "to", v1), (Str.ofString "source", .str z2), (Str.ofString "start", v3)]) a2 (SC.cls k9) (SC.naF k9 (by decide +kernel)) (by simp) rfl x2 fun J3 x3 _ a3 => ?_
    walk_at "go"
    refine s_sfldN (gs := [(Str.ofString "target", .str z0), (Str.ofString "to", v1), (Str.ofString "source", .str z2), (Str.ofString "start", v3), (Str.ofString "amount", v4)]) a3 (SC.cls k9) (SC.naF k9 (by decide +kernel)) (by simp) rfl x3 fun J4 x4 _ a4 => ?_
    walk_at "go"
    have fo1 := f1
    have fo3 := f3
    have fo4 := f4
    have nb := Nb.of_rx ha x4
    have f1 := f1.nb nb
    have f3 := f3.nb nb
    have f4 := f4.nb nb
    refine ⟨a, CK 1, dx, _, rfl, a4, SD.sc, ?_⟩
    walk_at "go"
    refine ⟨a, CK 1, dx, _, .str (stW 1), uW, rfl, a4, SC.cls k9, hW, rfl, ?_⟩
    walk_at "go"
    try refine ⟨szL (by simp only [len_app]; omega), ?_⟩
    walk_at "go"
    try refine ⟨szL (by simp only [len_app]; omega), ?_⟩
    walk_at "go"
    refine s_fmtF f1 (by omega) ?_
    refine ⟨_, rfl, szL (by simp only [len_app]; omega), ?_⟩
    walk_at "go"
    try refine ⟨szL (by simp only [len_app]; omega), ?_⟩
    walk_at "go"
    refine s_fmtF f3 (by omega) ?_
    refine ⟨_, rfl, szL (by simp only [len_app]; omega), ?_⟩
    walk_at "go"
    refine s_fmtF f4 (by omega) ?_
    refine ⟨_, rfl, szL (by simp only [len_app]; omega), ?_⟩
    walk_at "go"
    refine s_mk fun t K2 ht q2_ et => ?_
    have at2 := q2_ _ _ a4
    have nta : t ≠ a := fun z => by rw [z, at2] at et; cases et
    walk_at "go"
    refine ⟨a, t, dx, 1, _, rfl, k9, at2, by simp, rfl, fun K3 x_ s_ a_ => ?_⟩
    have rxA : Rx [a] H3 K3 := x4.trans ((Rx.same q2_).trans x_)
    have nbA := Nb.of_rx ha rxA
    have tL := s_ t _ (by show (if t = a then none else K2 t) = _; rw [if_neg nta]; exact et)
    refine kont K3 ((Rx.same r1).trans ((Rx.same r3).trans rxA)) ⟨k9, sg, a, dx, t, [.str z0, v1, .str z2, v3, v4], rfl, a_, (.cons ⟨rfl, n0⟩ (.cons ⟨fo1.nb nbA, lf1⟩ (.cons ⟨rfl, n2⟩ (.cons ⟨fo3.nb nbA, lf3⟩ (.cons ⟨fo4.nb nbA, lf4⟩ .nil))))), ?_⟩
    rw [tL, emp_app]
    rfl

theorem ok_Copy__init__2 (T : Txt mg) (FC : FormC K mg C) (MU : OwnI K C .Mult) (SC : StmC K mg X_Statement X_If CK) (SW : SupW P K mg file) (FM : FmtC K C) (EF : EF K mg C) (D : AtK2 K mg file X_Statement (CK 1) (CK 2) "Up" "Copy.__init__" s_Copy__init_) (h_Form__str_ : HasM P w K mg base C "__str__" s_Form__str_ ["self"] 1 (spStr C)) (h_Statement__init_ : HasM P w K mg base X_Statement "__init__" s_Statement__init_ ["self", "lines"] 1 (spStInit CK)) (h_check_form : Has P w K mg base CX0 "check_form" s_check_form ["value"] 1 (spCheckForm C)) (h_check_name : Has P w K mg base CX0 "check_name" s_check_name ["value"] 2 spCkNm) :
    HasK P w K mg base (CK 2) "Up" 4 (spkP [(["target", "to", "source", "start", "amount"], [0, 1, 2, 3, 4])] ((spIni CK C) 2)) := by
  have nd := sc_Copy__init_.nd
  refine hasK2_mk (os := [(["target", "to", "source", "start", "amount"], [0, 1, 2, 3, 4])]) D sc_Copy__init_ (fun vs H Q E h => ?len) (fun _ _ _ _ _ _ _ us hl => match us, hl with | [_, _, _, _, _, _], _ => rfl) (fun o ho => by
    simp only [List.mem_cons, List.not_mem_nil, or_false] at ho
    rcases ho with rfl
    all_goals
      intro cda cc kV doc pm ct an u ws hl
      match ws, hl with
      | [_, _, _, _, _], _ => rfl) (fun f cda cc f2 fd cd SD A outer s H vs Q E hr hgd h => ?bd)
  case len =>
    obtain ⟨a, dx, ws, as, rfl, sg, pa, _⟩ := h
    obtain ⟨z0, q1, z2, q3, q4, rfl⟩ := sg.i1 (by decide) (by decide) (by decide)
    have := paired_len pa
    simp at this
    simp [this]
  case bd =>
    obtain ⟨a, dx, ws, as, rfl, sg, pa, ha, kont⟩ := h
    obtain ⟨z0, q1, z2, q3, q4, rfl⟩ := sg.i1 (by decide) (by decide) (by decide)
    obtain ⟨v0, v1, v2, v3, v4, rfl, g0, g1, g2, g3, g4⟩ : ∃ v0 v1 v2 v3 v4, ws = [v0, v1, v2, v3, v4] ∧ ArAt C H v0 (.nm z0) ∧ ArAt C H v1 (.fm q1) ∧ ArAt C H v2 (.nm z2) ∧ ArAt C H v3 (.fm q3) ∧ ArAt C H v4 (.fm q4) := by
      cases pa with | cons g0 pa =>
      cases pa with | cons g1 pa =>
      cases pa with | cons g2 pa =>
      cases pa with | cons g3 pa =>
      cases pa with | cons g4 pa =>
      cases pa with | nil => exact ⟨_, _, _, _, _, rfl, g0, g1, g2, g3, g4⟩
    obtain ⟨rfl, n0⟩ := g0
    have ln0 := (name_nm n0).len
    obtain ⟨f1, lf1⟩ := g1
    obtain ⟨rfl, n2⟩ := g2
    have ln2 := (name_nm n2).len
    obtain ⟨f3, lf3⟩ := g3
    obtain ⟨f4, lf4⟩ := g4
    have lz : Str.empty.length = 0 := rfl
    have lc0 : (Str.ofString " ").length = 1 := by decide +kernel
    have lc1 : (Str.ofString "[").length = 1 := by decide +kernel
    have lc2 : (Str.ofString "] ").length = 2 := by decide +kernel
    have lc3 : (Str.ofString "[").length = 1 := by decide +kernel
    have lc4 : (Str.ofString "] (").length = 3 := by decide +kernel
    have lc5 : (Str.ofString ")").length = 1 := by decide +kernel
    have lw : (stW 2).length ≤ 10 := by decide +kernel
    obtain ⟨uW, hW⟩ := SC.con 2 (by decide)
    refine ⟨_, (pssA_cons (psa_of (ps_expr (peH h_check_name (hr.mono (by decide)) hgd rfl (pa_cons (pv 1) pa_nil)))) (pssA_cons (psa_of (ps_expr (peH h_check_form (hr.mono (by decide)) hgd rfl (pa_cons (pv 2) pa_nil)))) (pssA_cons (psa_of (ps_expr (peH h_check_name (hr.mono (by decide)) hgd rfl (pa_cons (pv 3) pa_nil)))) (pssA_cons (psa_of (ps_expr (peH h_check_form (hr.mono (by decide)) hgd rfl (pa_cons (pv 4) pa_nil)))) (pssA_cons (psa_of (ps_expr (peH h_check_form (hr.mono (by decide)) hgd rfl (pa_cons (pv 5) pa_nil)))) (pssA_cons (psa_of (sfldK K (ha := (pv 0)) (hv := (pv 1)))) (pssA_cons (psa_of (sfldK K (ha := (pv 0)) (hv := (pv 2)))) (pssA_cons (psa_of (sfldK K (ha := (pv 0)) (hv := (pv 3)))) (pssA_cons (psa_of (sfldK K (ha := (pv 0)) (hv := (pv 4)))) (pssA_cons (psa_of (sfldK K (ha := (pv 0)) (hv := (pv 5)))) (pssA_one (ps_sup2 SD SW h_Statement__init_ (hr.mono (by decide)) hgd (pa_cons (pe_tup (pa_cons (pe_joinedN (PJ.cons (pe_fmt (conK K (he := (pv 0)))) (PJ.cons pe_str (PJ.cons (pe_fmt (pv 1)) (PJ.cons pe_str (PJ.cons (fmtD (CK := fun _ => C) (n := 1) (HasD.one h_Form__str_) (fun _ _ => FM) (hr.mono (by decide)) hgd (pv 2)) (PJ.cons pe_str (PJ.cons (pe_fmt (pv 3)) (PJ.cons pe_str (PJ.cons (fmtD (CK := fun _ => C) (n := 1) (HasD.one h_Form__str_) (fun _ _ => FM) (hr.mono (by decide)) hgd (pv 4)) (PJ.cons pe_str (PJ.cons (fmtD (CK := fun _ => C) (n := 1) (HasD.one h_Form__str_) (fun _ _ => FM) (hr.mono (by decide)) hgd (pv 5)) (PJ.cons pe_str PJ.nil))))))))))))) pa_nil)) pa_nil))))))))))))), ?_⟩
    refine s_st (σ' := [some (.ref a), some (.str z0), some (v1), some (.str z2), some (v3), some (v4), some (.ref (CK 1))]) rfl ?_
    have k9 : 2 < 9 := by decide
    walk_at "go"
    refine ⟨z0, rfl, n0, fun H1 r1 => ?_⟩
    have f1 := f1.same r1
    have f3 := f3.same r1
    have f4 := f4.same r1
    have ha := r1 _ _ ha
    walk_at "go"
    refine ⟨v1, q1, rfl, f1, ?_⟩
    walk_at "go"
    refine ⟨z2, rfl, n2, fun H3 r3 => ?_⟩
    have f1 := f1.same r3
    have f3 := f3.same r3
    have f4 := f4.same r3
    have ha := r3 _ _ ha
    walk_at "go"
    refine ⟨v3, q3, rfl, f3, ?_⟩
    walk_at "go"
    refine ⟨v4, q4, rfl, f4, ?_⟩
    walk_at "go"
    refine s_sfldN (gs := [(Str.ofString "target", .str z0)]) ha (SC.cls k9) (SC.naF k9 (by decide +kernel)) (by simp) rfl (Rx.refl _) fun J0 x0 _ a0 => ?_
    walk_at "go"
    refine s_sfldN (gs := [(Str.ofString "target", .str z0), (Str.ofString "to", v1)]) a0 (SC.cls k9) (SC.naF k9 (by decide +kernel)) (by simp) rfl x0 fun J1 x1 _ a1 => ?_
    walk_at "go"
    refine s_sfldN (gs := [(Str.ofString "target", .str z0), (Str.ofString "to", v1), (Str.ofString "source", .str z2)]) a1 (SC.cls k9) (SC.naF k9 (by decide +kernel)) (by simp) rfl x1 fun J2 x2 _ a2 => ?_
    walk_at "go"
    refine s_sfldN (gs := [(Str.ofString "target", .str z0), (Str.ofString "to", v1), (Str.ofString "source", .str z2), (Str.ofString "start", v3)]) a2 (SC.cls k9) (SC.naF k9 (by decide +kernel)) (by simp) rfl x2 fun J3 x3 _ a3 => ?_
    walk_at "go"
    refine s_sfldN (gs := [(Str.ofString "target", .str z0), (Str.ofString "to", v1), (Str.ofString "source", .str z2), (Str.ofString "start", v3), (Str.ofString "amount", v4)]) a3 (SC.cls k9) (SC.naF k9 (by decide +kernel)) (by simp) rfl x3 fun J4 x4 _ a4 => ?_
    walk_at "go"
    have fo1 := f1
    have fo3 := f3
    have fo4 := f4
    have nb := Nb.of_rx ha x4
    have f1 := f1.nb nb
    have f3 := f3.nb nb
    have f4 := f4.nb nb
    refine ⟨a, CK 2, dx, _, rfl, a4, SD.sc, ?_⟩
    walk_at "go"
    refine ⟨a, CK 2, dx, _, .str (stW 2), uW, rfl, a4, SC.cls k9, hW, rfl, ?_⟩
    walk_at "go"
    try refine ⟨szL (by simp only [len_app]; omega), ?_⟩
    walk_at "go"
    try refine ⟨szL (by simp only [len_app]; omega), ?_⟩
    walk_at "go"
    refine s_fmtF f1 (by omega) ?_
    refine ⟨_, rfl, szL (by simp only [len_app]; omega), ?_⟩
    walk_at "go"
    try refine ⟨szL (by simp only [len_app]; omega), ?_⟩
    walk_at "go"
    refine s_fmtF f3 (by omega) ?_
    refine ⟨_, rfl, szL (by simp only [len_app]; omega), ?_⟩
    walk_at "go"
    refine s_fmtF f4 (by omega) ?_
    refine ⟨_, rfl, szL (by simp only [len_app]; omega), ?_⟩
    walk_at "go"
    refine s_mk fun t K2 ht q2_ et => ?_
    have at2 := q2_ _ _ a4
    have nta : t ≠ a := fun z => by rw [z, at2] at et; cases et
    walk_at "go"
    refine ⟨a, t, dx, 2, _, rfl, k9, at2, by simp, rfl, fun K3 x_ s_ a_ => ?_⟩
    have rxA : Rx [a] H3 K3 := x4.trans ((Rx.same q2_).trans x_)
    have nbA := Nb.of_rx ha rxA
    have tL := s_ t _ (by show (if t = a then none else K2 t) = _; rw [if_neg nta]; exact et)
    refine kont K3 ((Rx.same r1).trans ((Rx.same r3).trans rxA)) ⟨k9, sg, a, dx, t, [.str z0, v1, .str z2, v3, v4], rfl, a_, (.cons ⟨rfl, n0⟩ (.cons ⟨fo1.nb nbA, lf1⟩ (.cons ⟨rfl, n2⟩ (.cons ⟨fo3.nb nbA, lf3⟩ (.cons ⟨fo4.nb nbA, lf4⟩ .nil))))), ?_⟩
    rw [tL, emp_app]
    rfl

theorem ok_Copy__init__3 (T : Txt mg) (FC : FormC K mg C) (MU : OwnI K C .Mult) (SC : StmC K mg X_Statement X_If CK) (SW : SupW P K mg file) (FM : FmtC K C) (EF : EF K mg C) (D : AtK2 K mg file X_Statement (CK 1) (CK 3) "Down" "Copy.__init__" s_Copy__init_) (h_Form__str_ : HasM P w K mg base C "__str__" s_Form__str_ ["self"] 1 (spStr C)) (h_Statement__init_ : HasM P w K mg base X_Statement "__init__" s_Statement__init_ ["self", "lines"] 1 (spStInit CK)) (h_check_form : Has P w K mg base CX0 "check_form" s_check_form ["value"] 1 (spCheckForm C)) (h_check_name : Has P w K mg base CX0 "check_name" s_check_name ["value"] 2 spCkNm) :
    HasK P w K mg base (CK 3) "Down" 4 (spkP [(["start", "target", "amount", "to", "source"], [1, 3, 4, 0, 2])] ((spIni CK C) 3)) := by
  have nd := sc_Copy__init_.nd
  refine hasK2_mk (os := [(["start", "target", "amount", "to", "source"], [1, 3, 4, 0, 2])]) D sc_Copy__init_ (fun vs H Q E h => ?len) (fun _ _ _ _ _ _ _ us hl => match us, hl with | [_, _, _, _, _, _], _ => rfl) (fun o ho => by
    simp only [List.mem_cons, List.not_mem_nil, or_false] at ho
    rcases ho with rfl
    all_goals
      intro cda cc kV doc pm ct an u ws hl
      match ws, hl with
      | [_, _, _, _, _], _ => rfl) (fun f cda cc f2 fd cd SD A outer s H vs Q E hr hgd h => ?bd)
  case len =>
    obtain ⟨a, dx, ws, as, rfl, sg, pa, _⟩ := h
    obtain ⟨z0, q1, z2, q3, q4, rfl⟩ := sg.i1 (by decide) (by decide) (by decide)
    have := paired_len pa
    simp at this
    simp [this]
  case bd =>
    obtain ⟨a, dx, ws, as, rfl, sg, pa, ha, kont⟩ := h
    obtain ⟨z0, q1, z2, q3, q4, rfl⟩ := sg.i1 (by decide) (by decide) (by decide)
    obtain ⟨v0, v1, v2, v3, v4, rfl, g0, g1, g2, g3, g4⟩ : ∃ v0 v1 v2 v3 v4, ws = [v0, v1, v2, v3, v4] ∧ ArAt C H v0 (.nm z0) ∧ ArAt C H v1 (.fm q1) ∧ ArAt C H v2 (.nm z2) ∧ ArAt C H v3 (.fm q3) ∧ ArAt C H v4 (.fm q4) := by
      cases pa with | cons g0 pa =>
      cases pa with | cons g1 pa =>
      cases pa with | cons g2 pa =>
      cases pa with | cons g3 pa =>
      cases pa with | cons g4 pa =>
      cases pa with | nil => exact ⟨_, _, _, _, _, rfl, g0, g1, g2, g3, g4⟩
    obtain ⟨rfl, n0⟩ := g0
    have ln0 := (name_nm n0).len
    obtain ⟨f1, lf1⟩ := g1
    obtain ⟨rfl, n2⟩ := g2
    have ln2 := (name_nm n2).len
    obtain ⟨f3, lf3⟩ := g3
    obtain ⟨f4, lf4⟩ := g4
    have lz : Str.empty.length = 0 := rfl
    have lc0 : (Str.ofString " ").length = 1 := by decide +kernel
    have lc1 : (Str.ofString "[").length = 1 := by decide +kernel
    have lc2 : (Str.ofString "] ").length = 2 := by decide +kernel
    have lc3 : (Str.ofString "[").length = 1 := by decide +kernel
    have lc4 : (Str.ofString "] (").length = 3 := by decide +kernel
    have lc5 : (Str.ofString ")").length = 1 := by decide +kernel
    have lw : (stW 3).length ≤ 10 := by decide +kernel
    obtain ⟨uW, hW⟩ := SC.con 3 (by decide)
    refine ⟨_, (pssA_cons (psa_of (ps_expr (peH h_check_name (hr.mono (by decide)) hgd rfl (pa_cons (pv 1) pa_nil)))) (pssA_cons (psa_of (ps_expr (peH h_check_form (hr.mono (by decide)) hgd rfl (pa_cons (pv 2) pa_nil)))) (pssA_cons (psa_of (ps_expr (peH h_check_name (hr.mono (by decide)) hgd rfl (pa_cons (pv 3) pa_nil)))) (pssA_cons (psa_of (ps_expr (peH h_check_form (hr.mono (by decide)) hgd rfl (pa_cons (pv 4) pa_nil)))) (pssA_cons (psa_of (ps_expr (peH h_check_form (hr.mono (by decide)) hgd rfl (pa_cons (pv 5) pa_nil)))) (pssA_cons (psa_of (sfldK K (ha := (pv 0)) (hv := (pv 1)))) (pssA_cons (psa_of (sfldK K (ha := (pv 0)) (hv := (pv 2)))) (pssA_cons (psa_of (sfldK K (ha := (pv 0)) (hv := (pv 3)))) (pssA_cons (psa_of (sfldK K (ha := (pv 0)) (hv := (pv 4)))) (pssA_cons (psa_of (sfldK K (ha := (pv 0)) (hv := (pv 5)))) (pssA_one (ps_sup2 SD SW h_Statement__init_ (hr.mono (by decide)) hgd (pa_cons (pe_tup (pa_cons (pe_joinedN (PJ.cons (pe_fmt (conK K (he := (pv 0)))) (PJ.cons pe_str (PJ.cons (pe_fmt (pv 1)) (PJ.cons pe_str (PJ.cons (fmtD (CK := fun _ => C) (n := 1) (HasD.one h_Form__str_) (fun _ _ => FM) (hr.mono (by decide)) hgd (pv 2)) (PJ.cons pe_str (PJ.cons (pe_fmt (pv 3)) (PJ.cons pe_str (PJ.cons (fmtD (CK := fun _ => C) (n := 1) (HasD.one h_Form__str_) (fun _ _ => FM) (hr.mono (by decide)) hgd (pv 4)) (PJ.cons pe_str (PJ.cons (fmtD (CK := fun _ => C) (n := 1) (HasD.one h_Form__str_) (fun _ _ => FM) (hr.mono (by decide)) hgd (pv 5)) (PJ.cons pe_str PJ.nil))))))))))))) pa_nil)) pa_nil))))))))))))), ?_⟩
    refine s_st (σ' := [some (.ref a), some (.str z0), some (v1), some (.str z2), some (v3), some (v4), some (.ref (CK 1))]) rfl ?_
    have k9 : 3 < 9 := by decide
    walk_at "go"
    refine ⟨z0, rfl, n0, fun H1 r1 => ?_⟩
    have f1 := f1.same r1
    have f3 := f3.same r1
    have f4 := f4.same r1
    have ha := r1 _ _ ha
    walk_at "go"
    refine ⟨v1, q1, rfl, f1, ?_⟩
    walk_at "go"
    refine ⟨z2, rfl, n2, fun H3 r3 => ?_⟩
    have f1 := f1.same r3
    have f3 := f3.same r3
    have f4 := f4.same r3
    have ha := r3 _ _ ha
    walk_at "go"
    refine ⟨v3, q3, rfl, f3, ?_⟩
    walk_at "go"
    refine ⟨v4, q4, rfl, f4, ?_⟩
    walk_at "go"
    refine s_sfldN (gs := [(Str.ofString "target", .str z0)]) ha (SC.cls k9) (SC.naF k9 (by decide +kernel)) (by simp) rfl (Rx.refl _) fun J0 x0 _ a0 => ?_
    walk_at "go"
    refine s_sfldN (gs := [(Str.ofString "target", .str z0), (Str.ofString "to", v1)]) a0 (SC.cls k9) (SC.naF k9 (by decide +kernel)) (by simp) rfl x0 fun J1 x1 _ a1 => ?_
    walk_at "go"
    refine s_sfldN (gs := [(Str.ofString "target", .str z0), (Str.ofString "to", v1), (Str.ofString "source", .str z2)]) a1 (SC.cls k9) (SC.naF k9 (by decide +kernel)) (by simp) rfl x1 fun J2 x2 _ a2 => ?_
    walk_at "go"
    refine s_sfldN (gs := [(Str.ofString "target", .str z0), (Str.ofString "to", v1), (Str.ofString "source", .str z2), (Str.ofString "start", v3)]) a2 (SC.cls k9) (SC.naF k9 (by decide +kernel)) (by simp) rfl x2 fun J3 x3 _ a3 => ?_
    walk_at "go"
    refine s_sfldN (gs := [(Str.ofString "target", .str z0), (Str.ofString "to", v1), (Str.ofString "source", .str z2), (Str.ofString "start", v3), (Str.ofString "amount", v4)]) a3 (SC.cls k9) (SC.naF k9 (by decide +kernel)) (by simp) rfl x3 fun J4 x4 _ a4 => ?_
    walk_at "go"
    have fo1 := f1
    have fo3 := f3
    have fo4 := f4
    have nb := Nb.of_rx ha x4
    have f1 := f1.nb nb
    have f3 := f3.nb nb
    have f4 := f4.nb nb
    refine ⟨a, CK 3, dx, _, rfl, a4, SD.sc, ?_⟩
    walk_at "go"
    refine ⟨a, CK 3, dx, _, .str (stW 3), uW, rfl, a4, SC.cls k9, hW, rfl, ?_⟩
    walk_at "go"
    try refine ⟨szL (by simp only [len_app]; omega), ?_⟩
    walk_at "go"
    try refine ⟨szL (by simp only [len_app]; omega), ?_⟩
    walk_at "go"
    refine s_fmtF f1 (by omega) ?_
    refine ⟨_, rfl, szL (by simp only [len_app]; omega), ?_⟩
    walk_at "go"
    try refine ⟨szL (by simp only [len_app]; omega), ?_⟩
    walk_at "go"
    refine s_fmtF f3 (by omega) ?_
    refine ⟨_, rfl, szL (by simp only [len_app]; omega), ?_⟩
    walk_at "go"
    refine s_fmtF f4 (by omega) ?_
    refine ⟨_, rfl, szL (by simp only [len_app]; omega), ?_⟩
    walk_at "go"
    refine s_mk fun t K2 ht q2_ et => ?_
    have at2 := q2_ _ _ a4
    have nta : t ≠ a := fun z => by rw [z, at2] at et; cases et
    walk_at "go"
    refine ⟨a, t, dx, 3, _, rfl, k9, at2, by simp, rfl, fun K3 x_ s_ a_ => ?_⟩
    have rxA : Rx [a] H3 K3 := x4.trans ((Rx.same q2_).trans x_)
    have nbA := Nb.of_rx ha rxA
    have tL := s_ t _ (by show (if t = a then none else K2 t) = _; rw [if_neg nta]; exact et)
    refine kont K3 ((Rx.same r1).trans ((Rx.same r3).trans rxA)) ⟨k9, sg, a, dx, t, [.str z0, v1, .str z2, v3, v4], rfl, a_, (.cons ⟨rfl, n0⟩ (.cons ⟨fo1.nb nbA, lf1⟩ (.cons ⟨rfl, n2⟩ (.cons ⟨fo3.nb nbA, lf3⟩ (.cons ⟨fo4.nb nbA, lf4⟩ .nil))))), ?_⟩
    rw [tL, emp_app]
    rfl

theorem ok_Copy__init__4 (T : Txt mg) (FC : FormC K mg C) (MU : OwnI K C .Mult) (SC : StmC K mg X_Statement X_If CK) (SW : SupW P K mg file) (FM : FmtC K C) (EF : EF K mg C) (D : AtK2 K mg file X_Statement (CK 1) (CK 4) "Apart" "Copy.__init__" s_Copy__init_) (h_Form__str_ : HasM P w K mg base C "__str__" s_Form__str_ ["self"] 1 (spStr C)) (h_Statement__init_ : HasM P w K mg base X_Statement "__init__" s_Statement__init_ ["self", "lines"] 1 (spStInit CK)) (h_check_form : Has P w K mg base CX0 "check_form" s_check_form ["value"] 1 (spCheckForm C)) (h_check_name : Has P w K mg base CX0 "check_name" s_check_name ["value"] 2 spCkNm) :
    HasK P w K mg base (CK 4) "Apart" 4 (spkP [(["target", "source", "to", "start", "amount"], [0, 2, 1, 3, 4])] ((spIni CK C) 4)) := by
  have nd := sc_Copy__init_.nd
  refine hasK2_mk (os := [(["target", "source", "to", "start", "amount"], [0, 2, 1, 3, 4])]) D sc_Copy__init_ (fun vs H Q E h => ?len) (fun _ _ _ _ _ _ _ us hl => match us, hl with | [_, _, _, _, _, _], _ => rfl) (fun o ho => by
    simp only [List.mem_cons, List.not_mem_nil, or_false] at ho
    rcases ho with rfl
    all_goals
      intro cda cc kV doc pm ct an u ws hl
      match ws, hl with
      | [_, _, _, _, _], _ => rfl) (fun f cda cc f2 fd cd SD A outer s H vs Q E hr hgd h => ?bd)
  case len =>
    obtain ⟨a, dx, ws, as, rfl, sg, pa, _⟩ := h
    obtain ⟨z0, q1, z2, q3, q4, rfl⟩ := sg.i1 (by decide) (by decide) (by decide)
    have := paired_len pa
    simp at this
    simp [this]
  case bd =>
    obtain ⟨a, dx, ws, as, rfl, sg, pa, ha, kont⟩ := h
    obtain ⟨z0, q1, z2, q3, q4, rfl⟩ := sg.i1 (by decide) (by decide) (by decide)
    obtain ⟨v0, v1, v2, v3, v4, rfl, g0, g1, g2, g3, g4⟩ : ∃ v0 v1 v2 v3 v4, ws = [v0, v1, v2, v3, v4] ∧ ArAt C H v0 (.nm z0) ∧ ArAt C H v1 (.fm q1) ∧ ArAt C H v2 (.nm z2) ∧ ArAt C H v3 (.fm q3) ∧ ArAt C H v4 (.fm q4) := by
      cases pa with | cons g0 pa =>
      cases pa with | cons g1 pa =>
      cases pa with | cons g2 pa =>
      cases pa with | cons g3 pa =>
      cases pa with | cons g4 pa =>
      cases pa with | nil => exact ⟨_, _, _, _, _, rfl, g0, g1, g2, g3, g4⟩
    obtain ⟨rfl, n0⟩ := g0
    have ln0 := (name_nm n0).len
    obtain ⟨f1, lf1⟩ := g1
    obtain ⟨rfl, n2⟩ := g2
    have ln2 := (name_nm n2).len
    obtain ⟨f3, lf3⟩ := g3
    obtain ⟨f4, lf4⟩ := g4
    have lz : Str.empty.length = 0 := rfl
    have lc0 : (Str.ofString " ").length = 1 := by decide +kernel
    have lc1 : (Str.ofString "[").length = 1 := by decide +kernel
    have lc2 : (Str.ofString "] ").length = 2 := by decide +kernel
    have lc3 : (Str.ofString "[").length = 1 := by decide +kernel
    have lc4 : (Str.ofString "] (").length = 3 := by decide +kernel
    have lc5 : (Str.ofString ")").length = 1 := by decide +kernel
    have lw : (stW 4).length ≤ 10 := by decide +kernel
    obtain ⟨uW, hW⟩ := SC.con 4 (by decide)
    refine ⟨_, (pssA_cons (psa_of (ps_expr (peH h_check_name (hr.mono (by decide)) hgd rfl (pa_cons (pv 1) pa_nil)))) (pssA_cons (psa_of (ps_expr (peH h_check_form (hr.mono (by decide)) hgd rfl (pa_cons (pv 2) pa_nil)))) (pssA_cons (psa_of (ps_expr (peH h_check_name (hr.mono (by decide)) hgd rfl (pa_cons (pv 3) pa_nil)))) (pssA_cons (psa_of (ps_expr (peH h_check_form (hr.mono (by decide)) hgd rfl (pa_cons (pv 4) pa_nil)))) (pssA_cons (psa_of (ps_expr (peH h_check_form (hr.mono (by decide)) hgd rfl (pa_cons (pv 5) pa_nil)))) (pssA_cons (psa_of (sfldK K (ha := (pv 0)) (hv := (pv 1)))) (pssA_cons (psa_of (sfldK K (ha := (pv 0)) (hv := (pv 2)))) (pssA_cons (psa_of (sfldK K (ha := (pv 0)) (hv := (pv 3)))) (pssA_cons (psa_of (sfldK K (ha := (pv 0)) (hv := (pv 4)))) (pssA_cons (psa_of (sfldK K (ha := (pv 0)) (hv := (pv 5)))) (pssA_one (ps_sup2 SD SW h_Statement__init_ (hr.mono (by decide)) hgd (pa_cons (pe_tup (pa_cons (pe_joinedN (PJ.cons (pe_fmt (conK K (he := (pv 0)))) (PJ.cons pe_str (PJ.cons (pe_fmt (pv 1)) (PJ.cons pe_str (PJ.cons (fmtD (CK := fun _ => C) (n := 1) (HasD.one h_Form__str_) (fun _ _ => FM) (hr.mono (by decide)) hgd (pv 2)) (PJ.cons pe_str (PJ.cons (pe_fmt (pv 3)) (PJ.cons pe_str (PJ.cons (fmtD (CK := fun _ => C) (n := 1) (HasD.one h_Form__str_) (fun _ _ => FM) (hr.mono (by decide)) hgd (pv 4)) (PJ.cons pe_str (PJ.cons (fmtD (CK := fun _ => C) (n := 1) (HasD.one h_Form__str_) (fun _ _ => FM) (hr.mono (by decide)) hgd (pv 5)) (PJ.cons pe_str PJ.nil))))))))))))) pa_nil)) pa_nil))))))))))))), ?_⟩
    refine s_st (σ' := [some (.ref a), some (.str z0), some (v1), some (.str z2), some (v3), some (v4), some (.ref (CK 1))]) rfl ?_
    have k9 : 4 < 9 := by decide
    walk_at "go"
    refine ⟨z0, rfl, n0, fun H1 r1 => ?_⟩
    have f1 := f1.same r1
    have f3 := f3.same r1
    have f4 := f4.same r1
    have ha := r1 _ _ ha
    walk_at "go"
    refine ⟨v1, q1, rfl, f1, ?_⟩
    walk_at "go"
    refine ⟨z2, rfl, n2, fun H3 r3 => ?_⟩
    have f1 := f1.same r3
    have f3 := f3.same r3
    have f4 := f4.same r3
    have ha := r3 _ _ ha
    walk_at "go"
    refine ⟨v3, q3, rfl, f3, ?_⟩
    walk_at "go"
    refine ⟨v4, q4, rfl, f4, ?_⟩
    walk_at "go"
    refine s_sfldN (gs := [(Str.ofString "target", .str z0)]) ha (SC.cls k9) (SC.naF k9 (by decide +kernel)) (by simp) rfl (Rx.refl _) fun J0 x0 _ a0 => ?_
    walk_at "go"
    refine s_sfldN (gs := [(Str.ofString "target", .str z0), (Str.ofString "to", v1)]) a0 (SC.cls k9) (SC.naF k9 (by decide +kernel)) (by simp) rfl x0 fun J1 x1 _ a1 => ?_
    walk_at "go"
    refine s_sfldN (gs := [(Str.ofString "target", .str z0), (Str.ofString "to", v1), (Str.ofString "source", .str z2)]) a1 (SC.cls k9) (SC.naF k9 (by decide +kernel)) (by simp) rfl x1 fun J2 x2 _ a2 => ?_
    walk_at "go"
    refine s_sfldN (gs := [(Str.ofString "target", .str z0), (Str.ofString "to", v1), (Str.ofString "source", .str z2), (Str.ofString "start", v3)]) a2 (SC.cls k9) (SC.naF k9 (by decide +kernel)) (by simp) rfl x2 fun J3 x3 _ a3 => ?_
    walk_at "go"
    refine s_sfldN (gs := [(Str.ofString "target", .str z0), (Str.ofString "to", v1), (Str.ofString "source", .str z2), (Str.ofString "start", v3), (Str.ofString "amount", v4)]) a3 (SC.cls k9) (SC.naF k9 (by decide +kernel)) (by simp) rfl x3 fun J4 x4 _ a4 => ?_
    walk_at "go"
    have fo1 := f1
    have fo3 := f3
    have fo4 := f4
    have nb := Nb.of_rx ha x4
    have f1 := f1.nb nb
    have f3 := f3.nb nb
    have f4 := f4.nb nb
    refine ⟨a, CK 4, dx, _, rfl, a4, SD.sc, ?_⟩
    walk_at "go"
    refine ⟨a, CK 4, dx, _, .str (stW 4), uW, rfl, a4, SC.cls k9, hW, rfl, ?_⟩
    walk_at "go"
    try refine ⟨szL (by simp only [len_app]; omega), ?_⟩
    walk_at "go"
    try refine ⟨szL (by simp only [len_app]; omega), ?_⟩
    walk_at "go"
    refine s_fmtF f1 (by omega) ?_
    refine ⟨_, rfl, szL (by simp only [len_app]; omega), ?_⟩
    walk_at "go"
    try refine ⟨szL (by simp only [len_app]; omega), ?_⟩
    walk_at "go"
    refine s_fmtF f3 (by omega) ?_
    refine ⟨_, rfl, szL (by simp only [len_app]; omega), ?_⟩
    walk_at "go"
    refine s_fmtF f4 (by omega) ?_
    refine ⟨_, rfl, szL (by simp only [len_app]; omega), ?_⟩
    walk_at "go"
    refine s_mk fun t K2 ht q2_ et => ?_
    have at2 := q2_ _ _ a4
    have nta : t ≠ a := fun z => by rw [z, at2] at et; cases et
    walk_at "go"
    refine ⟨a, t, dx, 4, _, rfl, k9, at2, by simp, rfl, fun K3 x_ s_ a_ => ?_⟩
    have rxA : Rx [a] H3 K3 := x4.trans ((Rx.same q2_).trans x_)
    have nbA := Nb.of_rx ha rxA
    have tL := s_ t _ (by show (if t = a then none else K2 t) = _; rw [if_neg nta]; exact et)
    refine kont K3 ((Rx.same r1).trans ((Rx.same r3).trans rxA)) ⟨k9, sg, a, dx, t, [.str z0, v1, .str z2, v3, v4], rfl, a_, (.cons ⟨rfl, n0⟩ (.cons ⟨fo1.nb nbA, lf1⟩ (.cons ⟨rfl, n2⟩ (.cons ⟨fo3.nb nbA, lf3⟩ (.cons ⟨fo4.nb nbA, lf4⟩ .nil))))), ?_⟩
    rw [tL, emp_app]
    rfl

theorem ok_Fill__init__7 (T : Txt mg) (FC : FormC K mg C) (MU : OwnI K C .Mult) (SC : StmC K mg X_Statement X_If CK) (SW : SupW P K mg file) (FM : FmtC K C) (EF : EF K mg C) (D : AtK2 K mg file X_Statement (CK 7) (CK 7) "Fill" "Fill.__init__" s_Fill__init_) (h_Form__str_ : HasM P w K mg base C "__str__" s_Form__str_ ["self"] 1 (spStr C)) (h_Statement__init_ : HasM P w K mg base X_Statement "__init__" s_Statement__init_ ["self", "lines"] 1 (spStInit CK)) (h_check_form : Has P w K mg base CX0 "check_form" s_check_form ["value"] 1 (spCheckForm C)) (h_check_name : Has P w K mg base CX0 "check_name" s_check_name ["value"] 2 spCkNm) (h_is_integer : Has P w K mg base CX0 "is_integer" s_is_integer ["value"] 1 (spAsk 0 fun _ v => isI v)) :
    HasK P w K mg base (CK 7) "Fill" 4 (spkP [(["letter", "start", "amount", "array"], [3, 1, 2, 0])] ((spIni CK C) 7)) := by
  have nd := sc_Fill__init_.nd
  refine hasK2_mk (os := [(["letter", "start", "amount", "array"], [3, 1, 2, 0])]) D sc_Fill__init_ (fun vs H Q E h => ?len) (fun _ _ _ _ _ _ _ us hl => match us, hl with | [_, _, _, _, _], _ => rfl) (fun o ho => by
    simp only [List.mem_cons, List.not_mem_nil, or_false] at ho
    rcases ho with rfl
    all_goals
      intro cda cc kV doc pm ct an u ws hl
      match ws, hl with
      | [_, _, _, _], _ => rfl) (fun f cda cc f2 fd cd SD A outer s H vs Q E hr hgd h => ?bd)
  case len =>
    obtain ⟨a, dx, ws, as, rfl, sg, pa, _⟩ := h
    obtain ⟨z0, q1, q2, i3, rfl⟩ := sg.i7
    have := paired_len pa
    simp at this
    simp [this]
  case bd =>
    obtain ⟨a, dx, ws, as, rfl, sg, pa, ha, kont⟩ := h
    obtain ⟨z0, q1, q2, i3, rfl⟩ := sg.i7
    obtain ⟨v0, v1, v2, v3, rfl, g0, g1, g2, g3⟩ : ∃ v0 v1 v2 v3, ws = [v0, v1, v2, v3] ∧ ArAt C H v0 (.nm z0) ∧ ArAt C H v1 (.fm q1) ∧ ArAt C H v2 (.fm q2) ∧ ArAt C H v3 (.it i3) := by
      cases pa with | cons g0 pa =>
      cases pa with | cons g1 pa =>
      cases pa with | cons g2 pa =>
      cases pa with | cons g3 pa =>
      cases pa with | nil => exact ⟨_, _, _, _, rfl, g0, g1, g2, g3⟩
    obtain ⟨rfl, n0⟩ := g0
    have ln0 := (name_nm n0).len
    obtain ⟨f1, lf1⟩ := g1
    obtain ⟨f2, lf2⟩ := g2
    obtain ⟨rfl, ib3⟩ := g3
    have lz : Str.empty.length = 0 := rfl
    have lc0 : (Str.ofString "fill ").length = 5 := by decide +kernel
    have lc1 : (Str.ofString "[").length = 1 := by decide +kernel
    have lc2 : (Str.ofString "] (").length = 3 := by decide +kernel
    have lc3 : (Str.ofString ") ").length = 2 := by decide +kernel
    have ilg : i3.natAbs.log2 < 1920 := bd_log (Nat.lt_of_le_of_lt ib3 (by decide +kernel))
    have ill : (Str.ofString (toString i3)).length ≤ 574 := len_int (Nat.lt_of_le_of_lt ib3 (by decide +kernel))
    refine ⟨_, (pssA_cons (psa_of (ps_expr (peH h_check_name (hr.mono (by decide)) hgd rfl (pa_cons (pv 1) pa_nil)))) (pssA_cons (psa_of (ps_expr (peH h_check_form (hr.mono (by decide)) hgd rfl (pa_cons (pv 2) pa_nil)))) (pssA_cons (psa_of (ps_expr (peH h_check_form (hr.mono (by decide)) hgd rfl (pa_cons (pv 3) pa_nil)))) (pssA_cons (psa_of (ps_if (pt_not (pt_val (peH h_is_integer (hr.mono (by decide)) hgd rfl (pa_cons (pv 4) pa_nil)))) (pss_one ps_never) pss_nil)) (pssA_cons (psa_of (sfldK K (ha := (pv 0)) (hv := (pv 1)))) (pssA_cons (psa_of (sfldK K (ha := (pv 0)) (hv := (pv 2)))) (pssA_cons (psa_of (sfldK K (ha := (pv 0)) (hv := (pv 3)))) (pssA_cons (psa_of (sfldK K (ha := (pv 0)) (hv := (pv 4)))) (pssA_one (ps_sup2 SD SW h_Statement__init_ (hr.mono (by decide)) hgd (pa_cons (pe_tup (pa_cons (pe_joinedN (PJ.cons pe_str (PJ.cons (pe_fmt (pv 1)) (PJ.cons pe_str (PJ.cons (fmtD (CK := fun _ => C) (n := 1) (HasD.one h_Form__str_) (fun _ _ => FM) (hr.mono (by decide)) hgd (pv 2)) (PJ.cons pe_str (PJ.cons (fmtD (CK := fun _ => C) (n := 1) (HasD.one h_Form__str_) (fun _ _ => FM) (hr.mono (by decide)) hgd (pv 3)) (PJ.cons pe_str (PJ.cons (pe_fmt (pv 4)) PJ.nil))))))))) pa_nil)) pa_nil))))))))))), ?_⟩
    refine s_st (σ' := [some (.ref a), some (.str z0), some (v1), some (v2), some (.int i3), some (.ref (CK 7))]) rfl ?_
    have k9 : 7 < 9 := by decide
    walk_at "go"
    refine ⟨z0, rfl, n0, fun H1 r1 => ?_⟩
    have f1 := f1.same r1
    have f2 := f2.same r1
    have ha := r1 _ _ ha
    walk_at "go"
    refine ⟨v1, q1, rfl, f1, ?_⟩
    walk_at "go"
    refine ⟨v2, q2, rfl, f2, ?_⟩
    walk_at "go"
    refine ⟨_, fun _ => False, rfl, Th.int, fun H4 r4 => ?_⟩
    have f1 := f1.same r4
    have f2 := f2.same r4
    have ha := r4 _ _ ha
    walk_at "go"
    refine ite_f rfl ?_
    walk_at "go"
    refine s_sfldN (gs := [(Str.ofString "array", .str z0)]) ha (SC.cls k9) (SC.naF k9 (by decide +kernel)) (by simp) rfl (Rx.refl _) fun J0 x0 _ a0 => ?_
    walk_at "go"
    refine s_sfldN (gs := [(Str.ofString "array", .str z0), (Str.ofString "start", v1)]) a0 (SC.cls k9) (SC.naF k9 (by decide +kernel)) (by simp) rfl x0 fun J1 x1 _ a1 => ?_
    walk_at "go"
    refine s_sfldN (gs := [(Str.ofString "array", .str z0), (Str.ofString "start", v1), (Str.ofString "amount", v2)]) a1 (SC.cls k9) (SC.naF k9 (by decide +kernel)) (by simp) rfl x1 fun J2 x2 _ a2 => ?_
    walk_at "go"
    refine s_sfldN (gs := [(Str.ofString "array", .str z0), (Str.ofString "start", v1), (Str.ofString "amount", v2), (Str.ofString "letter", .int i3)]) a2 (SC.cls k9) (SC.naF k9 (by decide +kernel)) (by simp) rfl x2 fun J3 x3 _ a3 => ?_
    walk_at "go"
    have fo1 := f1
    have fo2 := f2
    have nb := Nb.of_rx ha x3
    have f1 := f1.nb nb
    have f2 := f2.nb nb
    refine ⟨a, CK 7, dx, _, rfl, a3, SD.sc, ?_⟩
    walk_at "go"
    try refine ⟨szL (by simp only [len_app]; omega), ?_⟩
    walk_at "go"
    refine s_fmtF f1 (by omega) ?_
    refine ⟨_, rfl, szL (by simp only [len_app]; omega), ?_⟩
    walk_at "go"
    refine s_fmtF f2 (by omega) ?_
    refine ⟨_, rfl, szL (by simp only [len_app]; omega), ?_⟩
    walk_at "go"
    try refine ⟨szL (by simp only [len_app]; omega), ?_⟩
    walk_at "go"
    refine s_mk fun t K2 ht q2_ et => ?_
    have at2 := q2_ _ _ a3
    have nta : t ≠ a := fun z => by rw [z, at2] at et; cases et
    walk_at "go"
    refine ⟨a, t, dx, 7, _, rfl, k9, at2, by simp, rfl, fun K3 x_ s_ a_ => ?_⟩
    have rxA : Rx [a] H4 K3 := x3.trans ((Rx.same q2_).trans x_)
    have nbA := Nb.of_rx ha rxA
    have tL := s_ t _ (by show (if t = a then none else K2 t) = _; rw [if_neg nta]; exact et)
    refine kont K3 ((Rx.same r1).trans ((Rx.same r4).trans rxA)) ⟨k9, sg, a, dx, t, [.str z0, v1, v2, .int i3], rfl, a_, (.cons ⟨rfl, n0⟩ (.cons ⟨fo1.nb nbA, lf1⟩ (.cons ⟨fo2.nb nbA, lf2⟩ (.cons ⟨rfl, ib3⟩ .nil)))), ?_⟩
    rw [tL, emp_app]
    rfl

theorem ok_Let__init__0 (T : Txt mg) (FC : FormC K mg C) (MU : OwnI K C .Mult) (SC : StmC K mg X_Statement X_If CK) (SW : SupW P K mg file) (FM : FmtC K C) (EF : EF K mg C) (D : AtK2 K mg file X_Statement (CK 0) (CK 0) "Let" "Let.__init__" s_Let__init_) (h_Form__str_ : HasM P w K mg base C "__str__" s_Form__str_ ["self"] 1 (spStr C)) (h_Statement__init_ : HasM P w K mg base X_Statement "__init__" s_Statement__init_ ["self", "lines"] 1 (spStInit CK)) (h_check_form : Has P w K mg base CX0 "check_form" s_check_form ["value"] 1 (spCheckForm C)) (h_check_name : Has P w K mg base CX0 "check_name" s_check_name ["value"] 2 spCkNm) :
    HasK P w K mg base (CK 0) "Let" 4 (spkP [(["form", "field"], [1, 0])] ((spIni CK C) 0)) := by
  have nd := sc_Let__init_.nd
  refine hasK2_mk (os := [(["form", "field"], [1, 0])]) D sc_Let__init_ (fun vs H Q E h => ?len) (fun _ _ _ _ _ _ _ us hl => match us, hl with | [_, _, _], _ => rfl) (fun o ho => by
    simp only [List.mem_cons, List.not_mem_nil, or_false] at ho
    rcases ho with rfl
    all_goals
      intro cda cc kV doc pm ct an u ws hl
      match ws, hl with
      | [_, _], _ => rfl) (fun f cda cc f2 fd cd SD A outer s H vs Q E hr hgd h => ?bd)
  case len =>
    obtain ⟨a, dx, ws, as, rfl, sg, pa, _⟩ := h
    obtain ⟨z0, q1, rfl⟩ := sg.i0
    have := paired_len pa
    simp at this
    simp [this]
  case bd =>
    obtain ⟨a, dx, ws, as, rfl, sg, pa, ha, kont⟩ := h
    obtain ⟨z0, q1, rfl⟩ := sg.i0
    obtain ⟨v0, v1, rfl, g0, g1⟩ : ∃ v0 v1, ws = [v0, v1] ∧ ArAt C H v0 (.nm z0) ∧ ArAt C H v1 (.fm q1) := by
      cases pa with | cons g0 pa =>
      cases pa with | cons g1 pa =>
      cases pa with | nil => exact ⟨_, _, rfl, g0, g1⟩
    obtain ⟨rfl, n0⟩ := g0
    have ln0 := (name_nm n0).len
    obtain ⟨f1, lf1⟩ := g1
    have lz : Str.empty.length = 0 := rfl
    have lc0 : (Str.ofString "let ").length = 4 := by decide +kernel
    have lc1 : (Str.ofString " = ").length = 3 := by decide +kernel
    refine ⟨_, (pssA_cons (psa_of (ps_expr (peH h_check_name (hr.mono (by decide)) hgd rfl (pa_cons (pv 1) pa_nil)))) (pssA_cons (psa_of (ps_expr (peH h_check_form (hr.mono (by decide)) hgd rfl (pa_cons (pv 2) pa_nil)))) (pssA_cons (psa_of (sfldK K (ha := (pv 0)) (hv := (pv 1)))) (pssA_cons (psa_of (sfldK K (ha := (pv 0)) (hv := (pv 2)))) (pssA_one (ps_sup2 SD SW h_Statement__init_ (hr.mono (by decide)) hgd (pa_cons (pe_tup (pa_cons (pe_joinedN (PJ.cons pe_str (PJ.cons (pe_fmt (pv 1)) (PJ.cons pe_str (PJ.cons (fmtD (CK := fun _ => C) (n := 1) (HasD.one h_Form__str_) (fun _ _ => FM) (hr.mono (by decide)) hgd (pv 2)) PJ.nil))))) pa_nil)) pa_nil))))))), ?_⟩
    refine s_st (σ' := [some (.ref a), some (.str z0), some (v1), some (.ref (CK 0))]) rfl ?_
    have k9 : 0 < 9 := by decide
    walk_at "go"
    refine ⟨z0, rfl, n0, fun H1 r1 => ?_⟩
    have f1 := f1.same r1
    have ha := r1 _ _ ha
    walk_at "go"
    refine ⟨v1, q1, rfl, f1, ?_⟩
    walk_at "go"
    refine s_sfldN (gs := [(Str.ofString "field", .str z0)]) ha (SC.cls k9) (SC.naF k9 (by decide +kernel)) (by simp) rfl (Rx.refl _) fun J0 x0 _ a0 => ?_
    walk_at "go"
    refine s_sfldN (gs := [(Str.ofString "field", .str z0), (Str.ofString "form", v1)]) a0 (SC.cls k9) (SC.naF k9 (by decide +kernel)) (by simp) rfl x0 fun J1 x1 _ a1 => ?_
    walk_at "go"
    have fo1 := f1
    have nb := Nb.of_rx ha x1
    have f1 := f1.nb nb
    refine ⟨a, CK 0, dx, _, rfl, a1, SD.sc, ?_⟩
    walk_at "go"
    try refine ⟨szL (by simp only [len_app]; omega), ?_⟩
    walk_at "go"
    refine s_fmtF f1 (by omega) ?_
    refine ⟨_, rfl, szL (by simp only [len_app]; omega), ?_⟩
    walk_at "go"
    refine s_mk fun t K2 ht q2_ et => ?_
    have at2 := q2_ _ _ a1
    have nta : t ≠ a := fun z => by rw [z, at2] at et; cases et
    walk_at "go"
    refine ⟨a, t, dx, 0, _, rfl, k9, at2, by simp, rfl, fun K3 x_ s_ a_ => ?_⟩
    have rxA : Rx [a] H1 K3 := x1.trans ((Rx.same q2_).trans x_)
    have nbA := Nb.of_rx ha rxA
    have tL := s_ t _ (by show (if t = a then none else K2 t) = _; rw [if_neg nta]; exact et)
    refine kont K3 ((Rx.same r1).trans rxA) ⟨k9, sg, a, dx, t, [.str z0, v1], rfl, a_, (.cons ⟨rfl, n0⟩ (.cons ⟨fo1.nb nbA, lf1⟩ .nil)), ?_⟩
    rw [tL, emp_app]
    rfl

theorem ok_Resize__init__8 (T : Txt mg) (FC : FormC K mg C) (MU : OwnI K C .Mult) (SC : StmC K mg X_Statement X_If CK) (SW : SupW P K mg file) (FM : FmtC K C) (EF : EF K mg C) (D : AtK2 K mg file X_Statement (CK 8) (CK 8) "Resize" "Resize.__init__" s_Resize__init_) (h_Form__str_ : HasM P w K mg base C "__str__" s_Form__str_ ["self"] 1 (spStr C)) (h_Statement__init_ : HasM P w K mg base X_Statement "__init__" s_Statement__init_ ["self", "lines"] 1 (spStInit CK)) (h_check_form : Has P w K mg base CX0 "check_form" s_check_form ["value"] 1 (spCheckForm C)) (h_check_name : Has P w K mg base CX0 "check_name" s_check_name ["value"] 2 spCkNm) :
    HasK P w K mg base (CK 8) "Resize" 4 (spkP [(["length", "array"], [1, 0])] ((spIni CK C) 8)) := by
  have nd := sc_Resize__init_.nd
  refine hasK2_mk (os := [(["length", "array"], [1, 0])]) D sc_Resize__init_ (fun vs H Q E h => ?len) (fun _ _ _ _ _ _ _ us hl => match us, hl with | [_, _, _], _ => rfl) (fun o ho => by
    simp only [List.mem_cons, List.not_mem_nil, or_false] at ho
    rcases ho with rfl
    all_goals
      intro cda cc kV doc pm ct an u ws hl
      match ws, hl with
      | [_, _], _ => rfl) (fun f cda cc f2 fd cd SD A outer s H vs Q E hr hgd h => ?bd)
  case len =>
    obtain ⟨a, dx, ws, as, rfl, sg, pa, _⟩ := h
    obtain ⟨z0, q1, rfl⟩ := sg.i8
    have := paired_len pa
    simp at this
    simp [this]
  case bd =>
    obtain ⟨a, dx, ws, as, rfl, sg, pa, ha, kont⟩ := h
    obtain ⟨z0, q1, rfl⟩ := sg.i8
    obtain ⟨v0, v1, rfl, g0, g1⟩ : ∃ v0 v1, ws = [v0, v1] ∧ ArAt C H v0 (.nm z0) ∧ ArAt C H v1 (.fm q1) := by
      cases pa with | cons g0 pa =>
      cases pa with | cons g1 pa =>
      cases pa with | nil => exact ⟨_, _, rfl, g0, g1⟩
    obtain ⟨rfl, n0⟩ := g0
    have ln0 := (name_nm n0).len
    obtain ⟨f1, lf1⟩ := g1
    have lz : Str.empty.length = 0 := rfl
    have lc0 : (Str.ofString "resize ").length = 7 := by decide +kernel
    have lc1 : (Str.ofString " (").length = 2 := by decide +kernel
    have lc2 : (Str.ofString ")").length = 1 := by decide +kernel
    refine ⟨_, (pssA_cons (psa_of (ps_expr (peH h_check_name (hr.mono (by decide)) hgd rfl (pa_cons (pv 1) pa_nil)))) (pssA_cons (psa_of (ps_expr (peH h_check_form (hr.mono (by decide)) hgd rfl (pa_cons (pv 2) pa_nil)))) (pssA_cons (psa_of (sfldK K (ha := (pv 0)) (hv := (pv 1)))) (pssA_cons (psa_of (sfldK K (ha := (pv 0)) (hv := (pv 2)))) (pssA_one (ps_sup2 SD SW h_Statement__init_ (hr.mono (by decide)) hgd (pa_cons (pe_tup (pa_cons (pe_joinedN (PJ.cons pe_str (PJ.cons (pe_fmt (pv 1)) (PJ.cons pe_str (PJ.cons (fmtD (CK := fun _ => C) (n := 1) (HasD.one h_Form__str_) (fun _ _ => FM) (hr.mono (by decide)) hgd (pv 2)) (PJ.cons pe_str PJ.nil)))))) pa_nil)) pa_nil))))))), ?_⟩
    refine s_st (σ' := [some (.ref a), some (.str z0), some (v1), some (.ref (CK 8))]) rfl ?_
    have k9 : 8 < 9 := by decide
    walk_at "go"
    refine ⟨z0, rfl, n0, fun H1 r1 => ?_⟩
    have f1 := f1.same r1
    have ha := r1 _ _ ha
    walk_at "go"
    refine ⟨v1, q1, rfl, f1, ?_⟩
    walk_at "go"
    refine s_sfldN (gs := [(Str.ofString "array", .str z0)]) ha (SC.cls k9) (SC.naF k9 (by decide +kernel)) (by simp) rfl (Rx.refl _) fun J0 x0 _ a0 => ?_
    walk_at "go"
    refine s_sfldN (gs := [(Str.ofString "array", .str z0), (Str.ofString "length", v1)]) a0 (SC.cls k9) (SC.naF k9 (by decide +kernel)) (by simp) rfl x0 fun J1 x1 _ a1 => ?_
    walk_at "go"
    have fo1 := f1
    have nb := Nb.of_rx ha x1
    have f1 := f1.nb nb
    refine ⟨a, CK 8, dx, _, rfl, a1, SD.sc, ?_⟩
    walk_at "go"
    try refine ⟨szL (by simp only [len_app]; omega), ?_⟩
    walk_at "go"
    refine s_fmtF f1 (by omega) ?_
    refine ⟨_, rfl, szL (by simp only [len_app]; omega), ?_⟩
    walk_at "go"
    refine s_mk fun t K2 ht q2_ et => ?_
    have at2 := q2_ _ _ a1
    have nta : t ≠ a := fun z => by rw [z, at2] at et; cases et
    walk_at "go"
    refine ⟨a, t, dx, 8, _, rfl, k9, at2, by simp, rfl, fun K3 x_ s_ a_ => ?_⟩
    have rxA : Rx [a] H1 K3 := x1.trans ((Rx.same q2_).trans x_)
    have nbA := Nb.of_rx ha rxA
    have tL := s_ t _ (by show (if t = a then none else K2 t) = _; rw [if_neg nta]; exact et)
    refine kont K3 ((Rx.same r1).trans rxA) ⟨k9, sg, a, dx, t, [.str z0, v1], rfl, a_, (.cons ⟨rfl, n0⟩ (.cons ⟨fo1.nb nbA, lf1⟩ .nil)), ?_⟩
    rw [tL, emp_app]
    rfl

theorem ok_Reverse__init__5 (T : Txt mg) (FC : FormC K mg C) (MU : OwnI K C .Mult) (SC : StmC K mg X_Statement X_If CK) (SW : SupW P K mg file) (FM : FmtC K C) (EF : EF K mg C) (D : AtK2 K mg file X_Statement (CK 5) (CK 5) "Reverse" "Reverse.__init__" s_Reverse__init_) (h_Form__str_ : HasM P w K mg base C "__str__" s_Form__str_ ["self"] 1 (spStr C)) (h_Statement__init_ : HasM P w K mg base X_Statement "__init__" s_Statement__init_ ["self", "lines"] 1 (spStInit CK)) (h_check_form : Has P w K mg base CX0 "check_form" s_check_form ["value"] 1 (spCheckForm C)) (h_check_name : Has P w K mg base CX0 "check_name" s_check_name ["value"] 2 spCkNm) :
    HasK P w K mg base (CK 5) "Reverse" 4 (spkP [(["amount", "array", "start"], [1, 2, 0])] ((spIni CK C) 5)) := by
  have nd := sc_Reverse__init_.nd
  refine hasK2_mk (os := [(["amount", "array", "start"], [1, 2, 0])]) D sc_Reverse__init_ (fun vs H Q E h => ?len) (fun _ _ _ _ _ _ _ us hl => match us, hl with | [_, _, _, _], _ => rfl) (fun o ho => by
    simp only [List.mem_cons, List.not_mem_nil, or_false] at ho
    rcases ho with rfl
    all_goals
      intro cda cc kV doc pm ct an u ws hl
      match ws, hl with
      | [_, _, _], _ => rfl) (fun f cda cc f2 fd cd SD A outer s H vs Q E hr hgd h => ?bd)
  case len =>
    obtain ⟨a, dx, ws, as, rfl, sg, pa, _⟩ := h
    obtain ⟨z0, q1, q2, rfl⟩ := sg.i5
    have := paired_len pa
    simp at this
    simp [this]
  case bd =>
    obtain ⟨a, dx, ws, as, rfl, sg, pa, ha, kont⟩ := h
    obtain ⟨z0, q1, q2, rfl⟩ := sg.i5
    obtain ⟨v0, v1, v2, rfl, g0, g1, g2⟩ : ∃ v0 v1 v2, ws = [v0, v1, v2] ∧ ArAt C H v0 (.nm z0) ∧ ArAt C H v1 (.fm q1) ∧ ArAt C H v2 (.fm q2) := by
      cases pa with | cons g0 pa =>
      cases pa with | cons g1 pa =>
      cases pa with | cons g2 pa =>
      cases pa with | nil => exact ⟨_, _, _, rfl, g0, g1, g2⟩
    obtain ⟨rfl, n0⟩ := g0
    have ln0 := (name_nm n0).len
    obtain ⟨f1, lf1⟩ := g1
    obtain ⟨f2, lf2⟩ := g2
    have lz : Str.empty.length = 0 := rfl
    have lc0 : (Str.ofString "reverse ").length = 8 := by decide +kernel
    have lc1 : (Str.ofString "[").length = 1 := by decide +kernel
    have lc2 : (Str.ofString "] (").length = 3 := by decide +kernel
    have lc3 : (Str.ofString ")").length = 1 := by decide +kernel
    refine ⟨_, (pssA_cons (psa_of (ps_expr (peH h_check_name (hr.mono (by decide)) hgd rfl (pa_cons (pv 1) pa_nil)))) (pssA_cons (psa_of (ps_expr (peH h_check_form (hr.mono (by decide)) hgd rfl (pa_cons (pv 2) pa_nil)))) (pssA_cons (psa_of (ps_expr (peH h_check_form (hr.mono (by decide)) hgd rfl (pa_cons (pv 3) pa_nil)))) (pssA_cons (psa_of (sfldK K (ha := (pv 0)) (hv := (pv 1)))) (pssA_cons (psa_of (sfldK K (ha := (pv 0)) (hv := (pv 2)))) (pssA_cons (psa_of (sfldK K (ha := (pv 0)) (hv := (pv 3)))) (pssA_one (ps_sup2 SD SW h_Statement__init_ (hr.mono (by decide)) hgd (pa_cons (pe_tup (pa_cons (pe_joinedN (PJ.cons pe_str (PJ.cons (pe_fmt (pv 1)) (PJ.cons pe_str (PJ.cons (fmtD (CK := fun _ => C) (n := 1) (HasD.one h_Form__str_) (fun _ _ => FM) (hr.mono (by decide)) hgd (pv 2)) (PJ.cons pe_str (PJ.cons (fmtD (CK := fun _ => C) (n := 1) (HasD.one h_Form__str_) (fun _ _ => FM) (hr.mono (by decide)) hgd (pv 3)) (PJ.cons pe_str PJ.nil)))))))) pa_nil)) pa_nil))))))))), ?_⟩
    refine s_st (σ' := [some (.ref a), some (.str z0), some (v1), some (v2), some (.ref (CK 5))]) rfl ?_
    have k9 : 5 < 9 := by decide
    walk_at "go"
    refine ⟨z0, rfl, n0, fun H1 r1 => ?_⟩
    have f1 := f1.same r1
    have f2 := f2.same r1
    have ha := r1 _ _ ha
    walk_at "go"
    refine ⟨v1, q1, rfl, f1, ?_⟩
    walk_at "go"
    refine ⟨v2, q2, rfl, f2, ?_⟩
    walk_at "go"
    refine s_sfldN (gs := [(Str.ofString "array", .str z0)]) ha (SC.cls k9) (SC.naF k9 (by decide +kernel)) (by simp) rfl (Rx.refl _) fun J0 x0 _ a0 => ?_
    walk_at "go"
    refine s_sfldN (gs := [(Str.ofString "array", .str z0), (Str.ofString "start", v1)]) a0 (SC.cls k9) (SC.naF k9 (by decide +kernel)) (by simp) rfl x0 fun J1 x1 _ a1 => ?_
    walk_at "go"
    refine s_sfldN (gs := [(Str.ofString "array", .str z0), (Str.ofString "start", v1), (Str.ofString "amount", v2)]) a1 (SC.cls k9) (SC.naF k9 (by decide +kernel)) (by simp) rfl x1 fun J2 x2 _ a2 => ?_
    walk_at "go"
    have fo1 := f1
    have fo2 := f2
    have nb := Nb.of_rx ha x2
    have f1 := f1.nb nb
    have f2 := f2.nb nb
    refine ⟨a, CK 5, dx, _, rfl, a2, SD.sc, ?_⟩
    walk_at "go"
    try refine ⟨szL (by simp only [len_app]; omega), ?_⟩
    walk_at "go"
    refine s_fmtF f1 (by omega) ?_
    refine ⟨_, rfl, szL (by simp only [len_app]; omega), ?_⟩
    walk_at "go"
    refine s_fmtF f2 (by omega) ?_
    refine ⟨_, rfl, szL (by simp only [len_app]; omega), ?_⟩
    walk_at "go"
    refine s_mk fun t K2 ht q2_ et => ?_
    have at2 := q2_ _ _ a2
    have nta : t ≠ a := fun z => by rw [z, at2] at et; cases et
    walk_at "go"
    refine ⟨a, t, dx, 5, _, rfl, k9, at2, by simp, rfl, fun K3 x_ s_ a_ => ?_⟩
    have rxA : Rx [a] H1 K3 := x2.trans ((Rx.same q2_).trans x_)
    have nbA := Nb.of_rx ha rxA
    have tL := s_ t _ (by show (if t = a then none else K2 t) = _; rw [if_neg nta]; exact et)
    refine kont K3 ((Rx.same r1).trans rxA) ⟨k9, sg, a, dx, t, [.str z0, v1, v2], rfl, a_, (.cons ⟨rfl, n0⟩ (.cons ⟨fo1.nb nbA, lf1⟩ (.cons ⟨fo2.nb nbA, lf2⟩ .nil))), ?_⟩
    rw [tL, emp_app]
    rfl

theorem ok_Swap__init__6 (T : Txt mg) (FC : FormC K mg C) (MU : OwnI K C .Mult) (SC : StmC K mg X_Statement X_If CK) (SW : SupW P K mg file) (FM : FmtC K C) (EF : EF K mg C) (D : AtK2 K mg file X_Statement (CK 6) (CK 6) "Swap" "Swap.__init__" s_Swap__init_) (h_Form__str_ : HasM P w K mg base C "__str__" s_Form__str_ ["self"] 1 (spStr C)) (h_Statement__init_ : HasM P w K mg base X_Statement "__init__" s_Statement__init_ ["self", "lines"] 1 (spStInit CK)) (h_check_form : Has P w K mg base CX0 "check_form" s_check_form ["value"] 1 (spCheckForm C)) (h_check_name : Has P w K mg base CX0 "check_name" s_check_name ["value"] 2 spCkNm) :
    HasK P w K mg base (CK 6) "Swap" 4 (spkP [(["second", "start", "first", "at", "amount"], [2, 3, 0, 1, 4])] ((spIni CK C) 6)) := by
  have nd := sc_Swap__init_.nd
  refine hasK2_mk (os := [(["second", "start", "first", "at", "amount"], [2, 3, 0, 1, 4])]) D sc_Swap__init_ (fun vs H Q E h => ?len) (fun _ _ _ _ _ _ _ us hl => match us, hl with | [_, _, _, _, _, _], _ => rfl) (fun o ho => by
    simp only [List.mem_cons, List.not_mem_nil, or_false] at ho
    rcases ho with rfl
    all_goals
      intro cda cc kV doc pm ct an u ws hl
      match ws, hl with
      | [_, _, _, _, _], _ => rfl) (fun f cda cc f2 fd cd SD A outer s H vs Q E hr hgd h => ?bd)
  case len =>
    obtain ⟨a, dx, ws, as, rfl, sg, pa, _⟩ := h
    obtain ⟨z0, q1, z2, q3, q4, rfl⟩ := sg.i1 (by decide) (by decide) (by decide)
    have := paired_len pa
    simp at this
    simp [this]
  case bd =>
    obtain ⟨a, dx, ws, as, rfl, sg, pa, ha, kont⟩ := h
    obtain ⟨z0, q1, z2, q3, q4, rfl⟩ := sg.i1 (by decide) (by decide) (by decide)
    obtain ⟨v0, v1, v2, v3, v4, rfl, g0, g1, g2, g3, g4⟩ : ∃ v0 v1 v2 v3 v4, ws = [v0, v1, v2, v3, v4] ∧ ArAt C H v0 (.nm z0) ∧ ArAt C H v1 (.fm q1) ∧ ArAt C H v2 (.nm z2) ∧ ArAt C H v3 (.fm q3) ∧ ArAt C H v4 (.fm q4) := by
      cases pa with | cons g0 pa =>
      cases pa with | cons g1 pa =>
      cases pa with | cons g2 pa =>
      cases pa with | cons g3 pa =>
      cases pa with | cons g4 pa =>
      cases pa with | nil => exact ⟨_, _, _, _, _, rfl, g0, g1, g2, g3, g4⟩
    obtain ⟨rfl, n0⟩ := g0
    have ln0 := (name_nm n0).len
    obtain ⟨f1, lf1⟩ := g1
    obtain ⟨rfl, n2⟩ := g2
    have ln2 := (name_nm n2).len
    obtain ⟨f3, lf3⟩ := g3
    obtain ⟨f4, lf4⟩ := g4
    have lz : Str.empty.length = 0 := rfl
    have lc0 : (Str.ofString "swap ").length = 5 := by decide +kernel
    have lc1 : (Str.ofString "[").length = 1 := by decide +kernel
    have lc2 : (Str.ofString "] ").length = 2 := by decide +kernel
    have lc3 : (Str.ofString "[").length = 1 := by decide +kernel
    have lc4 : (Str.ofString "] (").length = 3 := by decide +kernel
    have lc5 : (Str.ofString ")").length = 1 := by decide +kernel
    refine ⟨_, (pssA_cons (psa_of (ps_expr (peH h_check_name (hr.mono (by decide)) hgd rfl (pa_cons (pv 1) pa_nil)))) (pssA_cons (psa_of (ps_expr (peH h_check_form (hr.mono (by decide)) hgd rfl (pa_cons (pv 2) pa_nil)))) (pssA_cons (psa_of (ps_expr (peH h_check_name (hr.mono (by decide)) hgd rfl (pa_cons (pv 3) pa_nil)))) (pssA_cons (psa_of (ps_expr (peH h_check_form (hr.mono (by decide)) hgd rfl (pa_cons (pv 4) pa_nil)))) (pssA_cons (psa_of (ps_expr (peH h_check_form (hr.mono (by decide)) hgd rfl (pa_cons (pv 5) pa_nil)))) (pssA_cons (psa_of (sfldK K (ha := (pv 0)) (hv := (pv 1)))) (pssA_cons (psa_of (sfldK K (ha := (pv 0)) (hv := (pv 2)))) (pssA_cons (psa_of (sfldK K (ha := (pv 0)) (hv := (pv 3)))) (pssA_cons (psa_of (sfldK K (ha := (pv 0)) (hv := (pv 4)))) (pssA_cons (psa_of (sfldK K (ha := (pv 0)) (hv := (pv 5)))) (pssA_one (ps_sup2 SD SW h_Statement__init_ (hr.mono (by decide)) hgd (pa_cons (pe_tup (pa_cons (pe_joinedN (PJ.cons pe_str (PJ.cons (pe_fmt (pv 1)) (PJ.cons pe_str (PJ.cons (fmtD (CK := fun _ => C) (n := 1) (HasD.one h_Form__str_) (fun _ _ => FM) (hr.mono (by decide)) hgd (pv 2)) (PJ.cons pe_str (PJ.cons (pe_fmt (pv 3)) (PJ.cons pe_str (PJ.cons (fmtD (CK := fun _ => C) (n := 1) (HasD.one h_Form__str_) (fun _ _ => FM) (hr.mono (by decide)) hgd (pv 4)) (PJ.cons pe_str (PJ.cons (fmtD (CK := fun _ => C) (n := 1) (HasD.one h_Form__str_) (fun _ _ => FM) (hr.mono (by decide)) hgd (pv 5)) (PJ.cons pe_str PJ.nil)))))))))))) pa_nil)) pa_nil))))))))))))), ?_⟩
    refine s_st (σ' := [some (.ref a), some (.str z0), some (v1), some (.str z2), some (v3), some (v4), some (.ref (CK 6))]) rfl ?_
    have k9 : 6 < 9 := by decide
    walk_at "go"
    refine ⟨z0, rfl, n0, fun H1 r1 => ?_⟩
    have f1 := f1.same r1
    have f3 := f3.same r1
    have f4 := f4.same r1
    have ha := r1 _ _ ha
    walk_at "go"
    refine ⟨v1, q1, rfl, f1, ?_⟩
    walk_at "go"
    refine ⟨z2, rfl, n2, fun H3 r3 => ?_⟩
    have f1 := f1.same r3
    have f3 := f3.same r3
    have f4 := f4.same r3
    have ha := r3 _ _ ha
    walk_at "go"
    refine ⟨v3, q3, rfl, f3, ?_⟩
    walk_at "go"
    refine ⟨v4, q4, rfl, f4, ?_⟩
    walk_at "go"
    refine s_sfldN (gs := [(Str.ofString "first", .str z0)]) ha (SC.cls k9) (SC.naF k9 (by decide +kernel)) (by simp) rfl (Rx.refl _) fun J0 x0 _ a0 => ?_
    walk_at "go"
    refine s_sfldN (gs := [(Str.ofString "first", .str z0), (Str.ofString "at", v1)]) a0 (SC.cls k9) (SC.naF k9 (by decide +kernel)) (by simp) rfl x0 fun J1 x1 _ a1 => ?_
    walk_at "go"
    refine s_sfldN (gs := [(Str.ofString "first", .str z0), (Str.ofString "at", v1), (Str.ofString "second", .str z2)]) a1 (SC.cls k9) (SC.naF k9 (by decide +kernel)) (by simp) rfl x1 fun J2 x2 _ a2 => ?_
    walk_at "go"
    refine s_sfldN (gs := [(Str.ofString "first", .str z0), (Str.ofString "at", v1), (Str.ofString "second", .str z2), (Str.ofString "start", v3)]) a2 (SC.cls k9) (SC.naF k9 (by decide +kernel)) (by simp) rfl x2 fun J3 x3 _ a3 => ?_
    walk_at "go"
    refine s_sfldN (gs := [(Str.ofString "first", .str z0), (Str.ofString "at", v1), (Str.ofString "second", .str z2), (Str.ofString "start", v3), (Str.ofString "amount", v4)]) a3 (SC.cls k9) (SC.naF k9 (by decide +kernel)) (by simp) rfl x3 fun J4 x4 _ a4 => ?_
    walk_at "go"
    have fo1 := f1
    have fo3 := f3
    have fo4 := f4
    have nb := Nb.of_rx ha x4
    have f1 := f1.nb nb
    have f3 := f3.nb nb
    have f4 := f4.nb nb
    refine ⟨a, CK 6, dx, _, rfl, a4, SD.sc, ?_⟩
    walk_at "go"
    try refine ⟨szL (by simp only [len_app]; omega), ?_⟩
    walk_at "go"
    refine s_fmtF f1 (by omega) ?_
    refine ⟨_, rfl, szL (by simp only [len_app]; omega), ?_⟩
    walk_at "go"
    try refine ⟨szL (by simp only [len_app]; omega), ?_⟩
    walk_at "go"
    refine s_fmtF f3 (by omega) ?_
    refine ⟨_, rfl, szL (by simp only [len_app]; omega), ?_⟩
    walk_at "go"
    refine s_fmtF f4 (by omega) ?_
    refine ⟨_, rfl, szL (by simp only [len_app]; omega), ?_⟩
    walk_at "go"
    refine s_mk fun t K2 ht q2_ et => ?_
    have at2 := q2_ _ _ a4
    have nta : t ≠ a := fun z => by rw [z, at2] at et; cases et
    walk_at "go"
    refine ⟨a, t, dx, 6, _, rfl, k9, at2, by simp, rfl, fun K3 x_ s_ a_ => ?_⟩
    have rxA : Rx [a] H3 K3 := x4.trans ((Rx.same q2_).trans x_)
    have nbA := Nb.of_rx ha rxA
    have tL := s_ t _ (by show (if t = a then none else K2 t) = _; rw [if_neg nta]; exact et)
    refine kont K3 ((Rx.same r1).trans ((Rx.same r3).trans rxA)) ⟨k9, sg, a, dx, t, [.str z0, v1, .str z2, v3, v4], rfl, a_, (.cons ⟨rfl, n0⟩ (.cons ⟨fo1.nb nbA, lf1⟩ (.cons ⟨rfl, n2⟩ (.cons ⟨fo3.nb nbA, lf3⟩ (.cons ⟨fo4.nb nbA, lf4⟩ .nil))))), ?_⟩
    rw [tL, emp_app]
    rw [show Str.ofString "swap " = stW 6 ++ " " by decide +kernel]
    rfl

theorem ok__law_by_name (T : Txt mg) (FC : FormC K mg C) (MU : OwnI K C .Mult) (SC : StmC K mg X_Statement X_If CK) (SW : SupW P K mg file) (FM : FmtC K C) (EF : EF K mg C) (D : At K mg "_law_by_name" s__law_by_name) (h_Copy__init_ : HasK P w K mg base (CK 1) "Copy" 4 (spkP [(["amount", "start", "source", "to", "target"], [4, 3, 2, 1, 0]), (["target", "to", "source", "start", "amount"], [0, 1, 2, 3, 4])] ((spIni CK C) 1)) ∧ HasK P w K mg base (CK 2) "Up" 4 (spkP [(["target", "to", "source", "start", "amount"], [0, 1, 2, 3, 4])] ((spIni CK C) 2)) ∧ HasK P w K mg base (CK 3) "Down" 4 (spkP [(["start", "target", "amount", "to", "source"], [1, 3, 4, 0, 2])] ((spIni CK C) 3)) ∧ HasK P w K mg base (CK 4) "Apart" 4 (spkP [(["target", "source", "to", "start", "amount"], [0, 2, 1, 3, 4])] ((spIni CK C) 4))) (h_Fill__init_ : HasK P w K mg base (CK 7) "Fill" 4 (spkP [(["letter", "start", "amount", "array"], [3, 1, 2, 0])] ((spIni CK C) 7))) (h_Let__init_ : HasK P w K mg base (CK 0) "Let" 4 (spkP [(["form", "field"], [1, 0])] ((spIni CK C) 0))) (h_Resize__init_ : HasK P w K mg base (CK 8) "Resize" 4 (spkP [(["length", "array"], [1, 0])] ((spIni CK C) 8))) (h_Reverse__init_ : HasK P w K mg base (CK 5) "Reverse" 4 (spkP [(["amount", "array", "start"], [1, 2, 0])] ((spIni CK C) 5))) (h_Swap__init_ : HasK P w K mg base (CK 6) "Swap" 4 (spkP [(["second", "start", "first", "at", "amount"], [2, 3, 0, 1, 4])] ((spIni CK C) 6))) :
    Has P w K mg base CX0 "_law_by_name" s__law_by_name ["_law_tags", "_law_some", "_law_code"] 6 (spTen CK C) := by
  have nd := sc__law_by_name.nd
  refine has_mk D sc__law_by_name (fun vs H Q E h => ?len) (fun _ _ _ _ _ _ us hl => match us, hl with | [_, _, _], _ => rfl) (fun f cdv A outer s H vs Q E hr hgd h => ?bd)
  case len =>
    obtain ⟨t, s, z, y, v1, v2, v3, e, g, a, i, rfl, _⟩ := h
    rfl
  case bd =>
    obtain ⟨t, s, z, y, v1, v2, v3, e, g, a, i, rfl, ht, hs, nz, ny, f1, f2, f3, hi, kont⟩ := h
    refine ⟨_, (pss_cons (ps_asg (pe_tup (pa_cons (pe_ix (ixL K) (pv 0) pe_int (fun _ _ => rfl)) (pa_cons (pe_ix (ixL K) (pv 0) pe_int (fun _ _ => rfl)) (pa_cons (pv 1) pa_nil)))) (gT K (n := 3) (hc := rfl) (hg := (pgs_cons (pg_name (i := 3) nd rfl (Or.inl rfl)) (pgs_cons (pg_name (i := 4) nd rfl (Or.inl rfl)) (pgs_cons (gU K (n := 3) (hc := rfl) (hg := (pgs_cons (pg_name (i := 5) nd rfl (Or.inl rfl)) (pgs_cons (pg_name (i := 6) nd rfl (Or.inl rfl)) (pgs_cons (pg_name (i := 7) nd rfl (Or.inl rfl)) pgs_nil))))) pgs_nil))))))
      (pss_cons (ps_set (i := 8) nd rfl (Or.inl rfl) (pe_lst (pa_cons (peMkQ (ks := ["form", "field"]) h_Let__init_ (hr.mono (by decide)) hgd rfl (pk_cons (pv 5) (pk_cons (pv 3) pk_nil))) (pa_cons (peMkQ (ks := ["amount", "start", "source", "to", "target"]) h_Copy__init_.1 (hr.mono (by decide)) hgd rfl (pk_cons (pv 7) (pk_cons (pv 6) (pk_cons (pv 4) (pk_cons (pv 5) (pk_cons (pv 3) pk_nil)))))) pa_nil))))
      (pss_cons (ps_expr (appendK K (ho := (pv 8)) (ha := (pa_cons (peMkQ (ks := ["target", "to", "source", "start", "amount"]) h_Copy__init_.2.1 (hr.mono (by decide)) hgd rfl (pk_cons (pv 3) (pk_cons (pv 5) (pk_cons (pv 4) (pk_cons (pv 6) (pk_cons (pv 7) pk_nil)))))) pa_nil))))
      (pss_cons (ps_expr (appendK K (ho := (pv 8)) (ha := (pa_cons (peMkQ (ks := ["start", "target", "amount", "to", "source"]) h_Copy__init_.2.2.1 (hr.mono (by decide)) hgd rfl (pk_cons (pv 6) (pk_cons (pv 3) (pk_cons (pv 7) (pk_cons (pv 5) (pk_cons (pv 4) pk_nil)))))) pa_nil))))
      (pss_cons (ps_expr (appendK K (ho := (pv 8)) (ha := (pa_cons (peMkQ (ks := ["target", "source", "to", "start", "amount"]) h_Copy__init_.2.2.2 (hr.mono (by decide)) hgd rfl (pk_cons (pv 3) (pk_cons (pv 4) (pk_cons (pv 5) (pk_cons (pv 6) (pk_cons (pv 7) pk_nil)))))) pa_nil))))
      (pss_cons (ps_set (i := 8) nd rfl (Or.inl rfl) (pe_op op_cat (pv 8) (pe_lst (pa_cons (peMkQ (ks := ["amount", "array", "start"]) h_Reverse__init_ (hr.mono (by decide)) hgd rfl (pk_cons (pv 7) (pk_cons (pv 3) (pk_cons (pv 6) pk_nil)))) pa_nil))))
      (pss_cons (ps_expr (appendK K (ho := (pv 8)) (ha := (pa_cons (peMkQ (ks := ["second", "start", "first", "at", "amount"]) h_Swap__init_ (hr.mono (by decide)) hgd rfl (pk_cons (pv 4) (pk_cons (pv 6) (pk_cons (pv 3) (pk_cons (pv 5) (pk_cons (pv 7) pk_nil)))))) pa_nil))))
      (pss_cons (ps_set (i := 8) nd rfl (Or.inl rfl) (pe_op op_cat (pv 8) (pe_lst (pa_cons (peMkQ (ks := ["letter", "start", "amount", "array"]) h_Fill__init_ (hr.mono (by decide)) hgd rfl (pk_cons (pv 2) (pk_cons (pv 6) (pk_cons (pv 7) (pk_cons (pv 3) pk_nil))))) (pa_cons (peMkQ (ks := ["length", "array"]) h_Resize__init_ (hr.mono (by decide)) hgd rfl (pk_cons (pv 5) (pk_cons (pv 3) pk_nil))) pa_nil)))))
      (pss_one (ps_ret (pe_op op_cat (pv 8) (pe_lst (pa_cons (peMkQ (ks := ["target", "to", "source", "start", "amount"]) h_Copy__init_.1 (hr.mono (by decide)) hgd rfl (pk_cons (pv 4) (pk_cons (pv 7) (pk_cons (pv 3) (pk_cons (pv 5) (pk_cons (pv 6) pk_nil)))))) pa_nil))))))))))))), ?_⟩
    refine s_st (σ' := [some (.ref t), some (.ref s), some (.int i), none, none, none, none, none, none]) rfl ?_
    walk_at "go"
    refine s_mk fun tt H0 htt r0 e0 => ?_
    have hs0 := r0 _ _ hs
    have f1 := f1.same r0
    have f2 := f2.same r0
    have f3 := f3.same r0
    have rr : Rx [] H H0 := Rx.same r0
    refine s_g3U (SqT.of e0) (SqL.of hs0) (by simp only [List.set_cons_succ, List.set_cons_zero]; rfl) ?_
    walk_at "go"
    refine s_mkStK (k := 0) (o := (_, [1, 0])) (by simp) rfl rfl (.s0 _ _) (.cons ⟨rfl, nz⟩ (.cons f1 .nil)) fun x1 G1 r1 st1 => ?_
    have f1 := f1.same r1
    have f2 := f2.same r1
    have f3 := f3.same r1
    have rr := rr.trans (Rx.same r1)
    walk_at "go"
    refine s_mkStK (k := 1) (o := (_, [4, 3, 2, 1, 0])) (by simp) rfl rfl (.s1 1 (by decide) (by decide) (by decide) _ _ _ _ _) (.cons ⟨rfl, nz⟩ (.cons f1 (.cons ⟨rfl, ny⟩ (.cons f2 (.cons f3 .nil))))) fun x2 G2 r2 st2 => ?_
    have st1 := st1.same r2
    have f1 := f1.same r2
    have f2 := f2.same r2
    have f3 := f3.same r2
    have rr := rr.trans (Rx.same r2)
    walk_at "go"
    refine s_mk fun l1 L1 hl1 q1 le1 => ?_
    have fr1 := rr.fr0 hl1
    have st1 := st1.same q1
    have st2 := st2.same q1
    have f1 := f1.same q1
    have f2 := f2.same q1
    have f3 := f3.same q1
    have rr := rr.trans (Rx.same q1)
    walk_at "go"
    refine s_mkStK (k := 2) (o := (_, [0, 1, 2, 3, 4])) (by simp) rfl rfl (.s1 2 (by decide) (by decide) (by decide) _ _ _ _ _) (.cons ⟨rfl, nz⟩ (.cons f1 (.cons ⟨rfl, ny⟩ (.cons f2 (.cons f3 .nil))))) fun x3 G3 r3 st3 => ?_
    have st1 := st1.same r3
    have st2 := st2.same r3
    have le1 := r3 _ _ le1
    have f1 := f1.same r3
    have f2 := f2.same r3
    have f3 := f3.same r3
    have rr := rr.trans (Rx.same r3)
    refine s_nil ?_
    refine s_appN le1 (by simp) fun J3 eJ3 nl3 ow3 => ?_
    have st1 := st1.nl nl3
    have st2 := st2.nl nl3
    have st3 := st3.nl nl3
    have f1 := f1.nl nl3
    have f2 := f2.nl nl3
    have f3 := f3.nl nl3
    have rr := ow3 _ rr fr1
    have le1 := eJ3
    walk_at "go"
    refine s_mkStK (k := 3) (o := (_, [1, 3, 4, 0, 2])) (by simp) rfl rfl (.s1 3 (by decide) (by decide) (by decide) _ _ _ _ _) (.cons ⟨rfl, nz⟩ (.cons f1 (.cons ⟨rfl, ny⟩ (.cons f2 (.cons f3 .nil))))) fun x4 G4 r4 st4 => ?_
    have st1 := st1.same r4
    have st2 := st2.same r4
    have le1 := r4 _ _ le1
    have st3 := st3.same r4
    have f1 := f1.same r4
    have f2 := f2.same r4
    have f3 := f3.same r4
    have rr := rr.trans (Rx.same r4)
    refine s_nil ?_
    refine s_appN le1 (by simp) fun J4 eJ4 nl4 ow4 => ?_
    have st1 := st1.nl nl4
    have st2 := st2.nl nl4
    have st3 := st3.nl nl4
    have st4 := st4.nl nl4
    have f1 := f1.nl nl4
    have f2 := f2.nl nl4
    have f3 := f3.nl nl4
    have rr := ow4 _ rr fr1
    have le1 := eJ4
    walk_at "go"
    refine s_mkStK (k := 4) (o := (_, [0, 2, 1, 3, 4])) (by simp) rfl rfl (.s1 4 (by decide) (by decide) (by decide) _ _ _ _ _) (.cons ⟨rfl, nz⟩ (.cons f1 (.cons ⟨rfl, ny⟩ (.cons f2 (.cons f3 .nil))))) fun x5 G5 r5 st5 => ?_
    have st1 := st1.same r5
    have st2 := st2.same r5
    have le1 := r5 _ _ le1
    have st3 := st3.same r5
    have st4 := st4.same r5
    have f1 := f1.same r5
    have f2 := f2.same r5
    have f3 := f3.same r5
    have rr := rr.trans (Rx.same r5)
    refine s_nil ?_
    refine s_appN le1 (by simp) fun J5 eJ5 nl5 ow5 => ?_
    have st1 := st1.nl nl5
    have st2 := st2.nl nl5
    have st3 := st3.nl nl5
    have st4 := st4.nl nl5
    have st5 := st5.nl nl5
    have f1 := f1.nl nl5
    have f2 := f2.nl nl5
    have f3 := f3.nl nl5
    have rr := ow5 _ rr fr1
    have le1 := eJ5
    walk_at "go"
    refine s_mkStK (k := 5) (o := (_, [1, 2, 0])) (by simp) rfl rfl (.s5 _ _ _) (.cons ⟨rfl, nz⟩ (.cons f2 (.cons f3 .nil))) fun x6 G6 r6 st6 => ?_
    have st1 := st1.same r6
    have st2 := st2.same r6
    have le1 := r6 _ _ le1
    have st3 := st3.same r6
    have st4 := st4.same r6
    have st5 := st5.same r6
    have f1 := f1.same r6
    have f2 := f2.same r6
    have f3 := f3.same r6
    have rr := rr.trans (Rx.same r6)
    walk_at "go"
    refine s_mk fun l2 L2 hl2 q2 le2 => ?_
    have fr2 := rr.fr0 hl2
    have st1 := st1.same q2
    have st2 := st2.same q2
    have le1 := q2 _ _ le1
    have st3 := st3.same q2
    have st4 := st4.same q2
    have st5 := st5.same q2
    have st6 := st6.same q2
    have f1 := f1.same q2
    have f2 := f2.same q2
    have f3 := f3.same q2
    have rr := rr.trans (Rx.same q2)
    walk_at "go"
    refine s_cat le1 le2 (sz1 (by simp)) fun l3 L3 hl3 q3 le3 => ?_
    have fr3 := rr.fr0 hl3
    have st1 := st1.same q3
    have st2 := st2.same q3
    have le1 := q3 _ _ le1
    have st3 := st3.same q3
    have st4 := st4.same q3
    have st5 := st5.same q3
    have st6 := st6.same q3
    have le2 := q3 _ _ le2
    have f1 := f1.same q3
    have f2 := f2.same q3
    have f3 := f3.same q3
    have rr := rr.trans (Rx.same q3)
    walk_at "go"
    refine s_mkStK (k := 6) (o := (_, [2, 3, 0, 1, 4])) (by simp) rfl rfl (.s1 6 (by decide) (by decide) (by decide) _ _ _ _ _) (.cons ⟨rfl, nz⟩ (.cons f1 (.cons ⟨rfl, ny⟩ (.cons f2 (.cons f3 .nil))))) fun x7 G7 r7 st7 => ?_
    have st1 := st1.same r7
    have st2 := st2.same r7
    have st3 := st3.same r7
    have st4 := st4.same r7
    have st5 := st5.same r7
    have st6 := st6.same r7
    have le3 := r7 _ _ le3
    have f1 := f1.same r7
    have f2 := f2.same r7
    have f3 := f3.same r7
    have rr := rr.trans (Rx.same r7)
    refine s_nil ?_
    refine s_appN le3 (by simp) fun J7 eJ7 nl7 ow7 => ?_
    have st1 := st1.nl nl7
    have st2 := st2.nl nl7
    have st3 := st3.nl nl7
    have st4 := st4.nl nl7
    have st5 := st5.nl nl7
    have st6 := st6.nl nl7
    have st7 := st7.nl nl7
    have f1 := f1.nl nl7
    have f2 := f2.nl nl7
    have f3 := f3.nl nl7
    have rr := ow7 _ rr fr3
    have le3 := eJ7
    walk_at "go"
    refine s_mkStK (k := 7) (o := (_, [3, 1, 2, 0])) (by simp) rfl rfl (.s7 _ _ _ _) (.cons ⟨rfl, nz⟩ (.cons f2 (.cons f3 (.cons ⟨rfl, hi⟩ .nil)))) fun x8 G8 r8 st8 => ?_
    have st1 := st1.same r8
    have st2 := st2.same r8
    have st3 := st3.same r8
    have st4 := st4.same r8
    have st5 := st5.same r8
    have st6 := st6.same r8
    have le3 := r8 _ _ le3
    have st7 := st7.same r8
    have f1 := f1.same r8
    have f2 := f2.same r8
    have f3 := f3.same r8
    have rr := rr.trans (Rx.same r8)
    walk_at "go"
    refine s_mkStK (k := 8) (o := (_, [1, 0])) (by simp) rfl rfl (.s8 _ _) (.cons ⟨rfl, nz⟩ (.cons f1 .nil)) fun x9 G9 r9 st9 => ?_
    have st1 := st1.same r9
    have st2 := st2.same r9
    have st3 := st3.same r9
    have st4 := st4.same r9
    have st5 := st5.same r9
    have st6 := st6.same r9
    have le3 := r9 _ _ le3
    have st7 := st7.same r9
    have st8 := st8.same r9
    have f1 := f1.same r9
    have f2 := f2.same r9
    have f3 := f3.same r9
    have rr := rr.trans (Rx.same r9)
    walk_at "go"
    refine s_mk fun l4 L4 hl4 q4 le4 => ?_
    have fr4 := rr.fr0 hl4
    have st1 := st1.same q4
    have st2 := st2.same q4
    have st3 := st3.same q4
    have st4 := st4.same q4
    have st5 := st5.same q4
    have st6 := st6.same q4
    have le3 := q4 _ _ le3
    have st7 := st7.same q4
    have st8 := st8.same q4
    have st9 := st9.same q4
    have f1 := f1.same q4
    have f2 := f2.same q4
    have f3 := f3.same q4
    have rr := rr.trans (Rx.same q4)
    walk_at "go"
    refine s_cat le3 le4 (sz1 (by simp)) fun l5 L5 hl5 q5 le5 => ?_
    have fr5 := rr.fr0 hl5
    have st1 := st1.same q5
    have st2 := st2.same q5
    have st3 := st3.same q5
    have st4 := st4.same q5
    have st5 := st5.same q5
    have st6 := st6.same q5
    have le3 := q5 _ _ le3
    have st7 := st7.same q5
    have st8 := st8.same q5
    have st9 := st9.same q5
    have le4 := q5 _ _ le4
    have f1 := f1.same q5
    have f2 := f2.same q5
    have f3 := f3.same q5
    have rr := rr.trans (Rx.same q5)
    walk_at "go"
    refine s_mkStK (k := 1) (o := (_, [0, 1, 2, 3, 4])) (by simp) rfl rfl (.s1 1 (by decide) (by decide) (by decide) _ _ _ _ _) (.cons ⟨rfl, ny⟩ (.cons f3 (.cons ⟨rfl, nz⟩ (.cons f1 (.cons f2 .nil))))) fun x10 G10 r10 st10 => ?_
    have st1 := st1.same r10
    have st2 := st2.same r10
    have st3 := st3.same r10
    have st4 := st4.same r10
    have st5 := st5.same r10
    have st6 := st6.same r10
    have st7 := st7.same r10
    have st8 := st8.same r10
    have st9 := st9.same r10
    have le5 := r10 _ _ le5
    have f1 := f1.same r10
    have f2 := f2.same r10
    have f3 := f3.same r10
    have rr := rr.trans (Rx.same r10)
    walk_at "go"
    refine s_mk fun l6 L6 hl6 q6 le6 => ?_
    have fr6 := rr.fr0 hl6
    have st1 := st1.same q6
    have st2 := st2.same q6
    have st3 := st3.same q6
    have st4 := st4.same q6
    have st5 := st5.same q6
    have st6 := st6.same q6
    have st7 := st7.same q6
    have st8 := st8.same q6
    have st9 := st9.same q6
    have le5 := q6 _ _ le5
    have st10 := st10.same q6
    have f1 := f1.same q6
    have f2 := f2.same q6
    have f3 := f3.same q6
    have rr := rr.trans (Rx.same q6)
    walk_at "go"
    refine s_cat le5 le6 (sz1 (by simp)) fun D HD hD qD eD => ?_
    have st1 := st1.same qD
    have st2 := st2.same qD
    have st3 := st3.same qD
    have st4 := st4.same qD
    have st5 := st5.same qD
    have st6 := st6.same qD
    have st7 := st7.same qD
    have st8 := st8.same qD
    have st9 := st9.same qD
    have st10 := st10.same qD
    exact kont D _ HD (rr.fr0 hD) (rr.trans (Rx.same qD)).same0 eD (.cons st1 (.cons st2 (.cons st3 (.cons st4 (.cons st5 (.cons st6 (.cons st7 (.cons st8 (.cons st9 (.cons st10 .nil))))))))))

theorem ok__law_by_place (T : Txt mg) (FC : FormC K mg C) (MU : OwnI K C .Mult) (SC : StmC K mg X_Statement X_If CK) (SW : SupW P K mg file) (FM : FmtC K C) (EF : EF K mg C) (D : At K mg "_law_by_place" s__law_by_place) (h_Copy__init_ : HasK P w K mg base (CK 1) "Copy" 4 (spkP [(["amount", "start", "source", "to", "target"], [4, 3, 2, 1, 0]), (["target", "to", "source", "start", "amount"], [0, 1, 2, 3, 4])] ((spIni CK C) 1)) ∧ HasK P w K mg base (CK 2) "Up" 4 (spkP [(["target", "to", "source", "start", "amount"], [0, 1, 2, 3, 4])] ((spIni CK C) 2)) ∧ HasK P w K mg base (CK 3) "Down" 4 (spkP [(["start", "target", "amount", "to", "source"], [1, 3, 4, 0, 2])] ((spIni CK C) 3)) ∧ HasK P w K mg base (CK 4) "Apart" 4 (spkP [(["target", "source", "to", "start", "amount"], [0, 2, 1, 3, 4])] ((spIni CK C) 4))) (h_Fill__init_ : HasK P w K mg base (CK 7) "Fill" 4 (spkP [(["letter", "start", "amount", "array"], [3, 1, 2, 0])] ((spIni CK C) 7))) (h_Let__init_ : HasK P w K mg base (CK 0) "Let" 4 (spkP [(["form", "field"], [1, 0])] ((spIni CK C) 0))) (h_Resize__init_ : HasK P w K mg base (CK 8) "Resize" 4 (spkP [(["length", "array"], [1, 0])] ((spIni CK C) 8))) (h_Reverse__init_ : HasK P w K mg base (CK 5) "Reverse" 4 (spkP [(["amount", "array", "start"], [1, 2, 0])] ((spIni CK C) 5))) (h_Swap__init_ : HasK P w K mg base (CK 6) "Swap" 4 (spkP [(["second", "start", "first", "at", "amount"], [2, 3, 0, 1, 4])] ((spIni CK C) 6))) :
    Has P w K mg base CX0 "_law_by_place" s__law_by_place ["_law_tags", "_law_some", "_law_code"] 6 (spTen CK C) := by
  have nd := sc__law_by_place.nd
  refine has_mk D sc__law_by_place (fun vs H Q E h => ?len) (fun _ _ _ _ _ _ us hl => match us, hl with | [_, _, _], _ => rfl) (fun f cdv A outer s H vs Q E hr hgd h => ?bd)
  case len =>
    obtain ⟨t, s, z, y, v1, v2, v3, e, g, a, i, rfl, _⟩ := h
    rfl
  case bd =>
    obtain ⟨t, s, z, y, v1, v2, v3, e, g, a, i, rfl, ht, hs, nz, ny, f1, f2, f3, hi, kont⟩ := h
    refine ⟨_, (pss_cons (ps_asg (pe_tup (pa_cons (pe_ix (ixL K) (pv 0) pe_int (fun _ _ => rfl)) (pa_cons (pe_ix (ixL K) (pv 0) pe_int (fun _ _ => rfl)) (pa_cons (pv 1) pa_nil)))) (gT K (n := 3) (hc := rfl) (hg := (pgs_cons (pg_name (i := 3) nd rfl (Or.inl rfl)) (pgs_cons (pg_name (i := 4) nd rfl (Or.inl rfl)) (pgs_cons (gU K (n := 3) (hc := rfl) (hg := (pgs_cons (pg_name (i := 5) nd rfl (Or.inl rfl)) (pgs_cons (pg_name (i := 6) nd rfl (Or.inl rfl)) (pgs_cons (pg_name (i := 7) nd rfl (Or.inl rfl)) pgs_nil))))) pgs_nil))))))
      (pss_cons (ps_set (i := 8) nd rfl (Or.inl rfl) (pe_lst (pa_cons (peMkP h_Let__init_ (hr.mono (by decide)) hgd rfl (pa_cons (pv 3) (pa_cons (pv 5) pa_nil))) (pa_cons (peMkP h_Copy__init_.1 (hr.mono (by decide)) hgd rfl (pa_cons (pv 3) (pa_cons (pv 5) (pa_cons (pv 4) (pa_cons (pv 6) (pa_cons (pv 7) pa_nil)))))) (pa_cons (peMkP h_Copy__init_.2.1 (hr.mono (by decide)) hgd rfl (pa_cons (pv 3) (pa_cons (pv 5) (pa_cons (pv 4) (pa_cons (pv 6) (pa_cons (pv 7) pa_nil)))))) pa_nil)))))
      (pss_cons (ps_set (i := 8) nd rfl (Or.inl rfl) (pe_op op_cat (pv 8) (pe_lst (pa_cons (peMkP h_Copy__init_.2.2.1 (hr.mono (by decide)) hgd rfl (pa_cons (pv 3) (pa_cons (pv 5) (pa_cons (pv 4) (pa_cons (pv 6) (pa_cons (pv 7) pa_nil)))))) (pa_cons (peMkP h_Copy__init_.2.2.2 (hr.mono (by decide)) hgd rfl (pa_cons (pv 3) (pa_cons (pv 5) (pa_cons (pv 4) (pa_cons (pv 6) (pa_cons (pv 7) pa_nil)))))) (pa_cons (peMkP h_Reverse__init_ (hr.mono (by decide)) hgd rfl (pa_cons (pv 3) (pa_cons (pv 6) (pa_cons (pv 7) pa_nil)))) pa_nil))))))
      (pss_cons (ps_set (i := 8) nd rfl (Or.inl rfl) (pe_op op_cat (pv 8) (pe_lst (pa_cons (peMkP h_Swap__init_ (hr.mono (by decide)) hgd rfl (pa_cons (pv 3) (pa_cons (pv 5) (pa_cons (pv 4) (pa_cons (pv 6) (pa_cons (pv 7) pa_nil)))))) (pa_cons (peMkP h_Fill__init_ (hr.mono (by decide)) hgd rfl (pa_cons (pv 3) (pa_cons (pv 6) (pa_cons (pv 7) (pa_cons (pv 2) pa_nil))))) (pa_cons (peMkP h_Resize__init_ (hr.mono (by decide)) hgd rfl (pa_cons (pv 3) (pa_cons (pv 5) pa_nil))) pa_nil))))))
      (pss_one (ps_ret (pe_op op_cat (pv 8) (pe_lst (pa_cons (peMkP h_Copy__init_.1 (hr.mono (by decide)) hgd rfl (pa_cons (pv 4) (pa_cons (pv 7) (pa_cons (pv 3) (pa_cons (pv 5) (pa_cons (pv 6) pa_nil)))))) pa_nil))))))))), ?_⟩
    refine s_st (σ' := [some (.ref t), some (.ref s), some (.int i), none, none, none, none, none, none]) rfl ?_
    walk_at "go"
    refine s_mk fun tt H0 htt r0 e0 => ?_
    have hs0 := r0 _ _ hs
    have f1 := f1.same r0
    have f2 := f2.same r0
    have f3 := f3.same r0
    have rr : Rx [] H H0 := Rx.same r0
    refine s_g3U (SqT.of e0) (SqL.of hs0) (by simp only [List.set_cons_succ, List.set_cons_zero]; rfl) ?_
    walk_at "go"
    refine s_mkSt (k := 0) (.s0 _ _) (.cons ⟨rfl, nz⟩ (.cons f1 .nil)) fun x1 G1 r1 st1 => ?_
    have f1 := f1.same r1
    have f2 := f2.same r1
    have f3 := f3.same r1
    have rr := rr.trans (Rx.same r1)
    walk_at "go"
    refine s_mkSt (k := 1) (.s1 1 (by decide) (by decide) (by decide) _ _ _ _ _) (.cons ⟨rfl, nz⟩ (.cons f1 (.cons ⟨rfl, ny⟩ (.cons f2 (.cons f3 .nil))))) fun x2 G2 r2 st2 => ?_
    have st1 := st1.same r2
    have f1 := f1.same r2
    have f2 := f2.same r2
    have f3 := f3.same r2
    have rr := rr.trans (Rx.same r2)
    walk_at "go"
    refine s_mkSt (k := 2) (.s1 2 (by decide) (by decide) (by decide) _ _ _ _ _) (.cons ⟨rfl, nz⟩ (.cons f1 (.cons ⟨rfl, ny⟩ (.cons f2 (.cons f3 .nil))))) fun x3 G3 r3 st3 => ?_
    have st1 := st1.same r3
    have st2 := st2.same r3
    have f1 := f1.same r3
    have f2 := f2.same r3
    have f3 := f3.same r3
    have rr := rr.trans (Rx.same r3)
    walk_at "go"
    refine s_mk fun l1 L1 hl1 q1 le1 => ?_
    have fr1 := rr.fr0 hl1
    have st1 := st1.same q1
    have st2 := st2.same q1
    have st3 := st3.same q1
    have f1 := f1.same q1
    have f2 := f2.same q1
    have f3 := f3.same q1
    have rr := rr.trans (Rx.same q1)
    walk_at "go"
    refine s_mkSt (k := 3) (.s1 3 (by decide) (by decide) (by decide) _ _ _ _ _) (.cons ⟨rfl, nz⟩ (.cons f1 (.cons ⟨rfl, ny⟩ (.cons f2 (.cons f3 .nil))))) fun x4 G4 r4 st4 => ?_
    have st1 := st1.same r4
    have st2 := st2.same r4
    have st3 := st3.same r4
    have le1 := r4 _ _ le1
    have f1 := f1.same r4
    have f2 := f2.same r4
    have f3 := f3.same r4
    have rr := rr.trans (Rx.same r4)
    walk_at "go"
    refine s_mkSt (k := 4) (.s1 4 (by decide) (by decide) (by decide) _ _ _ _ _) (.cons ⟨rfl, nz⟩ (.cons f1 (.cons ⟨rfl, ny⟩ (.cons f2 (.cons f3 .nil))))) fun x5 G5 r5 st5 => ?_
    have st1 := st1.same r5
    have st2 := st2.same r5
    have st3 := st3.same r5
    have le1 := r5 _ _ le1
    have st4 := st4.same r5
    have f1 := f1.same r5
    have f2 := f2.same r5
    have f3 := f3.same r5
    have rr := rr.trans (Rx.same r5)
    walk_at "go"
    refine s_mkSt (k := 5) (.s5 _ _ _) (.cons ⟨rfl, nz⟩ (.cons f2 (.cons f3 .nil))) fun x6 G6 r6 st6 => ?_
    have st1 := st1.same r6
    have st2 := st2.same r6
    have st3 := st3.same r6
    have le1 := r6 _ _ le1
    have st4 := st4.same r6
    have st5 := st5.same r6
    have f1 := f1.same r6
    have f2 := f2.same r6
    have f3 := f3.same r6
    have rr := rr.trans (Rx.same r6)
    walk_at "go"
    refine s_mk fun l2 L2 hl2 q2 le2 => ?_
    have fr2 := rr.fr0 hl2
    have st1 := st1.same q2
    have st2 := st2.same q2
    have st3 := st3.same q2
    have le1 := q2 _ _ le1
    have st4 := st4.same q2
    have st5 := st5.same q2
    have st6 := st6.same q2
    have f1 := f1.same q2
    have f2 := f2.same q2
    have f3 := f3.same q2
    have rr := rr.trans (Rx.same q2)
    walk_at "go"
    refine s_cat le1 le2 (sz1 (by simp)) fun l3 L3 hl3 q3 le3 => ?_
    have fr3 := rr.fr0 hl3
    have st1 := st1.same q3
    have st2 := st2.same q3
    have st3 := st3.same q3
    have le1 := q3 _ _ le1
    have st4 := st4.same q3
    have st5 := st5.same q3
    have st6 := st6.same q3
    have le2 := q3 _ _ le2
    have f1 := f1.same q3
    have f2 := f2.same q3
    have f3 := f3.same q3
    have rr := rr.trans (Rx.same q3)
    walk_at "go"
    refine s_mkSt (k := 6) (.s1 6 (by decide) (by decide) (by decide) _ _ _ _ _) (.cons ⟨rfl, nz⟩ (.cons f1 (.cons ⟨rfl, ny⟩ (.cons f2 (.cons f3 .nil))))) fun x7 G7 r7 st7 => ?_
    have st1 := st1.same r7
    have st2 := st2.same r7
    have st3 := st3.same r7
    have st4 := st4.same r7
    have st5 := st5.same r7
    have st6 := st6.same r7
    have le3 := r7 _ _ le3
    have f1 := f1.same r7
    have f2 := f2.same r7
    have f3 := f3.same r7
    have rr := rr.trans (Rx.same r7)
    walk_at "go"
    refine s_mkSt (k := 7) (.s7 _ _ _ _) (.cons ⟨rfl, nz⟩ (.cons f2 (.cons f3 (.cons ⟨rfl, hi⟩ .nil)))) fun x8 G8 r8 st8 => ?_
    have st1 := st1.same r8
    have st2 := st2.same r8
    have st3 := st3.same r8
    have st4 := st4.same r8
    have st5 := st5.same r8
    have st6 := st6.same r8
    have le3 := r8 _ _ le3
    have st7 := st7.same r8
    have f1 := f1.same r8
    have f2 := f2.same r8
    have f3 := f3.same r8
    have rr := rr.trans (Rx.same r8)
    walk_at "go"
    refine s_mkSt (k := 8) (.s8 _ _) (.cons ⟨rfl, nz⟩ (.cons f1 .nil)) fun x9 G9 r9 st9 => ?_
    have st1 := st1.same r9
    have st2 := st2.same r9
    have st3 := st3.same r9
    have st4 := st4.same r9
    have st5 := st5.same r9
    have st6 := st6.same r9
    have le3 := r9 _ _ le3
    have st7 := st7.same r9
    have st8 := st8.same r9
    have f1 := f1.same r9
    have f2 := f2.same r9
    have f3 := f3.same r9
    have rr := rr.trans (Rx.same r9)
    walk_at "go"
    refine s_mk fun l4 L4 hl4 q4 le4 => ?_
    have fr4 := rr.fr0 hl4
    have st1 := st1.same q4
    have st2 := st2.same q4
    have st3 := st3.same q4
    have st4 := st4.same q4
    have st5 := st5.same q4
    have st6 := st6.same q4
    have le3 := q4 _ _ le3
    have st7 := st7.same q4
    have st8 := st8.same q4
    have st9 := st9.same q4
    have f1 := f1.same q4
    have f2 := f2.same q4
    have f3 := f3.same q4
    have rr := rr.trans (Rx.same q4)
    walk_at "go"
    refine s_cat le3 le4 (sz1 (by simp)) fun l5 L5 hl5 q5 le5 => ?_
    have fr5 := rr.fr0 hl5
    have st1 := st1.same q5
    have st2 := st2.same q5
    have st3 := st3.same q5
    have st4 := st4.same q5
    have st5 := st5.same q5
    have st6 := st6.same q5
    have le3 := q5 _ _ le3
    have st7 := st7.same q5
    have st8 := st8.same q5
    have st9 := st9.same q5
    have le4 := q5 _ _ le4
    have f1 := f1.same q5
    have f2 := f2.same q5
    have f3 := f3.same q5
    have rr := rr.trans (Rx.same q5)
    walk_at "go"
    refine s_mkSt (k := 1) (.s1 1 (by decide) (by decide) (by decide) _ _ _ _ _) (.cons ⟨rfl, ny⟩ (.cons f3 (.cons ⟨rfl, nz⟩ (.cons f1 (.cons f2 .nil))))) fun x10 G10 r10 st10 => ?_
    have st1 := st1.same r10
    have st2 := st2.same r10
    have st3 := st3.same r10
    have st4 := st4.same r10
    have st5 := st5.same r10
    have st6 := st6.same r10
    have st7 := st7.same r10
    have st8 := st8.same r10
    have st9 := st9.same r10
    have le5 := r10 _ _ le5
    have f1 := f1.same r10
    have f2 := f2.same r10
    have f3 := f3.same r10
    have rr := rr.trans (Rx.same r10)
    walk_at "go"
    refine s_mk fun l6 L6 hl6 q6 le6 => ?_
    have fr6 := rr.fr0 hl6
    have st1 := st1.same q6
    have st2 := st2.same q6
    have st3 := st3.same q6
    have st4 := st4.same q6
    have st5 := st5.same q6
    have st6 := st6.same q6
    have st7 := st7.same q6
    have st8 := st8.same q6
    have st9 := st9.same q6
    have le5 := q6 _ _ le5
    have st10 := st10.same q6
    have f1 := f1.same q6
    have f2 := f2.same q6
    have f3 := f3.same q6
    have rr := rr.trans (Rx.same q6)
    walk_at "go"
    refine s_cat le5 le6 (sz1 (by simp)) fun D HD hD qD eD => ?_
    have st1 := st1.same qD
    have st2 := st2.same qD
    have st3 := st3.same qD
    have st4 := st4.same qD
    have st5 := st5.same qD
    have st6 := st6.same qD
    have st7 := st7.same qD
    have st8 := st8.same qD
    have st9 := st9.same qD
    have st10 := st10.same qD
    exact kont D _ HD (rr.fr0 hD) (rr.trans (Rx.same qD)).same0 eD (.cons st1 (.cons st2 (.cons st3 (.cons st4 (.cons st5 (.cons st6 (.cons st7 (.cons st8 (.cons st9 (.cons st10 .nil))))))))))

theorem ok__law_due (T : Txt mg) (FC : FormC K mg C) (MU : OwnI K C .Mult) (SC : StmC K mg X_Statement X_If CK) (SW : SupW P K mg file) (FM : FmtC K C) (EF : EF K mg C) (D : At K mg "_law_due" s__law_due) :
    Has P w K mg base CX0 "_law_due" s__law_due ["_law_tags", "_law_said", "_law_code"] 1 spDueS := by
  have nd := sc__law_due.nd
  refine has_mk D sc__law_due (fun vs H Q E h => ?len) (fun _ _ _ _ _ _ us hl => match us, hl with | [_, _, _], _ => rfl) (fun f cdv A outer s H vs Q E hr hgd h => ?bd)
  case len =>
    obtain ⟨t, s, z, y, e, g, a, i, rfl, _⟩ := h
    rfl
  case bd =>
    obtain ⟨t, s, z, y, e, g, a, i, rfl, ht, hs, nz, ny, l1, l2, l3, hi, kont⟩ := h
    have lz := (name_nm nz).len
    have ly := (name_nm ny).len
    have ilg : i.natAbs.log2 < 1920 := bd_log (Nat.lt_of_le_of_lt hi (by decide +kernel))
    have ill : (Str.ofString (toString i)).length ≤ 574 := len_int (Nat.lt_of_le_of_lt hi (by decide +kernel))
    have c1 : (Str.ofString "[").length = 1 := by decide +kernel
    have c2 : (Str.ofString "] ").length = 2 := by decide +kernel
    have c3 : (Str.ofString "] (").length = 3 := by decide +kernel
    have c4 : (Str.ofString ")").length = 1 := by decide +kernel
    have c5 : (Str.ofString "let ").length = 4 := by decide +kernel
    have c6 : (Str.ofString " = ").length = 3 := by decide +kernel
    have c7 : (Str.ofString " ").length = 1 := by decide +kernel
    have c8 : (Str.ofString "reverse ").length = 8 := by decide +kernel
    have c9 : (Str.ofString "swap ").length = 5 := by decide +kernel
    have c10 : (Str.ofString "fill ").length = 5 := by decide +kernel
    have c11 : (Str.ofString ") ").length = 2 := by decide +kernel
    have c12 : (Str.ofString "resize ").length = 7 := by decide +kernel
    have c13 : (Str.ofString " (").length = 2 := by decide +kernel
    have c14 : (Str.ofString "copy ").length = 5 := by decide +kernel
    generalize hE : textR e = te at hs l1
    generalize hG : textR g = tg at hs l2
    generalize hA : textR a = ta at hs l3
    have lb := backS_len lz ly l1 l2 l3
    have lb2 := backS_len ly lz l3 l1 l2
    refine ⟨_, (pss_cons (ps_asg (pe_tup (pa_cons (pe_ix (ixL K) (pv 0) pe_int (fun _ _ => rfl)) (pa_cons (pe_ix (ixL K) (pv 0) pe_int (fun _ _ => rfl)) (pa_cons (pv 1) pa_nil)))) (gT K (n := 3) (hc := rfl) (hg := (pgs_cons (pg_name (i := 3) nd rfl (Or.inl rfl)) (pgs_cons (pg_name (i := 4) nd rfl (Or.inl rfl)) (pgs_cons (gU K (n := 3) (hc := rfl) (hg := (pgs_cons (pg_name (i := 5) nd rfl (Or.inl rfl)) (pgs_cons (pg_name (i := 6) nd rfl (Or.inl rfl)) (pgs_cons (pg_name (i := 7) nd rfl (Or.inl rfl)) pgs_nil))))) pgs_nil))))))
      (pss_cons (ps_set (i := 8) nd rfl (Or.inr rfl) (pe_op o_addS (pe_op o_addS (pe_op o_addS (pe_op o_addS (pe_op o_addS (pe_op o_addS (pe_op o_addS (pe_op o_addS (pe_op o_addS (pv 3) pe_str) (pv 5)) pe_str) (pv 4)) pe_str) (pv 6)) pe_str) (pv 7)) pe_str))
      (pss_cons (ps_set (i := 9) nd rfl (Or.inl rfl) (pe_op op_cat (pe_lst (pa_cons (pe_op o_addS (pe_op o_addS (pe_op o_addS pe_str (pv 3)) pe_str) (pv 5)) pa_nil)) (pe_lc (own := [("_law_word", 11)]) (g := gName 11) (tt := tYes) rfl nd (piL K (he := (pe_lst (pa_cons pe_str (pa_cons pe_str (pa_cons pe_str (pa_cons pe_str pa_nil))))))) (blkOk_by (N := N__law_due) (sc := defScope s__law_due) (own := [("_law_word", 11)]) (by decide +kernel)) (fun _ _ _ _ _ => (pg_name (i := 11) nd rfl (Or.inl rfl))) (fun _ _ _ _ _ => pts_nil) (fun _ _ _ _ _ => (pe_op o_addS (pe_op o_addS (pv 11) pe_str) (pv 8))))))
      (pss_cons (ps_set (i := 9) nd rfl (Or.inl rfl) (pe_op op_cat (pv 9) (pe_lst (pa_cons (pe_op o_addS (pe_op o_addS (pe_op o_addS (pe_op o_addS (pe_op o_addS (pe_op o_addS pe_str (pv 3)) pe_str) (pv 6)) pe_str) (pv 7)) pe_str) (pa_cons (pe_op o_addS pe_str (pv 8)) pa_nil)))))
      (pss_cons (ps_expr (appendK K (ho := (pv 9)) (ha := (pa_cons (pe_op o_addS (pe_op o_addS (pe_op o_addS (pe_op o_addS (pe_op o_addS (pe_op o_addS (pe_op o_addS pe_str (pv 3)) pe_str) (pv 6)) pe_str) (pv 7)) pe_str) (pe_callTy c_strI rfl T.b_str (by decide +kernel) (pa_cons (pv 2) pa_nil))) pa_nil))))
      (pss_cons (ps_set (i := 10) nd rfl (Or.inl rfl) (pe_op o_addS (pe_op o_addS (pe_op o_addS (pe_op o_addS (pe_op o_addS (pe_op o_addS (pe_op o_addS (pe_op o_addS (pe_op o_addS (pv 4) pe_str) (pv 7)) pe_str) (pv 3)) pe_str) (pv 5)) pe_str) (pv 6)) pe_str))
      (pss_one (ps_ret (pe_op op_cat (pv 9) (pe_lst (pa_cons (pe_op o_addS (pe_op o_addS (pe_op o_addS (pe_op o_addS pe_str (pv 3)) pe_str) (pv 5)) pe_str) (pa_cons (pe_op o_addS pe_str (pv 10)) pa_nil)))))))))))), ?_⟩
    refine s_st (σ' := [some (.ref t), some (.ref s), some (.int i), none, none, none, none, none, none, none, none, none]) rfl ?_
    walk_at "go"
    refine s_mk fun tt H0 htt r0 e0 => ?_
    have hs0 := r0 _ _ hs
    refine s_g3U (SqT.of e0) (SqL.of hs0) (by simp only [List.set_cons_succ, List.set_cons_zero]; rfl) ?_
    walk_at "go"
    generalize hB : z ++ Str.ofString "[" ++ te ++ Str.ofString "] " ++ y ++ Str.ofString "[" ++ tg ++ Str.ofString "] (" ++ ta ++ Str.ofString ")" = bk
    have lb : bk.length ≤ 930 := by rw [← hB]; exact lb
    refine s_mk fun l1 H1 hl1 q1 le1 => ?_
    walk_at "go"
    refine s_mk fun l2 H2 hl2 q2 le2 => ?_
    have le1 := q2 _ _ le1
    walk_at "go"
    refine lcP (walk_list (xs := [V.str (Str.ofString "copy"), .str (Str.ofString "up"), .str (Str.ofString "down"), .str (Str.ofString "apart")])) (fun x => match x with | .str w => .str (w ++ Str.ofString " " ++ bk) | _ => .non) (fun H5 r5 => SqL.of (r5 _ _ le2)) (by simp) ?_ gm_name ?_
    · intro x H5 Q1 hx r5 c
      obtain ⟨w, rfl, lw⟩ : ∃ w : Str, x = .str w ∧ w.length ≤ 10 := by
        simp only [List.mem_cons, List.not_mem_nil, or_false] at hx
        rcases hx with rfl | rfl | rfl | rfl <;> exact ⟨_, rfl, by decide +kernel⟩
      refine ⟨rfl, ?_⟩
      walk_at "go"
      exact c _ (Same.refl _)
    · intro D3 H3 hD3 q3 le3
      have le1 := q3 _ _ le1
      refine s_cat le1 le3 (sz1 (by simp)) fun l4 H4 hl4 q4 le4 => ?_
      walk_at "go"
      refine s_mk fun l5 H5 hl5 q5 le5 => ?_
      have le4 := q5 _ _ le4
      refine s_cat le4 le5 (sz1 (by simp)) fun l6 H6 hl6 q6 le6 => ?_
      have fr6 : H l6 = none := (r0.trans (q1.trans (q2.trans (q3.trans (q4.trans q5))))).free hl6
      have rr : Rx [] H H6 := Rx.same (r0.trans (q1.trans (q2.trans (q3.trans (q4.trans (q5.trans q6))))))
      walk_at "go"
      refine s_strI ilg ?_
      refine s_addS (szL (by simp only [len_app]; omega)) ?_
      refine s_nil ?_
      refine s_appN le6 (by simp) fun J eJ nlJ ow => ?_
      have rr := ow _ rr fr6
      walk_at "go"
      generalize hB2 : y ++ Str.ofString "[" ++ ta ++ Str.ofString "] " ++ z ++ Str.ofString "[" ++ te ++ Str.ofString "] (" ++ tg ++ Str.ofString ")" = bk2
      have lb2 : bk2.length ≤ 930 := by rw [← hB2]; exact lb2
      walk_at "go"
      refine s_mk fun l7 H7 hl7 q7 le7 => ?_
      have eJ := q7 _ _ eJ
      refine s_cat eJ le7 (sz1 (by simp)) fun D HD hD qD eD => ?_
      refine kont D HD ((rr.trans (Rx.same q7)).fr0 hD) (rr.trans (Rx.same (q7.trans qD))).same0 ?_
      rw [eD, due_eq, hE, hG, hA]
      subst hB hB2
      rfl

theorem ok__law_small (T : Txt mg) (FC : FormC K mg C) (MU : OwnI K C .Mult) (SC : StmC K mg X_Statement X_If CK) (SW : SupW P K mg file) (FM : FmtC K C) (EF : EF K mg C) (D : At K mg "_law_small" s__law_small) :
    Has P w K mg base CX0 "_law_small" s__law_small ["_law_terms"] 1 (spSmall K) := by
  have nd := sc__law_small.nd
  refine has_mk D sc__law_small (fun vs H Q E h => ?len) (fun _ _ _ _ _ _ us hl => match us, hl with | [_], _ => rfl) (fun f cdv A outer s H vs Q E hr hgd h => ?bd)
  case len =>
    obtain ⟨l, xs, q, rfl, _⟩ := h
    rfl
  case bd =>
    obtain ⟨l, xs, q, rfl, hl, pr, l20, k⟩ := h
    refine ⟨_, (pss_one (ps_ret (pe_lc (own := [("_law_symbol", 1), ("_law_number", 2)]) (g := gTup K 2 (gCons (gName 1) (gCons (gName 2) gNil))) (tt := tYes) rfl nd (piL K (he := (pv 0))) (blkOk_by (N := N__law_small) (sc := defScope s__law_small) (own := [("_law_symbol", 1), ("_law_number", 2)]) (by decide +kernel)) (fun _ _ _ _ _ => (gT K (n := 2) (hc := rfl) (hg := (pgs_cons (pg_name (i := 1) nd rfl (Or.inl rfl)) (pgs_cons (pg_name (i := 2) nd rfl (Or.inl rfl)) pgs_nil))))) (fun _ _ _ _ _ => pts_nil) (fun _ _ _ _ _ => (pe_tup (pa_cons (pv 1) (pa_cons (pe_callB (c_max2 rfl) rfl T.b_max (by decide +kernel) (pa_cons (pe_un un_neg pe_int) (pa_cons (pe_callB (c_min2 rfl) rfl T.b_min (by decide +kernel) (pa_cons pe_int (pa_cons (pv 2) pa_nil))) pa_nil))) pa_nil))))))), ?_⟩
    refine s_st (σ' := [some (.ref l), none, none]) rfl ?_
    have hlen := pr.len
    walk_at "go"
    refine lcR (walk_list (xs := xs)) (fun i => q[i]?.map fun p => (p.1, clampI p.2)) PrR tpR_pr (fun Hx r => Same.sqlG r hl) yat_same (by omega) ?_ ?_
    · rintro i x H5 H4 K1 K2 hi r5 ⟨rfl, hx⟩ c1 c2
      obtain ⟨p, t1, hq, rfl, hpt⟩ := (pr.same r5).at hx
      refine s_g2 (SqT.of hpt) ⟨rfl, ?_⟩
      walk_at "go"
      refine s_mk fun t0 H6 ht0 r6 e6 => ?_
      refine c1 _ _ (p.1, clampI p.2) (by rw [hq]; rfl) r6 ⟨t0, rfl, ?_⟩
      rw [e6]
      have e : (if (if p.2 < 99 then p.2 else 99) > -99 then if p.2 < 99 then p.2 else 99 else -99) = clampI p.2 := by
        unfold clampI
        split <;> split <;> (try split) <;> omega
      rw [e]
    · intro D H5 ys hD r5 e5 pr5
      rw [hlen, G.range_map] at pr5
      exact k D ys H5 hD r5 e5 (PrsL.of_paired pr5)

theorem ok__law_take (T : Txt mg) (FC : FormC K mg C) (MU : OwnI K C .Mult) (SC : StmC K mg X_Statement X_If CK) (SW : SupW P K mg file) (FM : FmtC K C) (EF : EF K mg C) (D : At K mg "_law_take" s__law_take) :
    Has P w K mg base CX0 "_law_take" s__law_take ["_law_purse_here", "_law_many"] 1 spTake := by
  have nd := sc__law_take.nd
  refine has_mk D sc__law_take (fun vs H Q E h => ?len) (fun _ _ _ _ _ _ us hl => match us, hl with | [_, _], _ => rfl) (fun f cdv A outer s H vs Q E hr hgd h => ?bd)
  case len =>
    obtain ⟨p, n, m, rfl, _⟩ := h
    rfl
  case bd =>
    obtain ⟨p, n, m, rfl, ⟨d0, s0, c0, hp, h1, h2, h3, h4, h5⟩, hn, m0, m1, k⟩ := h
    have mp : p ∈ [p] := List.mem_cons_self
    refine ⟨_, (pss_cons (ps_asg (pe_op op_add (pe_ix (ixL K) (pv 0) pe_int (fun _ _ => rfl)) pe_int) (pg_sub (pv 0) pe_int set_list))
      (pss_cons (ps_set (i := 2) nd rfl (Or.inl rfl) (pe_op op_add (pe_op op_mul (pe_op op_mul (pe_ix (ixL K) (pv 0) pe_int (fun _ _ => rfl)) (pe_ix (ixL K) (pv 0) pe_int (fun _ _ => rfl))) pe_int) pe_int))
      (pss_cons (ps_set (i := 3) nd rfl (Or.inl rfl) (pe_op op_mod (pe_callTy c_int1 rfl T.b_int (by decide +kernel) (pa_cons (pe_op op_add (pe_op op_mul (pe_ix (ixL K) (pv 0) pe_int (fun _ _ => rfl)) pe_int) (pv 2)) pa_nil)) pe_int))
      (pss_cons (ps_asg (pv 3) (pg_sub (pv 0) pe_int set_list))
      (pss_cons (ps_if (pt_cmpR op_gt (pe_ix (ixL K) (pv 0) pe_int (fun _ _ => rfl)) pe_int (nomark _)) (pss_cons (ps_asg (pe_callB divmodK rfl T.b_divmod (by decide +kernel) (pa_cons (pe_ix (ixL K) (pv 0) pe_int (fun _ _ => rfl)) (pa_cons (pv 1) pa_nil))) (gT K (n := 2) (hc := rfl) (hg := (pgs_cons (pg_sub (pv 0) pe_int set_list) (pgs_cons (pg_name (i := 4) nd rfl (Or.inl rfl)) pgs_nil)))))
      (pss_one (ps_ret (pv 4)))) pss_nil)
      (pss_one (ps_ret (pe_op op_mod (pe_op op_fdiv (pe_op op_mod (pe_callTy c_int1 rfl T.b_int (by decide +kernel) (pa_cons (pe_op op_add (pe_op op_mul (pv 3) (pe_op op_add (pe_op op_mod (pe_callTy c_int1 rfl T.b_int (by decide +kernel) (pa_cons (pv 3) pa_nil)) pe_int) pe_int)) (pe_ix (ixL K) (pv 0) pe_int (fun _ _ => rfl))) pa_nil)) pe_int) pe_int) (pv 1))))))))), ?_⟩
    refine s_st (σ' := [some (.ref p), some (.int m), none, none, none]) rfl ?_
    walk_at "go"
    refine ite_b (fun e => ?_) (fun e => ?_)
    · walk_at "go"
      refine s_divmod ⟨m0, m1⟩ fun t H2 ht r2 e2 => ?_
      have mt : t ≠ p := fun z => by rw [z, upd_same] at ht; cases ht
      have e3 : H2 p = some (.lst [.int d0, .int ((s0 * 65539 + ((c0 + 1) * (c0 + 1) * 15485863 + 32452843)) % 2147483629), .int (c0 + 1)]) := r2 _ _ upd_same
      refine ⟨t, _, rfl, SqT.of e2, rfl, _, _, rfl, ?_⟩
      walk_at "go"
      refine ⟨_, [], rfl, rfl, ?_⟩
      walk_at "go"
      refine k _ _ (Int.emod_nonneg _ (by omega)) (Int.emod_lt_of_pos _ m0) (((Rx.put mp).trans (Rx.put mp)).trans ((Rx.same r2).trans (Rx.put mp))) ⟨d0 / m, _, c0 + 1, upd_same, Int.ediv_nonneg h1 (by omega), Int.emod_nonneg _ (by decide), Int.emod_lt_of_pos _ (by decide), by omega, by omega⟩
    · have hs : 0 ≤ (s0 * 65539 + ((c0 + 1) * (c0 + 1) * 15485863 + 32452843)) % 2147483629 := Int.emod_nonneg _ (by decide)
      have hs2 : (s0 * 65539 + ((c0 + 1) * (c0 + 1) * 15485863 + 32452843)) % 2147483629 < 2147483629 := Int.emod_lt_of_pos _ (by decide)
      generalize (s0 * 65539 + ((c0 + 1) * (c0 + 1) * 15485863 + 32452843)) % 2147483629 = sd at hs hs2 ⊢
      walk_at "go"
      exact k _ _ (Int.emod_nonneg _ (by omega)) (Int.emod_lt_of_pos _ m0) ((Rx.put mp).trans (Rx.put mp)) ⟨d0, sd, c0 + 1, upd_same, h1, hs, hs2, by omega, by omega⟩

theorem ok__law_total (T : Txt mg) (FC : FormC K mg C) (MU : OwnI K C .Mult) (SC : StmC K mg X_Statement X_If CK) (SW : SupW P K mg file) (FM : FmtC K C) (EF : EF K mg C) (D : At K mg "_law_total" s__law_total) :
    Has P w K mg base CX0 "_law_total" s__law_total ["_law_pairs"] 1 (spTotal K) := by
  have nd := sc__law_total.nd
  refine has_mk D sc__law_total (fun vs H Q E h => ?len) (fun _ _ _ _ _ _ us hl => match us, hl with | [_], _ => rfl) (fun f cdv A outer s H vs Q E hr hgd h => ?bd)
  case len =>
    obtain ⟨l, xs, ps, rfl, _⟩ := h
    rfl
  case bd =>
    obtain ⟨l, xs, ps, rfl, hl, pr, l20, b99, k⟩ := h
    refine ⟨_, (pss_cons (ps_set (i := 1) nd rfl (Or.inr rfl) pe_dnewK)
      (pss_cons (ps_for PassesOwn.never rfl (piL K (he := (pv 0))) (gT K (n := 2) (hc := rfl) (hg := (pgs_cons (pg_name (i := 2) nd rfl (Or.inl rfl)) (pgs_cons (pg_name (i := 3) nd rfl (Or.inl rfl)) pgs_nil))))
      (pss_one (ps_dput (hu_of hr) (pv 1) (pv 2) (pe_op op_add (pe_dget2 (hu_of hr) (pv 1) (pv 2) pe_int ⟨rfl, rfl, rfl, rfl⟩) (pv 3)) rfl)))
      (pss_one (ps_ret (pe_lc (own := [("_law_symbol", 2)]) (g := gName 2) rfl nd (piL K (he := (pe_callB (call_sortedD rfl) rfl T.b_sorted (by decide +kernel) (pa_cons (pv 1) pa_nil)))) (blkOk_by (N := N__law_total) (sc := defScope s__law_total) (own := [("_law_symbol", 2)]) (by decide +kernel)) (fun _ _ _ _ _ => (pg_name (i := 2) nd rfl (Or.inl rfl))) (fun _ _ _ _ _ => (pts_one (pt_cmpR op_ne (pe_dget (hu_of hr) (pv 1) (pv 2) (fun _ _ => rfl)) pe_int (nomark _)))) (fun _ _ _ _ _ => (pe_tup (pa_cons (pv 2) (pa_cons (pe_dget (hu_of hr) (pv 1) (pv 2) (fun _ _ => rfl)) pa_nil))))))))), ?_⟩
    refine s_st (σ' := [some (.ref l), none, none, none]) rfl ?_
    have hlen := pr.len
    walk_at "go"
    refine s_mk fun d H1 hd r1 e1 => ?_
    have hl1 := Same.sqlG r1 hl
    walk_at "go"
    refine lc_of (walk_list (xs := xs)) (fun i σ H2 => Same H H2 ∧ ∃ o1 o2, σ = [some (.ref l), some (.ref d), o1, o2] ∧ H2 d = some (.dK (kvR (sumR [] (ps.take i) 1)))) ⟨r1, _, _, rfl, e1⟩ (fun i σ H2 _ h => Same.sqlG h.1 hl) ?_ ?_
    · rintro i x σ H2 H3 hi ⟨r2, o1, o2, rfl, hd2⟩ ⟨rfl, hx⟩
      obtain ⟨p, t1, hq, rfl, hpt⟩ := pr.at hx
      have hpt2 := r2 _ _ hpt
      have hlt := sum_len 1 (ps.take i) []
      rw [List.length_take, List.length_nil] at hlt
      have hl2 : (sumR [] (ps.take i) 1).length ≤ 1000 := by omega
      walk_at "go"
      refine ⟨fun a o e => ?_, _, _, rfl, ?_⟩
      · rw [upd_ne (ne_of_none e hd)]
        exact r2 _ _ e
      · rw [upd_same, take_snoc hq, sum_snoc, Int.mul_one]
        rfl
    · rintro σ H2 ⟨r2, o1, o2, rfl, hd2⟩
      rw [hlen, List.take_length] at hd2
      have nq : (keysR (sumR [] ps 1)).Nodup := sum_nodup 1 ps [] (by simp [keysR])
      have lq := sum_len 1 ps []
      have kq : ∀ x ∈ keysR (sumR [] ps 1), x ∈ keysR ps := sum_keys 1 (fun x => x ∈ keysR ps) ps [] (by simp [keysR]) fun x hx => hx
      have fq : ∀ x, (fac (sumR [] ps 1) x).natAbs ≤ 99 * 20 := fun x => by
        have := sumP_fac x ps [] 0 b99 fun y => by rw [fac_nil]; exact Nat.le_refl _
        omega
      rw [List.length_nil] at lq
      generalize sumR [] ps 1 = w0 at hd2 nq lq kq fq
      walk_at "go"
      refine ⟨d, kvR w0, keysR w0, rfl, Rd.of hd2, by unfold kvR keysR; rw [List.map_map, List.map_map]; rfl, by unfold keysR; rw [List.length_map]; omega, fun ss pp pe so hpp => ?_⟩
      have hd3 : (upd H2 pp (.lst (ss.map V.str))) d = some (.dK (kvR w0)) := by rw [upd_ne (fun z => by rw [z, hpp] at hd2; cases hd2)]; exact hd2
      have r3 : Same H2 (upd H2 pp (.lst (ss.map V.str))) := fun a o e => by rw [upd_ne (ne_of_none e hpp)]; exact e
      have e3 : (upd H2 pp (.lst (ss.map V.str))) pp = some (.lst (ss.map V.str)) := upd_same
      generalize upd H2 pp (.lst (ss.map V.str)) = H3 at hd3 r3 e3 ⊢
      have sl : ss.length = w0.length := by rw [pe.length_eq]; unfold keysR; rw [List.length_map]
      have asc := sorted_asc so (pe.nodup_iff.mpr nq)
      walk_at "go"
      refine lcR (walk_list (xs := ss.map V.str)) (fun i => ss[i]?.bind fun z => if fac w0 z ≠ 0 then some (z, fac w0 z) else none) PrR tpR_pr (fun Hx r => .of (r _ _ e3)) yat_same (by simp; omega) ?_ ?_
      · rintro i x H5 H4 K1 K2 hi r5 ⟨rfl, hx⟩ c1 c2
        rw [List.getElem?_map] at hx
        obtain ⟨z, hz, rfl⟩ := Option.map_eq_some_iff.mp hx
        have hzk : z ∈ keysR w0 := pe.mem_iff.mp (List.mem_of_getElem? hz)
        have hv : valR w0 z = some (fac w0 z) := val_mem hzk
        have hd5 := r5 _ _ hd3
        refine ⟨rfl, ?_⟩
        walk_at "go"
        refine ite_b (fun e => ?_) (fun e => ?_)
        · have e' : fac w0 z ≠ 0 := by simpa using e
          walk_at "go"
          refine s_mk fun t0 H6 ht0 r6 e6 => ?_
          exact c1 _ _ (z, fac w0 z) (by rw [hz]; simp [e']) r6 ⟨t0, rfl, e6⟩
        · have e' : fac w0 z = 0 := by simpa using e
          exact c2 _ (by rw [hz]; simp [e']) (Same.refl _)
      · intro D H5 ys hD r5 e5 pr5
        rw [List.length_map, range_get] at pr5
        have fm : ∀ zs : List Str, zs.Pairwise (fun a b => a.cps.toList < b.cps.toList) → Can (zs.filterMap fun z => if fac w0 z ≠ 0 then some (z, fac w0 z) else none) ∧ (keysR (zs.filterMap fun z => if fac w0 z ≠ 0 then some (z, fac w0 z) else none)).Sublist zs ∧ ∀ p ∈ zs.filterMap (fun z => if fac w0 z ≠ 0 then some (z, fac w0 z) else none), p.2 = fac w0 p.1 := by
          intro zs
          induction zs with
          | nil => exact fun _ => ⟨Can.nil, by simp [keysR], by simp⟩
          | cons z zs ih =>
            intro hp
            obtain ⟨hz, hzs⟩ := List.pairwise_cons.mp hp
            obtain ⟨i1, i2, i3⟩ := ih hzs
            by_cases h0 : fac w0 z ≠ 0
            · rw [List.filterMap_cons_some (b := (z, fac w0 z)) (by rw [if_pos h0])]
              refine ⟨⟨?_, ?_⟩, ?_, ?_⟩
              · show List.Pairwise _ (z :: keysR _)
                exact List.pairwise_cons.mpr ⟨fun y hy => hz y (i2.subset hy), i1.asc⟩
              · intro p hp
                rcases List.mem_cons.mp hp with rfl | hp
                · exact h0
                · exact i1.nz p hp
              · show List.Sublist (z :: keysR _) (z :: zs)
                exact i2.cons_cons z
              · intro p hp
                rcases List.mem_cons.mp hp with rfl | hp
                · rfl
                · exact i3 p hp
            · rw [List.filterMap_cons_none (by rw [if_neg h0])]
              exact ⟨i1, i2.cons z, i3⟩
        obtain ⟨cn, sb, fv⟩ := fm ss asc
        generalize (ss.filterMap fun z => if fac w0 z ≠ 0 then some (z, fac w0 z) else none) = q at pr5 cn sb fv
        have rr := r2.trans (r3.trans r5)
        have ql : q.length ≤ ss.length := by
          have h1 := sb.length_le
          unfold keysR at h1
          rw [List.length_map] at h1
          exact h1
        refine k D ys q H5 ((r2.trans r3).free hD) rr e5 (PrsL.of_paired pr5) cn (fun x hx => kq x (pe.mem_iff.mp (sb.subset hx))) (by omega) fun p hp => ?_
        rw [fv p hp]
        exact fq p.1

theorem ok__law_form (T : Txt mg) (FC : FormC K mg C) (MU : OwnI K C .Mult) (SC : StmC K mg X_Statement X_If CK) (SW : SupW P K mg file) (FM : FmtC K C) (EF : EF K mg C) (D : At K mg "_law_form" s__law_form) (h__law_small : Has P w K mg base CX0 "_law_small" s__law_small ["_law_terms"] 1 (spSmall K)) (h__law_take : Has P w K mg base CX0 "_law_take" s__law_take ["_law_purse_here", "_law_many"] 1 spTake) (h__law_total : Has P w K mg base CX0 "_law_total" s__law_total ["_law_pairs"] 1 (spTotal K)) :
    Has P w K mg base CX0 "_law_form" s__law_form ["_law_purse_here", "_law_symbols"] 2 spFormP := by
  have nd := sc__law_form.nd
  refine has_mk D sc__law_form (fun vs H Q E h => ?len) (fun _ _ _ _ _ _ us hl => match us, hl with | [_, _], _ => rfl) (fun f cdv A outer s H vs Q E hr hgd h => ?bd)
  case len =>
    obtain ⟨p, q, n, zs, rfl, _⟩ := h
    rfl
  case bd =>
    obtain ⟨p, q, n, zs, rfl, pu, hn, nq, hq, h1, h20, k⟩ := h
    refine ⟨_, (pss_cons (ps_set (i := 2) nd rfl (Or.inl rfl) (pe_lst pa_nil))
      (pss_cons (ps_for PassesOwn.never rfl (pi_range1 rfl T.b_range (pa_cons (pe_ifExp (pt_cmpR (nePK K (hu := hr.units)) (pv 1) (pe_lst pa_nil) (nomark _)) (peH h__law_take (hr.mono (by decide)) hgd rfl (pa_cons (pv 0) (pa_cons pe_int pa_nil))) pe_int) pa_nil)) (pg_name (i := 3) nd rfl (Or.inl rfl))
      (pss_cons (ps_set (i := 4) nd rfl (Or.inl rfl) (pe_ix (ixL K) (pe_lst (pa_cons pe_int (pa_cons pe_int (pa_cons pe_int (pa_cons (pe_un un_neg pe_int) (pa_cons (pe_un un_neg pe_int) (pa_cons pe_int (pa_cons (pe_un un_neg pe_int) (pa_cons pe_int (pa_cons pe_int (pa_cons (pe_un un_neg pe_int) (pa_cons pe_int (pa_cons (pe_un un_neg pe_int) pa_nil))))))))))))) (peH h__law_take (hr.mono (by decide)) hgd rfl (pa_cons (pv 0) (pa_cons pe_int pa_nil))) (fun _ _ => rfl)))
      (pss_one (ps_expr (appendK K (ho := (pv 2)) (ha := (pa_cons (pe_tup (pa_cons (pe_ix (ixL K) (pv 1) (peH h__law_take (hr.mono (by decide)) hgd rfl (pa_cons (pv 0) (pa_cons (pe_callB (lenK K) rfl T.b_len (by decide +kernel) (pa_cons (pv 1) pa_nil)) pa_nil))) (fun _ _ => rfl)) (pa_cons (pv 4) pa_nil))) pa_nil)))))))
      (pss_one (ps_ret (peH h__law_small (hr.mono (by decide)) hgd rfl (pa_cons (peH h__law_total (hr.mono (by decide)) hgd rfl (pa_cons (pv 2) pa_nil)) pa_nil)))))), ?_⟩
    refine s_st (σ' := [some (.ref p), some (.ref q), none, none, none]) rfl ?_
    walk_at "go"
    refine s_mk fun f0 H1 hf r1 e1 => ?_
    have nf : f0 ≠ p := pu.ne hf
    walk_at "go"
    refine s_mk fun w0 H2 hw r2 e2 => ?_
    have hq2 := (r1.trans r2) _ _ hq
    have p2 := pu.same (r1.trans r2)
    walk_at "go"
    refine s_neNilS hq2 e2 ?_
    have hne : (!zs.isEmpty) = true := by cases zs with
      | nil => simp at h1
      | cons a b => rfl
    rw [hne]
    walk_at "go"
    refine ⟨p, n, 4, rfl, p2, by omega, by decide, by decide, fun m H3 m0 m4 r3 p3 => ?_⟩
    have rx3 : Rx [p] H H3 := (Rx.same (r1.trans r2)).trans r3
    have e13 : H3 f0 = some (.lst []) := r3 _ _ (by simpa using nf) (r2 _ _ e1)
    walk_at "go"
    refine lc_of (wx_rng (n := m.toNat)) (fun i σ Hx => Rx [p] H Hx ∧ Pu p (n + 1 + 2 * i) Hx ∧ ∃ (xs : List V) (ps : Row) (o3 o4 : Option V), σ = [some (.ref p), some (.ref q), some (.ref f0), o3, o4] ∧ Hx f0 = some (.lst xs) ∧ PrsL Hx xs ps ∧ ps.length = i ∧ (∀ p ∈ ps, p.2.natAbs ≤ 99) ∧ (∀ x ∈ keysR ps, x ∈ zs)) ⟨rx3, p3, [], [], _, _, rfl, e13, .nil, rfl, by simp, by simp [keysR]⟩ (fun _ _ _ _ _ => trivial) ?_ ?_
    · rintro i x σ H4 H5 hi ⟨r4, p4, xs, ps, o3, o4, rfl, ef, pr, el, b99, ks⟩ ⟨rfl, hx⟩
      have hi' : i < m.toNat := by simpa [rngV] using hi
      have hlen := pr.len
      walk_at "go"
      refine s_mk fun w1 H6 hw1 r6 e6 => ?_
      walk_at "go"
      refine ⟨p, _, 12, rfl, p4.same r6, by omega, by decide, by decide, fun j H7 j0 j12 r7 p7 => ?_⟩
      have w1p : w1 ≠ p := p4.ne hw1
      have e67 := r7 _ _ (by simpa using w1p) e6
      obtain ⟨v, hv, hvm, _⟩ := atI_ofI (xs := [V.int 1, .int 1, .int 1, .int (-1), .int (-1), .int 2, .int (-2), .int 3, .int 9, .int (-9), .int 99, .int (-99)]) j0 (by simpa using j12)
      have hvi : ∃ vi : Int, v = .int vi ∧ vi.natAbs ≤ 99 := by
        simp only [List.mem_cons, List.not_mem_nil, or_false] at hvm
        rcases hvm with rfl | rfl | rfl | rfl | rfl | rfl | rfl | rfl | rfl | rfl | rfl | rfl <;> exact ⟨_, rfl, by decide⟩
      obtain ⟨vi, rfl, vb⟩ := hvi
      have r47 := (Rx.same (M := [p]) r6).trans r7
      have ef7 := r47 _ _ (by simpa using nf) ef
      have hq7 : H7 q = some (.lst (zs.map V.str)) := (r4.trans r47) _ _ (by simpa using nq) hq
      walk_at "go"
      refine ⟨p, _, _, rfl, p7, by omega, by rw [List.length_map]; omega, by rw [List.length_map]; omega, fun s H8 s0 s1 r8 p8 => ?_⟩
      rw [List.length_map] at s1
      have hq8 : H8 q = some (.lst (zs.map V.str)) := r8 _ _ (by simpa using nq) hq7
      obtain ⟨sv, hsv, hsm, _⟩ := atI_ofI (xs := zs.map V.str) s0 (by rw [List.length_map]; exact s1)
      obtain ⟨z, hz, rfl⟩ := List.mem_map.mp hsm
      walk_at "go"
      refine s_mk fun tt H9 htt r9 e9 => ?_
      have r49 := r47.trans (r8.trans (Rx.same r9))
      have ef9 : H9 f0 = some (.lst xs) := r49 _ _ (by simpa using nf) ef
      have p9 := p8.same r9
      walk_at "go"
      have fr : H f0 = none := hf
      refine ⟨(r4.trans r49).own fr, (p9.upd nf).mono (by omega), xs ++ [.ref tt], ps ++ [(z, vi)], _, _, rfl, upd_same, ?_, by simp [el], fun y hy => ?_, fun y hy => ?_⟩
      · exact ((pr.tp (Tp.of_pu p4 r49)).app (.cons e9 .nil)).tp (Tp.lst ef9)
      · rcases List.mem_append.mp hy with h | h
        · exact b99 y h
        · have : y = (z, vi) := by simpa using h
          rw [this]
          exact vb
      · unfold keysR at hy
        rw [List.map_append, List.mem_append] at hy
        rcases hy with h | h
        · exact ks y h
        · have : y = z := by simpa using h
          rw [this]
          exact hz
    · rintro σ H4 ⟨r4, p4, xs, ps, o3, o4, rfl, ef, pr, el, b99, ks⟩
      have en : (rngV m.toNat).length = m.toNat := by simp [rngV]
      rw [en] at p4 el
      walk_at "go"
      refine ⟨f0, xs, ps, rfl, SqL.of ef, pr, by omega, b99, fun l2 ys r H5 hl2 r5 e5 pr5 cn kk ln b5 => ?_⟩
      walk_at "go"
      refine ⟨l2, ys, r, rfl, SqL.of e5, pr5, by omega, fun l3 zs3 H6 hl3 r6 e6 pr6 => ?_⟩
      have fr : H l3 = none := by
        rcases hh : H l3 with _ | o
        · rfl
        · have hdp : l3 ≠ p := (p4.same r5).ne hl3
          have := (r4.trans (Rx.same r5)) _ _ (by simpa using hdp) hh
          rw [hl3] at this
          cases this
      refine k l3 zs3 (clampR r) H6 fr (r4.trans (Rx.same (r5.trans r6))) ((p4.same (r5.trans r6)).mono (by omega)) e6 pr6 (clampR_can cn) (fun p hp => ?_) ?_ (fun x hx => ?_)
      · obtain ⟨a, ha, rfl⟩ := List.mem_map.mp hp
        exact clampI_le _
      · unfold clampR
        rw [List.length_map]
        omega
      · rw [clampR_keys] at hx
        exact ks x (kk x hx)

theorem ok__law_name (T : Txt mg) (FC : FormC K mg C) (MU : OwnI K C .Mult) (SC : StmC K mg X_Statement X_If CK) (SW : SupW P K mg file) (FM : FmtC K C) (EF : EF K mg C) (D : At K mg "_law_name" s__law_name) (h__law_take : Has P w K mg base CX0 "_law_take" s__law_take ["_law_purse_here", "_law_many"] 1 spTake) :
    Has P w K mg base CX0 "_law_name" s__law_name ["_law_purse_here"] 2 spNameP := by
  have nd := sc__law_name.nd
  refine has_mk D sc__law_name (fun vs H Q E h => ?len) (fun _ _ _ _ _ _ us hl => match us, hl with | [_], _ => rfl) (fun f cdv A outer s H vs Q E hr hgd h => ?bd)
  case len =>
    obtain ⟨p, n, rfl, _⟩ := h
    rfl
  case bd =>
    obtain ⟨p, n, rfl, pu, hn, k⟩ := h
    refine ⟨_, (pss_cons (ps_set (i := 1) nd rfl (Or.inl rfl) pe_str)
      (pss_cons (ps_set (i := 2) nd rfl (Or.inl rfl) (pe_op o_addS (pv 1) pe_str))
      (pss_cons (ps_set (i := 3) nd rfl (Or.inl rfl) (pe_ix ix_str (pv 1) (peH h__law_take (hr.mono (by decide)) hgd rfl (pa_cons (pv 0) (pa_cons pe_int pa_nil))) (fun _ _ => rfl)))
      (pss_cons (ps_for PassesOwn.never rfl (pi_range1 rfl T.b_range (pa_cons (peH h__law_take (hr.mono (by decide)) hgd rfl (pa_cons (pv 0) (pa_cons pe_int pa_nil))) pa_nil)) (pg_name (i := 4) nd rfl (Or.inl rfl))
      (pss_one (ps_set (i := 3) nd rfl (Or.inl rfl) (pe_op o_addS (pv 3) (pe_ix ix_str (pv 2) (peH h__law_take (hr.mono (by decide)) hgd rfl (pa_cons (pv 0) (pa_cons pe_int pa_nil))) (fun _ _ => rfl))))))
      (pss_one (ps_ret (pe_ifExp (pt_cmpR op_ne (pv 3) pe_str (nomark _)) (pv 3) pe_str))))))), ?_⟩
    refine s_st (σ' := [some (.ref p), none, none, none, none]) rfl ?_
    walk_at "go"
    refine ⟨p, n, 26, rfl, pu, by omega, by decide, by decide, fun i H1 i0 i1 r1 p1 => ?_⟩
    have l26 : (Str.ofString "abcdefghijklmnopqrstuvwxyz").cps.toList.length = 26 := by decide +kernel
    obtain ⟨c, hc, hcm, _⟩ := atI_ofI (xs := (Str.ofString "abcdefghijklmnopqrstuvwxyz").cps.toList) i0 (by rw [l26]; exact i1)
    walk_at "go"
    refine ⟨p, _, 8, rfl, p1, by omega, by decide, by decide, fun m H2 m0 m1 r2 p2 => ?_⟩
    have l36 : (Str.ofString "abcdefghijklmnopqrstuvwxyz" ++ Str.ofString "0123456789").cps.toList.length = 36 := by decide +kernel
    walk_at "go"
    refine lc_of (wx_rng (n := m.toNat)) (fun i σ Hx => Rx [p] H Hx ∧ Pu p (n + 2 + i) Hx ∧ ∃ (z : Str) (cs : List Nat) (o4 : Option V), σ = [some (.ref p), some (.str (Str.ofString "abcdefghijklmnopqrstuvwxyz")), some (.str (Str.ofString "abcdefghijklmnopqrstuvwxyz" ++ Str.ofString "0123456789")), some (.str z), o4] ∧ TL.tl z = c :: cs ∧ cs.length = i ∧ ∀ d ∈ cs, d ∈ (letS ++ digS).cps.toList) ⟨r1.trans r2, p2, ⟨#[c]⟩, [], _, rfl, rfl, rfl, by simp⟩ (fun _ _ _ _ _ => trivial) ?_ ?_
    · rintro i x σ H3 H4 hi ⟨r3, p3, z, cs, o4, rfl, et, el, es⟩ ⟨rfl, hx⟩
      have hi' : i < m.toNat := by simpa [rngV] using hi
      have zl : z.length ≤ 8 := by
        have h1 : z.length = (TL.tl z).length := rfl
        rw [et, List.length_cons] at h1
        omega
      walk_at "go"
      refine ⟨p, _, 36, rfl, p3, by omega, by decide, by decide, fun j H5 j0 j1 r5 p5 => ?_⟩
      obtain ⟨d, hd, hdm, _⟩ := atI_ofI (xs := (Str.ofString "abcdefghijklmnopqrstuvwxyz" ++ Str.ofString "0123456789").cps.toList) j0 (by rw [l36]; exact j1)
      walk_at "go"
      refine s_addS (sz1 (by show z.length + 1 ≤ _; omega)) ?_
      walk_at "go"
      refine ⟨r3.trans r5, by have := p5; rw [show n + 2 + i + 1 = n + 2 + (i + 1) by omega] at this; exact this, z ++ ⟨#[d]⟩, cs ++ [d], _, rfl, by rw [TL.tl_append, et]; rfl, by simp [el], fun x hx => ?_⟩
      rcases List.mem_append.mp hx with h | h
      · exact es x h
      · have : x = d := by simpa using h
        rw [this]
        exact hdm
    · rintro σ H3 ⟨r3, p3, z, cs, o4, rfl, et, el, es⟩
      have en : (rngV m.toNat).length = m.toNat := by simp [rngV]
      rw [en] at p3 el
      walk_at "go"
      refine ite_b (fun e => ?_) (fun e => ?_)
      · walk_at "go"
        exact k z H3 (name_of et (by omega) hcm es (by simpa using e)) r3 (p3.mono (by omega))
      · walk_at "go"
        exact k _ H3 (by decide +kernel) r3 (p3.mono (by omega))

theorem ok__law_other_name (T : Txt mg) (FC : FormC K mg C) (MU : OwnI K C .Mult) (SC : StmC K mg X_Statement X_If CK) (SW : SupW P K mg file) (FM : FmtC K C) (EF : EF K mg C) (D : At K mg "_law_other_name" s__law_other_name) (h__law_name : Has P w K mg base CX0 "_law_name" s__law_name ["_law_purse_here"] 2 spNameP) :
    Has P w K mg base CX0 "_law_other_name" s__law_other_name ["_law_purse_here", "_law_taken"] 3 spOtherP := by
  have nd := sc__law_other_name.nd
  refine has_mk D sc__law_other_name (fun vs H Q E h => ?len) (fun _ _ _ _ _ _ us hl => match us, hl with | [_, _], _ => rfl) (fun f cdv A outer s H vs Q E hr hgd h => ?bd)
  case len =>
    obtain ⟨p, q, n, zs, rfl, _⟩ := h
    rfl
  case bd =>
    obtain ⟨p, q, n, zs, rfl, pu, hn, nq, hq, hz, k⟩ := h
    refine ⟨_, (pss_cons (ps_set (i := 2) nd rfl (Or.inr rfl) (peH h__law_name (hr.mono (by decide)) hgd rfl (pa_cons (pv 0) pa_nil)))
      (pss_cons (ps_set (i := 3) nd rfl (Or.inl rfl) (pe_op op_cat (pe_lst (pa_cons (pv 2) pa_nil)) (pe_lc (own := [("_law_k", 4)]) (g := gName 4) (tt := tYes) rfl nd (pi_range1 rfl T.b_range (pa_cons pe_int pa_nil)) (blkOk_by (N := N__law_other_name) (sc := defScope s__law_other_name) (own := [("_law_k", 4)]) (by decide +kernel)) (fun _ _ _ _ _ => (pg_name (i := 4) nd rfl (Or.inl rfl))) (fun _ _ _ _ _ => pts_nil) (fun _ _ _ _ _ => (pe_op o_addS (pe_slice sl_str (pv 2) po_none (po_some pe_int)) (pe_callTy c_strI rfl T.b_str (by decide +kernel) (pa_cons (pe_op op_add pe_int (pv 4)) pa_nil)))))))
      (pss_one (ps_ret (pe_ix (ixL K) (pe_lc (own := [("_law_each", 5)]) (g := gName 5) rfl nd (piL K (he := (pv 3))) (blkOk_by (N := N__law_other_name) (sc := defScope s__law_other_name) (own := [("_law_each", 5)]) (by decide +kernel)) (fun _ _ _ _ _ => (pg_name (i := 5) nd rfl (Or.inl rfl))) (fun _ _ _ _ _ => (pts_one (pt_cmpR (ninQ K) (pv 5) (pv 1) rfl))) (fun _ _ _ _ _ => (pv 5))) pe_int (fun _ _ => rfl)))))), ?_⟩
    refine s_st (σ' := [some (.ref p), some (.ref q), none, none, none, none]) rfl ?_
    walk_at "go"
    refine ⟨p, n, rfl, pu, by omega, fun nm H1 hnm r1 p1 => ?_⟩
    have hq1 : H1 q = some (.lst (zs.map V.str)) := r1 _ _ (by simpa using nq) hq
    have nml := (name_nm hnm).len
    walk_at "go"
    refine s_mk fun q1 H2 hq1' r2 e2 => ?_
    walk_at "go"
    refine lcP (wx_rng (n := 30)) (fun x => match x with | .int j => .str (cutS nm none (some 5) ++ Str.ofString (toString (100 + j))) | _ => .non) (fun _ _ => trivial) (by simp [rngV]) ?_ gm_name ?_
    · intro y H3 Q1 hy r3 c
      obtain ⟨j, hj, rfl⟩ := List.mem_map.mp hy
      rw [List.mem_range] at hj
      have hts := s3f_len j hj
      have hc5 := len_cut_to nm 5
      refine ⟨rfl, ?_⟩
      walk_at "go"
      refine s_strI (small_log (by omega) (by omega)) ?_
      refine s_addS (sz1 ?_) ?_
      · have h1 : (cutS nm none (some 5)).length ≤ 5 := hc5
        have h2 : (Str.ofString (toString (100 + (j : Int)))).length = 3 := hts
        omega
      exact c _ (Same.refl _)
    · intro D H3 hD r3 e3
      have hmenu : (rngV 30).map (fun x => match x with | .int j => V.str (cutS nm none (some 5) ++ Str.ofString (toString (100 + j))) | _ => .non) = ((List.range 30).map fun (j : Nat) => cutS nm none (some 5) ++ s3f j).map V.str := by
        unfold rngV
        rw [List.map_map, List.map_map]
        rfl
      rw [hmenu] at e3
      refine s_cat (r3 _ _ e2) e3 (sz1 (by simp)) fun m0 H4 hm0 r4 e4 => ?_
      have e4 : H4 m0 = some (.lst ((nm :: (List.range 30).map fun (j : Nat) => cutS nm none (some 5) ++ s3f j).map V.str)) := e4
      have hq4 : H4 q = some (.lst (zs.map V.str)) := (r2.trans (r3.trans r4)) _ _ hq1
      walk_at "go"
      refine lcF (walk_list (xs := (nm :: (List.range 30).map fun (j : Nat) => cutS nm none (some 5) ++ s3f j).map V.str)) (fun x => !inV x (zs.map V.str)) (fun H5 r5 => SqL.of (r5 _ _ e4)) (by simp) (fun _ => rfl) (fun _ => rfl) ?_ ?_
      · intro y H5 Q1 hy r5 c
        obtain ⟨s, hs, rfl⟩ := List.mem_map.mp hy
        walk_at "go"
        refine s_nin (SqL.of (r5 _ _ hq4)) rfl flat_strs ?_
        walk_at "go"
        exact c _ (Same.refl _)
      · intro D2 H5 hD2 r5 e5
        obtain ⟨j, hj, hjn⟩ := pigeon (fun (j : Nat) => cutS nm none (some 5) ++ s3f j) 30 zs (fun i j hi hj e => s3f_inj i j hi hj (app_inj e)) (by omega)
        have hmem : V.str (cutS nm none (some 5) ++ s3f j) ∈ ((nm :: (List.range 30).map fun (j : Nat) => cutS nm none (some 5) ++ s3f j).map V.str).filter (fun x => !inV x (zs.map V.str)) := by
          rw [List.mem_filter]
          refine ⟨List.mem_map.mpr ⟨_, List.mem_cons_of_mem _ (List.mem_map.mpr ⟨j, List.mem_range.mpr hj, rfl⟩), rfl⟩, ?_⟩
          rw [inV_strs, decide_eq_false hjn]
          rfl
        cases hfl : ((nm :: (List.range 30).map fun (j : Nat) => cutS nm none (some 5) ++ s3f j).map V.str).filter (fun x => !inV x (zs.map V.str)) with
        | nil => rw [hfl] at hmem; exact (List.not_mem_nil hmem).elim
        | cons y ys =>
          rw [hfl] at e5
          have hyf := List.mem_filter.mp (show y ∈ _ by rw [hfl]; exact List.mem_cons_self)
          obtain ⟨s, hs, rfl⟩ := List.mem_map.mp hyf.1
          have hsN : nameS s = true := by
            rcases List.mem_cons.mp hs with rfl | hs
            · exact hnm
            · obtain ⟨j, hj, rfl⟩ := List.mem_map.mp hs
              exact name_cut3 hnm (List.mem_range.mp hj)
          have hsz : s ∉ zs := by
            have h1 := hyf.2
            simpa [inV_strs] using h1
          walk_at "go"
          refine s_ixL (SqL.of e5) atI_0 ?_
          have rr := r2.trans (r3.trans (r4.trans r5))
          exact k s H5 hsN hsz (r1.trans (Rx.same rr)) (p1.same rr)

theorem ok__law_names (T : Txt mg) (FC : FormC K mg C) (MU : OwnI K C .Mult) (SC : StmC K mg X_Statement X_If CK) (SW : SupW P K mg file) (FM : FmtC K C) (EF : EF K mg C) (D : At K mg "_law_names" s__law_names) (h__law_other_name : Has P w K mg base CX0 "_law_other_name" s__law_other_name ["_law_purse_here", "_law_taken"] 3 spOtherP) (h__law_take : Has P w K mg base CX0 "_law_take" s__law_take ["_law_purse_here", "_law_many"] 1 spTake) :
    Has P w K mg base CX0 "_law_names" s__law_names ["_law_purse_here", "_law_many"] 4 spNamesP := by
  have nd := sc__law_names.nd
  refine has_mk D sc__law_names (fun vs H Q E h => ?len) (fun _ _ _ _ _ _ us hl => match us, hl with | [_, _], _ => rfl) (fun f cdv A outer s H vs Q E hr hgd h => ?bd)
  case len =>
    obtain ⟨p, n, m, rfl, _⟩ := h
    rfl
  case bd =>
    obtain ⟨p, n, m, rfl, pu, hn, m0, m12, k⟩ := h
    refine ⟨_, (pss_cons (ps_asg (pe_tup (pa_cons (peH h__law_take (hr.mono (by decide)) hgd rfl (pa_cons (pv 0) (pa_cons pe_int pa_nil))) (pa_cons (peH h__law_take (hr.mono (by decide)) hgd rfl (pa_cons (pv 0) (pa_cons pe_int pa_nil))) pa_nil))) (gT K (n := 2) (hc := rfl) (hg := (pgs_cons (pg_name (i := 2) nd rfl (Or.inr rfl)) (pgs_cons (pg_name (i := 3) nd rfl (Or.inr rfl)) pgs_nil)))))
      (pss_cons (ps_set (i := 4) nd rfl (Or.inr rfl) (pe_lst (pa_cons pe_str (pa_cons pe_str (pa_cons pe_str (pa_cons pe_str (pa_cons pe_str (pa_cons pe_str (pa_cons pe_str (pa_cons pe_str (pa_cons pe_str (pa_cons pe_str (pa_cons pe_str (pa_cons pe_str pa_nil))))))))))))))
      (pss_cons (ps_set (i := 5) nd rfl (Or.inr rfl) (pe_lst (pa_cons pe_str (pa_cons pe_str (pa_cons pe_str (pa_cons pe_str (pa_cons pe_str (pa_cons pe_str (pa_cons pe_str (pa_cons pe_str (pa_cons pe_str (pa_cons pe_str (pa_cons pe_str (pa_cons pe_str pa_nil))))))))))))))
      (pss_cons (ps_if (pt_cmpR op_lt (pv 2) pe_int (nomark _)) (pss_one (ps_ret (pe_lc (own := [("_law_k", 7)]) (g := gName 7) (tt := tYes) rfl nd (pi_range1 rfl T.b_range (pa_cons (pv 1) pa_nil)) (blkOk_by (N := N__law_names) (sc := defScope s__law_names) (own := [("_law_k", 7)]) (by decide +kernel)) (fun _ _ _ _ _ => (pg_name (i := 7) nd rfl (Or.inl rfl))) (fun _ _ _ _ _ => pts_nil) (fun _ _ _ _ _ => (pe_ix (ixL K) (pe_ix (ixL K) (pe_lst (pa_cons (pv 4) (pa_cons (pv 5) pa_nil))) (pv 2) (fun _ _ => rfl)) (pe_op op_mod (pe_callTy c_int1 rfl T.b_int (by decide +kernel) (pa_cons (pe_op op_add (pv 3) (pv 7)) pa_nil)) pe_int) (fun _ _ => rfl)))))) pss_nil)
      (pss_cons (ps_set (i := 6) nd rfl (Or.inl rfl) (pe_lst pa_nil))
      (pss_cons (ps_for PassesOwn.never rfl (pi_range1 rfl T.b_range (pa_cons (pv 1) pa_nil)) (pg_name (i := 7) nd rfl (Or.inl rfl))
      (pss_one (ps_expr (appendK K (ho := (pv 6)) (ha := (pa_cons (peH h__law_other_name (hr.mono (by decide)) hgd rfl (pa_cons (pv 0) (pa_cons (pv 6) pa_nil))) pa_nil))))))
      (pss_one (ps_ret (pv 6))))))))), ?_⟩
    refine s_st (σ' := [some (.ref p), some (.int m), none, none, none, none, none, none]) rfl ?_
    walk_at "go"
    refine ⟨p, n, 3, rfl, pu, by omega, by decide, by decide, fun w0 H1 w00 w03 r1 p1 => ?_⟩
    walk_at "go"
    refine ⟨p, _, 12, rfl, p1, by omega, by decide, by decide, fun t0 H2 t00 t12 r2 p2 => ?_⟩
    walk_at "go"
    refine s_mk fun tt H3 htt r3 e3 => ?_
    refine s_g2E (SqT.of e3) (by simp only [List.set_cons_succ, List.set_cons_zero]; rfl) ?_
    walk_at "go"
    refine s_mk fun kl H4 hkl r4 e4 => ?_
    walk_at "go"
    refine s_mk fun wl H5 hwl r5 e5 => ?_
    have r35 := r3.trans (r4.trans r5)
    have p5 := p2.same r35
    have rx5 : Rx [p] H H5 := r1.trans (r2.trans (Rx.same r35))
    have e4 := r5 _ _ e4
    walk_at "go"
    refine ite_b (fun e => ?_) (fun e => ?_)
    · have hw : w0 = 0 ∨ w0 = 1 := by have := of_decide_eq_true e; omega
      obtain ⟨zs, hzs, hno, hnd, hcase⟩ : ∃ zs : List Str, zs.length = 12 ∧ (∀ z ∈ zs, nameS z = true) ∧ zs.Nodup ∧ ((w0 = 0 ∧ zs = knownP) ∨ (w0 = 1 ∧ zs = wordsP)) := by
        rcases hw with rfl | rfl
        · exact ⟨knownP, rfl, known_ok.1, known_ok.2, .inl ⟨rfl, rfl⟩⟩
        · exact ⟨wordsP, rfl, words_ok.1, words_ok.2, .inr ⟨rfl, rfl⟩⟩
      walk_at "go"
      refine lcP (wx_rng (n := m.toNat)) (fun x => match x with | .int j => .str (zs.getD ((t0 + j) % 12).toNat "") | _ => .non) (fun _ _ => trivial) (by simp [rngV]; omega) ?_ gm_name ?_
      · intro y H6 Q1 hy r6 c
        obtain ⟨j, hj, rfl⟩ := List.mem_map.mp hy
        rw [List.mem_range] at hj
        refine ⟨rfl, ?_⟩
        have ix : atI (zs.map V.str) ((t0 + (j : Int)) % 12) = some (.str (zs.getD ((t0 + (j : Int)) % 12).toNat "")) := by
          rw [atI_getD (Int.emod_nonneg _ (by decide)) (by rw [hzs]; omega)]
          rfl
        walk_at "go"
        refine s_mk fun ll H7 hll r7 e7 => ?_
        rcases hcase with ⟨rfl, rfl⟩ | ⟨rfl, rfl⟩
        · have e47 := r7 _ _ (r6 _ _ e4)
          walk_at "go"
          exact c _ r7
        · have e57 := r7 _ _ (r6 _ _ e5)
          walk_at "go"
          exact c _ r7
      · intro D H6 hD r6 e6
        have hmenu : (rngV m.toNat).map (fun x => match x with | .int j => V.str (zs.getD ((t0 + j) % 12).toNat "") | _ => .non) = ((List.range m.toNat).map fun (k : Nat) => zs.getD ((t0 + (k : Int)) % 12).toNat "").map V.str := by
          unfold rngV
          rw [List.map_map, List.map_map]
          rfl
        rw [hmenu] at e6
        have fr : H D = none := by
          rcases hh : H D with _ | o
          · rfl
          · have hdp : D ≠ p := p5.ne hD
            have := rx5 _ _ (by simpa using hdp) hh
            rw [hD] at this
            cases this
        refine k D _ H6 fr (by simp; omega) (fun z hz => ?_) (circle hzs hnd t0 _ (by omega)) (rx5.trans (Rx.same r6)) ((p5.same r6).mono (by omega)) e6
        obtain ⟨j, hj, rfl⟩ := List.mem_map.mp hz
        have hlt : ((t0 + (j : Int)) % 12).toNat < zs.length := by omega
        rw [List.getD_eq_getElem?_getD, List.getElem?_eq_getElem hlt]
        exact hno _ (List.getElem_mem hlt)
    · walk_at "go"
      refine s_mk fun f0 H6 hf r6 e6 => ?_
      have p6 := p5.same r6
      have nf : f0 ≠ p := p5.ne hf
      have fr : H f0 = none := by
        rcases hh : H f0 with _ | o
        · rfl
        · have := rx5 _ _ (by simpa using nf) hh
          rw [hf] at this
          cases this
      walk_at "go"
      refine lc_of (wx_rng (n := m.toNat)) (fun i σ Hx => Rx [p] H Hx ∧ Pu p (n + 2 + 9 * i) Hx ∧ ∃ (zs : List Str) (o7 : Option V), σ = [some (.ref p), some (.int m), some (.int w0), some (.int t0), some (.ref kl), some (.ref wl), some (.ref f0), o7] ∧ Hx f0 = some (.lst (zs.map V.str)) ∧ zs.length = i ∧ (∀ z ∈ zs, nameS z = true) ∧ zs.Nodup) ⟨rx5.trans (Rx.same r6), p6.mono (by omega), [], _, rfl, e6, rfl, by simp, List.nodup_nil⟩ (fun _ _ _ _ _ => trivial) ?_ ?_
      · rintro i x σ H7 H8 hi ⟨r7, p7, zs, o7, rfl, ef, el, hn7, nd7⟩ ⟨rfl, hx⟩
        have hi' : i < m.toNat := by simpa [rngV] using hi
        walk_at "go"
        refine ⟨p, f0, _, zs, rfl, p7, by omega, nf, ef, by omega, fun z H9 hz hzn r9 p9 => ?_⟩
        have ef9 : H9 f0 = some (.lst (zs.map V.str)) := r9 _ _ (by simpa using nf) ef
        have lz : (zs.map V.str).length ≤ 12 := by rw [List.length_map]; omega
        walk_at "go"
        refine ⟨(r7.trans r9).own fr, (p9.upd nf).mono (by omega), zs ++ [z], _, rfl, by rw [upd_same, List.map_append]; rfl, by simp [el], fun y hy => ?_, ?_⟩
        · rcases List.mem_append.mp hy with h | h
          · exact hn7 y h
          · have : y = z := by simpa using h
            rw [this]
            exact hz
        · rw [List.nodup_append]
          refine ⟨nd7, by simp, fun a ha b hb e => hzn ?_⟩
          have : b = z := by simpa using hb
          rw [← this, ← e]
          exact ha
      · rintro σ H7 ⟨r7, p7, zs, o7, rfl, ef, el, hn7, nd7⟩
        have en : (rngV m.toNat).length = m.toNat := by simp [rngV]
        rw [en] at p7 el
        walk_at "go"
        exact k f0 zs H7 fr (by omega) hn7 nd7 r7 p7 ef

theorem ok_Statement__repr_ (T : Txt mg) (FC : FormC K mg C) (MU : OwnI K C .Mult) (SC : StmC K mg X_Statement X_If CK) (SW : SupW P K mg file) (FM : FmtC K C) (EF : EF K mg C) (D : ∀ i, i < 9 → AtM K (CK i) "__repr__" "Statement.__repr__" s_Statement__repr_)  :
    HasD P w K mg base CK 9 "__repr__" ["self"] 1 (spReprS CK C) := by
  have nd := sc_Statement__repr_.nd
  intro i hi
  refine (hasM_mk (sp := ((spReprS CK C)) i) (D i hi) sc_Statement__repr_ (fun vs H Q E h => ?len) (fun _ _ _ _ _ _ us hl => match us, hl with | [_], _ => rfl) (fun f cdv A outer s H vs Q E hr hgd h => ?bd)).toD (n := 9)
  case len =>
    obtain ⟨v, as, rfl, _⟩ := h
    rfl
  case bd =>
    obtain ⟨v, as, rfl, st, hl, k⟩ := h
    have k9 := st.k9
    obtain ⟨a, dx, t, ws, rfl, ha, pa, ht⟩ := st.ex
    have h1 : (Str.ofString "Statement(").length = 10 := by decide +kernel
    have h2 : (Str.ofString ")").length = 1 := by decide +kernel
    have h0 : Str.empty.length = 0 := rfl
    refine ⟨_, (pss_one (ps_ret (pe_joinedN (PJ.cons pe_str (PJ.cons (pe_fmt (pe_ix (ixT K) (fldK K (he := (pv 0))) pe_int (fun _ _ => rfl))) (PJ.cons pe_str PJ.nil)))))), ?_⟩
    refine s_st (σ' := [some (.ref a)]) rfl ?_
    walk_at "go"
    refine s_fldE ha (SC.cls k9) (SC.naL k9) lines_at ?_
    walk_at "go"
    rw [emp_app]
    exact k

theorem ok_Statement__str_ (T : Txt mg) (FC : FormC K mg C) (MU : OwnI K C .Mult) (SC : StmC K mg X_Statement X_If CK) (SW : SupW P K mg file) (FM : FmtC K C) (EF : EF K mg C) (D : ∀ i, i < 9 → AtM K (CK i) "__str__" "Statement.__str__" s_Statement__str_)  :
    HasD P w K mg base CK 9 "__str__" ["self"] 1 (spStrS CK C) := by
  have nd := sc_Statement__str_.nd
  intro i hi
  refine (hasM_mk (sp := ((spStrS CK C)) i) (D i hi) sc_Statement__str_ (fun vs H Q E h => ?len) (fun _ _ _ _ _ _ us hl => match us, hl with | [_], _ => rfl) (fun f cdv A outer s H vs Q E hr hgd h => ?bd)).toD (n := 9)
  case len =>
    obtain ⟨v, as, rfl, _⟩ := h
    rfl
  case bd =>
    obtain ⟨v, as, rfl, st, hl, k⟩ := h
    have k9 := st.k9
    obtain ⟨a, dx, t, ws, rfl, ha, pa, ht⟩ := st.ex
    refine ⟨_, (pss_one (ps_ret (joinK K (ho := pe_str) (he := (fldK K (he := (pv 0))))))), ?_⟩
    refine s_st (σ' := [some (.ref a)]) rfl ?_
    walk_at "go"
    refine s_fldE ha (SC.cls k9) (SC.naL k9) lines_at ?_
    refine ⟨_, t, [lineS i as], rfl, rfl, .inr (SqT.of ht), ?_, ?_⟩
    · have h1 : (Str.ofString "\n").length = 1 := by decide +kernel
      simp only [List.map_cons, List.map_nil, List.sum_cons, List.sum_nil, List.length_cons, List.length_nil, h1]
      omega
    · have e : Txt.join (Str.ofString "\n") [lineS i as] = lineS i as := join_one _ _
      rw [e]
      exact k

theorem ok__law_sorts (T : Txt mg) (FC : FormC K mg C) (MU : OwnI K C .Mult) (SC : StmC K mg X_Statement X_If CK) (SW : SupW P K mg file) (FM : FmtC K C) (EF : EF K mg C) (D : At K mg "_law_sorts" s__law_sorts) :
    Has P w K mg base CX0 "_law_sorts" s__law_sorts ["_law_made"] 1 (spSortS CK C) := by
  have nd := sc__law_sorts.nd
  refine has_mk D sc__law_sorts (fun vs H Q E h => ?len) (fun _ _ _ _ _ _ us hl => match us, hl with | [_], _ => rfl) (fun f cdv A outer s H vs Q E hr hgd h => ?bd)
  case len =>
    obtain ⟨v, k, as, rfl, _⟩ := h
    rfl
  case bd =>
    obtain ⟨v, k, as, rfl, st, kont⟩ := h
    have k9 := st.k9
    obtain ⟨a, dx, t, ws, rfl, ha, pa, ht⟩ := st.ex
    refine ⟨_, (pss_cons (ps_set (i := 1) nd rfl (Or.inl rfl) (pe_lst (pa_cons (pe_callB (isiK K) rfl T.b_isinstance (by decide +kernel) (pa_cons (pv 0) (pa_cons (pe_glob (v := .ref (CK 0)) rfl (SC.gl 0 (by decide)) rfl) pa_nil))) (pa_cons (pe_callB (isiK K) rfl T.b_isinstance (by decide +kernel) (pa_cons (pv 0) (pa_cons (pe_glob (v := .ref (CK 1)) rfl (SC.gl 1 (by decide)) rfl) pa_nil))) (pa_cons (pe_callB (isiK K) rfl T.b_isinstance (by decide +kernel) (pa_cons (pv 0) (pa_cons (pe_glob (v := .ref (CK 2)) rfl (SC.gl 2 (by decide)) rfl) pa_nil))) (pa_cons (pe_callB (isiK K) rfl T.b_isinstance (by decide +kernel) (pa_cons (pv 0) (pa_cons (pe_glob (v := .ref (CK 3)) rfl (SC.gl 3 (by decide)) rfl) pa_nil))) pa_nil))))))
      (pss_cons (ps_set (i := 1) nd rfl (Or.inl rfl) (pe_op op_cat (pv 1) (pe_lst (pa_cons (pe_callB (isiK K) rfl T.b_isinstance (by decide +kernel) (pa_cons (pv 0) (pa_cons (pe_glob (v := .ref (CK 4)) rfl (SC.gl 4 (by decide)) rfl) pa_nil))) (pa_cons (pe_callB (isiK K) rfl T.b_isinstance (by decide +kernel) (pa_cons (pv 0) (pa_cons (pe_glob (v := .ref (CK 5)) rfl (SC.gl 5 (by decide)) rfl) pa_nil))) (pa_cons (pe_callB (isiK K) rfl T.b_isinstance (by decide +kernel) (pa_cons (pv 0) (pa_cons (pe_glob (v := .ref (CK 6)) rfl (SC.gl 6 (by decide)) rfl) pa_nil))) pa_nil))))))
      (pss_one (ps_ret (pe_op op_cat (pv 1) (pe_lst (pa_cons (pe_callB (isiK K) rfl T.b_isinstance (by decide +kernel) (pa_cons (pv 0) (pa_cons (pe_glob (v := .ref (CK 7)) rfl (SC.gl 7 (by decide)) rfl) pa_nil))) (pa_cons (pe_callB (isiK K) rfl T.b_isinstance (by decide +kernel) (pa_cons (pv 0) (pa_cons (pe_glob (v := .ref (CK 8)) rfl (SC.gl 8 (by decide)) rfl) pa_nil))) (pa_cons (pe_callB (isiK K) rfl T.b_isinstance (by decide +kernel) (pa_cons (pv 0) (pa_cons (pe_glob (v := .ref X_If) rfl SC.gI rfl) pa_nil))) pa_nil))))))))), ?_⟩
    refine s_st (σ' := [some (.ref a), none]) rfl ?_
    walk_at "go"
    refine SC.isj ha k9 (j := 0) (by decide) ?_
    walk_at "go"
    refine SC.isj ha k9 (j := 1) (by decide) ?_
    walk_at "go"
    refine SC.isj ha k9 (j := 2) (by decide) ?_
    walk_at "go"
    refine SC.isj ha k9 (j := 3) (by decide) ?_
    walk_at "go"
    refine s_mk fun l1 H1 hl1 q1 le1 => ?_
    have ha := q1 _ _ ha
    walk_at "go"
    refine SC.isj ha k9 (j := 4) (by decide) ?_
    walk_at "go"
    refine SC.isj ha k9 (j := 5) (by decide) ?_
    walk_at "go"
    refine SC.isj ha k9 (j := 6) (by decide) ?_
    walk_at "go"
    refine s_mk fun l2 H2 hl2 q2 le2 => ?_
    have le1 := q2 _ _ le1
    refine s_cat le1 le2 (sz1 (by simp)) fun l3 H3 hl3 q3 le3 => ?_
    have ha := q3 _ _ (q2 _ _ ha)
    walk_at "go"
    refine SC.isj ha k9 (j := 7) (by decide) ?_
    walk_at "go"
    refine SC.isj ha k9 (j := 8) (by decide) ?_
    walk_at "go"
    refine SC.isIf ha k9 ?_
    walk_at "go"
    refine s_mk fun l4 H4 hl4 q4 le4 => ?_
    have le3 := q4 _ _ le3
    refine s_cat le3 le4 (sz1 (by simp)) fun D HD hD qD eD => ?_
    refine kont D HD ((q1.trans (q2.trans (q3.trans q4))).free hD) (q1.trans (q2.trans (q3.trans (q4.trans qD)))) ?_
    rw [eD, sorts_eq k]
    rfl

theorem ok__law_one_right (T : Txt mg) (FC : FormC K mg C) (MU : OwnI K C .Mult) (SC : StmC K mg X_Statement X_If CK) (SW : SupW P K mg file) (FM : FmtC K C) (EF : EF K mg C) (D : At K mg "_law_one_right" s__law_one_right) (h_Statement__repr_ : HasD P w K mg base CK 9 "__repr__" ["self"] 1 (spReprS CK C)) (h_Statement__str_ : HasD P w K mg base CK 9 "__str__" ["self"] 1 (spStrS CK C)) (h__law_sorts : Has P w K mg base CX0 "_law_sorts" s__law_sorts ["_law_made"] 1 (spSortS CK C)) :
    Has P w K mg base CX0 "_law_one_right" s__law_one_right ["_law_made", "_law_line", "_law_spot"] 4 (spOneS CK C) := by
  have nd := sc__law_one_right.nd
  refine has_mk D sc__law_one_right (fun vs H Q E h => ?len) (fun _ _ _ _ _ _ us hl => match us, hl with | [_, _, _], _ => rfl) (fun f cdv A outer s H vs Q E hr hgd h => ?bd)
  case len =>
    obtain ⟨v, n, as, rfl, _⟩ := h
    rfl
  case bd =>
    obtain ⟨v, n, as, rfl, n0, n10, st, hl, kont⟩ := h
    have k9 := st.k9
    have az := st.ascL
    generalize hk : kOf n = k at st hl k9 az kont
    obtain ⟨ws', hsp⟩ := line_split k9 as
    obtain ⟨uW, hW⟩ := SC.con k k9
    have wo := stW_ok k
    have aw : asc (stW k) := by
      unfold stW
      split <;> decide +kernel
    obtain ⟨a, dx, t, ws, rfl, ha, pa, ht⟩ := id st.ex
    generalize hz : lineS k as = z at ht hl hsp az
    have c1 : (Str.ofString "Statement(").length = 10 := by decide +kernel
    have c2 : (Str.ofString ")").length = 1 := by decide +kernel
    refine ⟨_, (pss_cons (ps_set (i := 3) nd rfl (Or.inl rfl) (pe_ix (ixL K) (pe_splitN (pv 1) pe_str) pe_int (fun _ _ => rfl)))
      (pss_cons (ps_if (pt_cmpR op_ne (pe_callB (reprK K (hgd := hgd) (hu := hr.units)) rfl T.b_repr (by decide +kernel) (pa_cons (pe_lst (pa_cons (fldK K (he := (pv 0))) (pa_cons (pe_callTy (strD h_Statement__str_ (hr.mono (by decide)) hgd) rfl T.b_str (by decide +kernel) (pa_cons (pv 0) pa_nil)) (pa_cons (pe_callB (reprD h_Statement__repr_ (hr.mono (by decide)) hgd) rfl T.b_repr (by decide +kernel) (pa_cons (pv 0) pa_nil)) (pa_cons (conK K (he := (pv 0))) pa_nil))))) pa_nil)) (pe_callB (reprK K (hgd := hgd) (hu := hr.units)) rfl T.b_repr (by decide +kernel) (pa_cons (pe_lst (pa_cons (pe_tup (pa_cons (pv 1) pa_nil)) (pa_cons (pv 1) (pa_cons (pe_op o_addS (pe_op o_addS pe_str (pv 1)) pe_str) (pa_cons (pv 3) pa_nil))))) pa_nil)) (nomark _)) (pss_one (ps_ret pe_bl)) pss_nil)
      (pss_cons (ps_setLc (i := 4) (own := [("_law_k", 5)]) (g := gName 5) (tt := tYes) rfl nd rfl rfl (sw_true rfl rfl rfl (by decide +kernel)) (pi_range1 rfl T.b_range (pa_cons pe_int pa_nil)) (blkOk_by (N := N__law_one_right) (sc := defScope s__law_one_right) (own := [("_law_k", 5)]) (by decide +kernel)) (fun _ _ _ _ _ => (pg_name (i := 5) nd rfl (Or.inl rfl))) (fun _ _ _ _ _ => pts_nil) (fun _ _ _ _ _ => (pe_or (pe_cmpR op_eq (pv 5) (pe_ifExp (pt_cmpR op_eq (pv 2) pe_int (nomark _)) pe_int (pv 2)) (nomark _)) (pe_one (pe_and (pe_cmpR op_eq (pv 5) pe_int (nomark _)) (pe_one (pe_cmpR (inQ K) (pv 2) (pe_lst (pa_cons pe_int (pa_cons pe_int (pa_cons pe_int pa_nil)))) rfl)))))))
      (pss_one (ps_ret (pe_and (pe_callB (isiK K) rfl T.b_isinstance (by decide +kernel) (pa_cons (pv 0) (pa_cons (pe_glob (v := .ref X_Statement) rfl SC.at_ rfl) pa_nil))) (pe_one (pe_cmpR (eqPK K (hu := hr.units)) (peH h__law_sorts (hr.mono (by decide)) hgd rfl (pa_cons (pv 0) pa_nil)) (pv 4) (nomark _))))))))), ?_⟩
    refine s_st (σ' := [some (.ref a), some (.str z), some (.int n), none, none, none]) rfl ?_
    walk_at "go"
    refine s_splitE (by decide +kernel) (sz1 (by omega)) fun p H1 hp r1 e1 => ?_
    rw [hsp] at e1
    have ha := r1 _ _ ha
    have ht := r1 _ _ ht
    have st := st.same r1
    walk_at "go"
    refine s_ixL (SqL.of e1) atI_0 ?_
    walk_at "go"
    refine s_fldE ha (SC.cls k9) (SC.naL k9) lines_at ?_
    walk_at "go"
    refine ⟨a, k, rfl, ⟨k9, dx, _, ha⟩, .ref a, as, rfl, st, by rw [hz]; exact hl, ⟨_, rfl⟩, ?_⟩
    rw [hz]
    walk_at "go"
    refine ⟨a, k, rfl, ⟨k9, dx, _, ha⟩, .ref a, as, rfl, st, by rw [hz]; exact hl, ⟨_, rfl⟩, ?_⟩
    rw [hz]
    walk_at "go"
    refine ⟨a, CK k, dx, _, .str (stW k), uW, rfl, ha, SC.cls k9, hW, wordS_at, ?_⟩
    walk_at "go"
    refine s_mk fun l1 H2 hl1 r2 e2 => ?_
    have ht := r2 _ _ ht
    walk_at "go"
    refine s_reprOne e2 ht az hl aw wo.2 ?_
    walk_at "go"
    refine s_mk fun t2 H3 ht2 r3 e3 => ?_
    walk_at "go"
    refine s_mk fun l2 H4 hl2 r4 e4 => ?_
    walk_at "go"
    refine s_reprOne e4 (r4 _ _ e3) az hl aw wo.2 ?_
    walk_at "go"
    refine ite_f (by simp) ?_
    walk_at "go"
    have r04 := r1.trans (r2.trans (r3.trans r4))
    refine lcP (wx_rng (n := 10)) (fun x => match x with | .int j => .bl (sortB k j.toNat) | _ => .non) (fun _ _ => trivial) (by simp [rngV]) ?_ gm_name ?_
    · intro y H5 Q1 hy r5 c
      obtain ⟨j, hj, rfl⟩ := List.mem_map.mp hy
      rw [List.mem_range] at hj
      refine ⟨rfl, ?_⟩
      have c : ∀ H2, Same H5 H2 → Q1 (.bl (decide ((j : Int) = if n = 9 then 1 else n) || (decide ((j : Int) = 1) && decide (n = 2 ∨ n = 3 ∨ n = 4)))) H2 := fun H2 s => by
        rw [← due_kind n0 n10 hj, hk]
        exact c H2 s
      have cc : ∀ (b : Bool), b = (decide ((j : Int) = if n = 9 then 1 else n) || (decide ((j : Int) = 1) && decide (n = 2 ∨ n = 3 ∨ n = 4))) → ∀ H2, Same H5 H2 → Q1 (.bl b) H2 := by
        rintro _ rfl H2 s
        exact c H2 s
      walk_at "go"
      refine ite_b (fun e => ?_) (fun e => ?_)
      · have e9 : n = 9 := by simpa using e
        walk_at "go"
        refine ite_b (fun e1 => ?_) (fun e1 => ?_)
        · have j1 : (j : Int) = 1 := by simpa using e1
          exact cc _ (by simp [j1, e9]) _ (Same.refl _)
        · have j1 : (j : Int) ≠ 1 := by simpa using e1
          walk_at "go"
          refine ite_b (fun e2 => ?_) (fun e2 => ?_)
          · have j2 : (j : Int) = 1 := by simpa using e2
            walk_at "go"
            refine s_mk fun ml H6 hml r6 e6 => ?_
            walk_at "go"
            refine s_in (SqL.of e6) rfl rfl ?_
            have ei : inV (.int n) [.int 2, .int 3, .int 4] = decide (n = 2 ∨ n = 3 ∨ n = 4) := by
              unfold inV
              simp only [List.any_cons, List.any_nil, Bool.or_false]
              show ((2 == n) || ((3 == n) || (4 == n))) = _
              exact Bool.eq_iff_iff.mpr (by simp; omega)
            rw [ei]
            exact cc _ (by simp [j1, j2, e9]; try omega) _ r6
          · have j2 : (j : Int) ≠ 1 := by simpa using e2
            walk_at "go"
            exact cc _ (by simp [j1, j2, e9]) _ (Same.refl _)
      · have e9 : n ≠ 9 := by simpa using e
        walk_at "go"
        refine ite_b (fun e1 => ?_) (fun e1 => ?_)
        · have j1 : (j : Int) = n := by simpa using e1
          exact cc _ (by simp [j1, e9]) _ (Same.refl _)
        · have j1 : (j : Int) ≠ n := by simpa using e1
          walk_at "go"
          refine ite_b (fun e2 => ?_) (fun e2 => ?_)
          · have j2 : (j : Int) = 1 := by simpa using e2
            walk_at "go"
            refine s_mk fun ml H6 hml r6 e6 => ?_
            walk_at "go"
            refine s_in (SqL.of e6) rfl rfl ?_
            have ei : inV (.int n) [.int 2, .int 3, .int 4] = decide (n = 2 ∨ n = 3 ∨ n = 4) := by
              unfold inV
              simp only [List.any_cons, List.any_nil, Bool.or_false]
              show ((2 == n) || ((3 == n) || (4 == n))) = _
              exact Bool.eq_iff_iff.mpr (by simp; omega)
            rw [ei]
            exact cc _ (by simp [j1, j2, e9]; try omega) _ r6
          · have j2 : (j : Int) ≠ 1 := by simpa using e2
            walk_at "go"
            exact cc _ (by simp [j1, j2, e9]) _ (Same.refl _)
    · intro D H5 hD r5 e5
      have hmenu : (rngV 10).map (fun x => match x with | .int j => V.bl (sortB k j.toNat) | _ => .non) = ((List.range 10).map fun (j : Nat) => sortB k j).map V.bl := by
        unfold rngV
        rw [List.map_map, List.map_map]
        rfl
      rw [hmenu] at e5
      have st := st.same (r2.trans (r3.trans (r4.trans r5)))
      have ha := (r2.trans (r3.trans (r4.trans r5))) _ _ ha
      walk_at "go"
      refine SC.isi ha k9 ?_
      walk_at "go"
      refine ⟨.ref a, k, as, rfl, st, fun D2 H6 hD2 r6 e6 => ?_⟩
      have e5 := r6 _ _ e5
      walk_at "go"
      have e6 : H6 D2 = some (.lst (((List.range 10).map fun (j : Nat) => sortB k j).map V.bl)) := by
        rw [e6, List.map_map]
        rfl
      refine s_eqBls e6 e5 ?_
      exact kont _ (r04.trans (r5.trans r6))

theorem ok__law_say (T : Txt mg) (FC : FormC K mg C) (MU : OwnI K C .Mult) (SC : StmC K mg X_Statement X_If CK) (SW : SupW P K mg file) (FM : FmtC K C) (EF : EF K mg C) (D : At K mg "_law_say" s__law_say) :
    Has P w K mg base CX0 "_law_say" s__law_say ["_law_terms"] 1 (spTextL K) := by
  have nd := sc__law_say.nd
  refine has_mk D sc__law_say (fun vs H Q E h => ?len) (fun _ _ _ _ _ _ us hl => match us, hl with | [_], _ => rfl) (fun f cdv A outer s H vs Q E hr hgd h => ?bd)
  case len =>
    obtain ⟨l, xs, q, rfl, _⟩ := h
    rfl
  case bd =>
    obtain ⟨l, xs, q, rfl, hl, hp, rb, k⟩ := h
    refine ⟨_, (pss_cons (ps_set (i := 1) nd rfl (Or.inl rfl) pe_str)
      (pss_cons (ps_for PassesOwn.never rfl (piL K (he := (pv 0))) (gT K (n := 2) (hc := rfl) (hg := (pgs_cons (pg_name (i := 2) nd rfl (Or.inl rfl)) (pgs_cons (pg_name (i := 3) nd rfl (Or.inl rfl)) pgs_nil))))
      (pss_cons (ps_set (i := 4) nd rfl (Or.inl rfl) (pe_ifExp (pt_cmpR op_eq (pe_callB c_abs rfl T.b_abs (by decide +kernel) (pa_cons (pv 3) pa_nil)) pe_int (nomark _)) (pv 2) (pe_op o_addS (pe_op o_addS (pe_callTy c_strI rfl T.b_str (by decide +kernel) (pa_cons (pe_callB c_abs rfl T.b_abs (by decide +kernel) (pa_cons (pv 3) pa_nil)) pa_nil)) pe_str) (pv 2))))
      (pss_one (ps_if (pt_cmpR op_eq (pv 1) pe_str (nomark _)) (pss_one (ps_set (i := 1) nd rfl (Or.inl rfl) (pe_ifExp (pt_cmpR op_lt (pv 3) pe_int (nomark _)) (pe_op o_addS pe_str (pv 4)) (pv 4)))) (pss_one (ps_set (i := 1) nd rfl (Or.inl rfl) (pe_op o_addS (pe_op o_addS (pv 1) (pe_ifExp (pt_cmpR op_lt (pv 3) pe_int (nomark _)) pe_str pe_str)) (pv 4))))))))
      (pss_one (ps_ret (pe_ifExp (pt_cmpR op_ne (pv 1) pe_str (nomark _)) (pv 1) pe_str))))), ?_⟩
    walk_at "go"
    have hlen := hp.len
    have hq1 := rb.len
    refine lc_of (walk_list (xs := xs)) (fun i σ H2 => H2 = H ∧ ∃ o1 o2 o3, σ = [some (.ref l), some (.str (lineR (q.take i))), o1, o2, o3]) ⟨rfl, _, _, _, by rw [List.take_zero, line_nil]; rfl⟩ (fun i σ H2 _ h => by rw [h.1]; exact hl) ?_ ?_
    · rintro i x σ H2 H3 hi ⟨rfl, o1, o2, o3, rfl⟩ ⟨rfl, hx⟩
      obtain ⟨p, t1, hq, rfl, hpt⟩ := hp.at hx
      have hpq : p ∈ q := List.mem_of_getElem? hq
      have hsy := rb.sym p hpq
      have hbd := rb.bd p hpq
      have hl1 := (sym_len hsy).2
      have hl2 := len_abs hbd
      have hl3 := bd_abs hbd
      have hl4 := len_word hsy hbd
      have hls : (Str.ofString "*").length = 1 := by decide +kernel
      have hlm : (Str.ofString "-").length = 1 := by decide +kernel
      have hl0 : (Str.ofString "").length = 0 := by decide +kernel
      have hl5 : (Str.ofString " - ").length = 3 := by decide +kernel
      have hl6 : (Str.ofString " + ").length = 3 := by decide +kernel
      have hll := line_len (rb.take i)
      have hlt : (q.take i).length ≤ 1000 := by rw [List.length_take]; omega
      have htk := take_snoc hq
      have hne := line_ne (q := q.take i) (rb.take i).sym
      have fin : ∀ z : Str, lineR (q.take i) ++ (if q.take i = [] then partR p else tailR p) = z → H3 = H3 ∧ ∃ o1 o2 o3, [some (V.ref l), some (V.str z), some (V.str p.1), some (V.int p.2), some (V.str (wordR p))] = [some (V.ref l), some (V.str (lineR (q.take (i + 1)))), o1, o2, o3] := by
        rintro z rfl
        rw [htk, line_snoc]
        exact ⟨rfl, _, _, _, rfl⟩
      refine s_g2 (SqT.of hpt) ?_
      with_reducible refine s_seqJ (fun σ' H' => σ' = [some (.ref l), some (.str (lineR (q.take i))), some (.str p.1), some (.int p.2), some (.str (wordR p))] ∧ H' = H3) ?_ (fun N hN => ?_)
      · rintro σ' H' ⟨rfl, rfl⟩
        walk_at "go"
        refine ite_b (fun e => ?_) (fun e => ?_)
        · have e' : q.take i = [] := hne.mp (by simpa using e)
          walk_at "go"
          refine ite_b (fun e2 => ?_) (fun e2 => ?_)
          · walk_at "go"
            refine fin _ ?_
            rw [if_pos e', partR, if_pos (by simpa using e2), e', line_nil]
            exact TL.ext_tl (by rw [TL.tl_append]; rfl)
          · walk_at "go"
            refine fin _ ?_
            rw [if_pos e', partR, if_neg (by simpa using e2), e', line_nil]
            exact TL.ext_tl (by rw [TL.tl_append]; rfl)
        · have e' : ¬ q.take i = [] := fun z => by simp [hne.mpr z] at e
          walk_at "go"
          refine ite_b (fun e2 => ?_) (fun e2 => ?_)
          · walk_at "go"
            refine fin _ ?_
            rw [if_neg e', tailR, if_pos (by simpa using e2)]
            exact TL.ext_tl (by simp only [TL.tl_append, List.append_assoc])
          · walk_at "go"
            refine fin _ ?_
            rw [if_neg e', tailR, if_neg (by simpa using e2)]
            exact TL.ext_tl (by simp only [TL.tl_append, List.append_assoc])
      · walk_at "go"
        refine ite_b (fun e => ?_) (fun e => ?_)
        · walk_at "go"
          refine hN _ _ ⟨?_, rfl⟩
          have e' : absI p.2 = 1 := by simpa [absI] using e
          simp [wordR, e']
        · walk_at "go"
          refine s_strI hl3 ?_
          walk_at "go"
          refine hN _ _ ⟨?_, rfl⟩
          have e' : ¬ absI p.2 = 1 := by simpa [absI] using e
          simp [wordR, e']
          rfl
    · rintro σ H2 ⟨rfl, o1, o2, o3, rfl⟩
      rw [hlen, List.take_of_length_le (Nat.le_refl _)]
      walk_at "go"
      have hne := line_ne (q := q) rb.sym
      refine ite_b (fun e => ?_) (fun e => ?_)
      · have e' : ¬ q = [] := fun z => by simp [hne.mpr z] at e
        walk_at "go"
        rw [text_line, if_neg e'] at k
        exact k
      · have e' : q = [] := hne.mp (by simpa using e)
        walk_at "go"
        rw [text_line, if_pos e'] at k
        exact k

theorem ok__law_unlike (T : Txt mg) (FC : FormC K mg C) (MU : OwnI K C .Mult) (SC : StmC K mg X_Statement X_If CK) (SW : SupW P K mg file) (FM : FmtC K C) (EF : EF K mg C) (D : At K mg "_law_unlike" s__law_unlike) (h_Statement__eq_ : HasD P w K mg base CK 9 "__eq__" ["self", "other"] 1 (spEqS K CK C)) :
    Has P w K mg base CX0 "_law_unlike" s__law_unlike ["_law_made", "_law_line"] 3 (spUnl CK C) := by
  have nd := sc__law_unlike.nd
  refine has_mk D sc__law_unlike (fun vs H Q E h => ?len) (fun _ _ _ _ _ _ us hl => match us, hl with | [_, _], _ => rfl) (fun f cdv A outer s H vs Q E hr hgd h => ?bd)
  case len =>
    obtain ⟨v, x, k, as, rfl, _⟩ := h
    rfl
  case bd =>
    obtain ⟨v, x, k, as, rfl, st, kont⟩ := h
    obtain ⟨a, rfl, hin⟩ := st.ins
    refine ⟨_, (pss_one (ps_ret (pe_cmpR (eqDK K (hu := hr.units)) (pe_lc (own := [("_law_other", 2)]) (g := gName 2) rfl nd (piL K (he := (pe_lst (pa_cons (pv 1) (pa_cons (pe_tup (pa_cons (pv 1) pa_nil)) (pa_cons (pe_lst (pa_cons (pv 1) pa_nil)) (pa_cons pe_non (pa_cons pe_int (pa_cons pe_bl pa_nil))))))))) (blkOk_by (N := N__law_unlike) (sc := defScope s__law_unlike) (own := [("_law_other", 2)]) (by decide +kernel)) (fun _ _ _ _ _ => (pg_name (i := 2) nd rfl (Or.inl rfl))) (fun _ _ _ _ _ => (pts_one (PW.pt (pw_or (pt_cmpR (eqE K h_Statement__eq_ SC.nf eqS_sw (hr.mono (by decide)) hgd) (pv 0) (pv 2) (nomark _)) (pw_or1 (pt_not (pt_cmpR (neE K h_Statement__eq_ SC.nf eqS_sw SC.ne (fun i hi => (SC.fm i hi).mr) (hr.mono (by decide)) hgd) (pv 0) (pv 2) (nomark _)))))))) (fun _ _ _ _ _ => (pv 2))) (pe_lst pa_nil) (nomark _)))), ?_⟩
    refine s_st (σ' := [some (.ref a), some (.str x), none]) rfl ?_
    walk_at "go"
    refine s_mk fun t1 H1 ht1 r1 e1 => ?_
    walk_at "go"
    refine s_mk fun l1 H2 hl1 r2 e2 => ?_
    have e1 := r2 _ _ e1
    walk_at "go"
    refine s_mk fun m1 H3 hm1 r3 e3 => ?_
    have e1 := r3 _ _ e1
    have e2 := r3 _ _ e2
    have st := st.same (r1.trans (r2.trans r3))
    walk_at "go"
    refine lcF (walk_list (xs := [V.str x, .ref t1, .ref l1, .non, .int 0, .bl true])) (fun _ => false) (fun H5 r5 => SqL.of (r5 _ _ e3)) (by simp) (fun _ => rfl) (fun _ => rfl) ?_ ?_
    · intro w H5 Q1 hw r5 c
      have st := st.same r5
      obtain ⟨T, m, kd⟩ : ∃ T ∈ tysB, KindT K H5 w T := by
        simp only [List.mem_cons, List.not_mem_nil, or_false] at hw
        rcases hw with rfl | rfl | rfl | rfl | rfl | rfl
        · exact ⟨_, by decide, .str⟩
        · exact ⟨_, by decide, .tup (r5 _ _ e1)⟩
        · exact ⟨_, by decide, .lst (r5 _ _ e2)⟩
        · exact ⟨_, by decide, .non⟩
        · exact ⟨_, by decide, .int⟩
        · exact ⟨_, by decide, .bl⟩
      obtain ⟨a', e', hin⟩ := st.ins
      cases e'
      walk_at "go"
      refine ⟨a, k, rfl, hin, .bt m kd, .ref a, w, as, rfl, st, .inr ⟨T, m, kd, ?_⟩⟩
      walk_at "go"
      refine ⟨a, k, rfl, hin, .bt m kd, .ref a, w, as, rfl, st, .inr ⟨T, m, kd, false, rfl, ?_⟩⟩
      walk_at "go"
      exact c _ (Same.refl _)
    · intro D H4 hD r4 e4
      walk_at "go"
      refine s_mk fun w1 H5 hw1 r5 e5 => ?_
      have e4 : H5 D = some (.lst (([] : List Str).map V.str)) := by
        have h := r5 _ _ e4
        exact h
      refine s_eqNil e4 e5 (by simp) ?_
      exact kont _ (r1.trans (r2.trans (r3.trans (r4.trans r5))))

theorem ok__law_right (T : Txt mg) (FC : FormC K mg C) (MU : OwnI K C .Mult) (SC : StmC K mg X_Statement X_If CK) (SW : SupW P K mg file) (FM : FmtC K C) (EF : EF K mg C) (D : At K mg "_law_right" s__law_right) (h_Form__repr_ : HasR P w K mg base C "__repr__" ["self"] 1 (spReprF C)) (h_Form_read : HasS P w K mg base C "read" s_Form_read ["text"] 6 (spRead C)) (h_Statement__eq_ : HasD P w K mg base CK 9 "__eq__" ["self", "other"] 1 (spEqS K CK C)) (h__law_arguments : Has P w K mg base CX0 "_law_arguments" s__law_arguments ["_law_made", "_law_spot"] 1 (spArgS CK C)) (h__law_arguments_due : Has P w K mg base CX0 "_law_arguments_due" s__law_arguments_due ["_law_tags", "_law_some", "_law_code", "_law_spot"] 1 (spArgD C)) (h__law_by_name : Has P w K mg base CX0 "_law_by_name" s__law_by_name ["_law_tags", "_law_some", "_law_code"] 6 (spTen CK C)) (h__law_by_place : Has P w K mg base CX0 "_law_by_place" s__law_by_place ["_law_tags", "_law_some", "_law_code"] 6 (spTen CK C)) (h__law_due : Has P w K mg base CX0 "_law_due" s__law_due ["_law_tags", "_law_said", "_law_code"] 1 spDueS) (h__law_form : Has P w K mg base CX0 "_law_form" s__law_form ["_law_purse_here", "_law_symbols"] 2 spFormP) (h__law_names : Has P w K mg base CX0 "_law_names" s__law_names ["_law_purse_here", "_law_many"] 4 spNamesP) (h__law_one_right : Has P w K mg base CX0 "_law_one_right" s__law_one_right ["_law_made", "_law_line", "_law_spot"] 4 (spOneS CK C)) (h__law_say : Has P w K mg base CX0 "_law_say" s__law_say ["_law_terms"] 1 (spTextL K)) (h__law_take : Has P w K mg base CX0 "_law_take" s__law_take ["_law_purse_here", "_law_many"] 1 spTake) (h__law_unlike : Has P w K mg base CX0 "_law_unlike" s__law_unlike ["_law_made", "_law_line"] 3 (spUnl CK C)) :
    Has P w K mg base CX0 "_law_right" s__law_right ["_law_purse_here"] 7 spRight19 := by
  have nd := sc__law_right.nd
  refine has_mk D sc__law_right (fun vs H Q E h => ?len) (fun _ _ _ _ _ _ us hl => match us, hl with | [_], _ => rfl) (fun f cdv A outer s H vs Q E hr hgd h => ?bd)
  case len =>
    obtain ⟨p, rfl, _⟩ := h
    rfl
  case bd =>
    obtain ⟨p, rfl, pu, kont⟩ := h
    refine ⟨_, (pss_cons (ps_asg (pe_tup (pa_cons (peH h__law_names (hr.mono (by decide)) hgd rfl (pa_cons (pv 0) (pa_cons pe_int pa_nil))) (pa_cons (peH h__law_names (hr.mono (by decide)) hgd rfl (pa_cons (pv 0) (pa_cons pe_int pa_nil))) pa_nil))) (gT K (n := 2) (hc := rfl) (hg := (pgs_cons (pg_name (i := 1) nd rfl (Or.inl rfl)) (pgs_cons (pg_name (i := 2) nd rfl (Or.inr rfl)) pgs_nil)))))
      (pss_cons (ps_setLc (i := 3) (own := [("_law_turn", 14)]) (g := gName 14) (tt := tYes) rfl nd rfl rfl (sw_true rfl rfl rfl (by decide +kernel)) (pi_range1 rfl T.b_range (pa_cons pe_int pa_nil)) (blkOk_by (N := N__law_right) (sc := defScope s__law_right) (own := [("_law_turn", 14)]) (by decide +kernel)) (fun _ _ _ _ _ => (pg_name (i := 14) nd rfl (Or.inl rfl))) (fun _ _ _ _ _ => pts_nil) (fun _ _ _ _ _ => (peH h__law_form (hr.mono (by decide)) hgd rfl (pa_cons (pv 0) (pa_cons (pv 2) pa_nil)))))
      (pss_cons (ps_set (i := 4) nd rfl (Or.inl rfl) (pe_ix (ixL K) (pe_lst (pa_cons pe_int (pa_cons pe_int (pa_cons (pe_un un_neg pe_int) (pa_cons (pe_op op_pow pe_int pe_int) (pa_cons (pe_un un_neg (pe_op op_pow pe_int pe_int)) (pa_cons (pe_op op_sub (peH h__law_take (hr.mono (by decide)) hgd rfl (pa_cons (pv 0) (pa_cons pe_int pa_nil))) pe_int) pa_nil))))))) (peH h__law_take (hr.mono (by decide)) hgd rfl (pa_cons (pv 0) (pa_cons pe_int pa_nil))) (fun _ _ => rfl)))
      (pss_cons (ps_setLc (i := 5) (own := [("_law_each", 15)]) (g := gName 15) (tt := tYes) rfl nd rfl rfl (sw_true rfl rfl rfl (by decide +kernel)) (piL K (he := (pv 3))) (blkOk_by (N := N__law_right) (sc := defScope s__law_right) (own := [("_law_each", 15)]) (by decide +kernel)) (fun _ _ _ _ _ => (pg_name (i := 15) nd rfl (Or.inl rfl))) (fun _ _ _ _ _ => pts_nil) (fun _ _ _ _ _ => (peH h__law_say (hr.mono (by decide)) hgd rfl (pa_cons (pv 15) pa_nil))))
      (pss_cons (ps_par (i := 6) (j := 7) (by rfl) nd rfl rfl (by decide) rfl rfl (pa_cons (pe_lc (own := [("_law_line", 16)]) (g := gName 16) (tt := tYes) rfl nd (piL K (he := (pv 5))) (blkOk_by (N := N__law_right) (sc := defScope s__law_right) (own := [("_law_line", 16)]) (by decide +kernel)) (fun _ _ _ _ _ => (pg_name (i := 16) nd rfl (Or.inl rfl))) (fun _ _ _ _ _ => pts_nil) (fun _ _ _ _ _ => (peHS h_Form_read (hr.mono (by decide)) hgd (pe_glob (v := .ref C) rfl FC.at_ rfl) (pa_cons (pv 16) pa_nil)))) (pa_cons (pe_lc (own := [("_law_line", 16)]) (g := gName 16) (tt := tYes) rfl nd (piL K (he := (pv 5))) (blkOk_by (N := N__law_right) (sc := defScope s__law_right) (own := [("_law_line", 16)]) (by decide +kernel)) (fun _ _ _ _ _ => (pg_name (i := 16) nd rfl (Or.inl rfl))) (fun _ _ _ _ _ => pts_nil) (fun _ _ _ _ _ => (peHS h_Form_read (hr.mono (by decide)) hgd (pe_glob (v := .ref C) rfl FC.at_ rfl) (pa_cons (pv 16) pa_nil)))) pa_nil)) (by rfl))
      (pss_cons (ps_par (i := 8) (j := 9) (by rfl) nd rfl rfl (by decide) rfl rfl (pa_cons (peH h__law_by_place (hr.mono (by decide)) hgd rfl (pa_cons (pv 1) (pa_cons (pv 6) (pa_cons (pv 4) pa_nil)))) (pa_cons (peH h__law_by_name (hr.mono (by decide)) hgd rfl (pa_cons (pv 1) (pa_cons (pv 7) (pa_cons (pv 4) pa_nil)))) pa_nil)) (by rfl))
      (pss_cons (ps_set (i := 10) nd rfl (Or.inl rfl) (peH h__law_due (hr.mono (by decide)) hgd rfl (pa_cons (pv 1) (pa_cons (pv 5) (pa_cons (pv 4) pa_nil)))))
      (pss_cons (ps_for PassesOwn.never rfl (pi_range1 rfl T.b_range (pa_cons pe_int pa_nil)) (pg_name (i := 11) nd rfl (Or.inl rfl))
      (pss_cons (ps_if (PW.pt (pw_or (pt_not (pt_val (peH h__law_one_right (hr.mono (by decide)) hgd rfl (pa_cons (pe_ix (ixL K) (pv 8) (pv 11) (fun _ _ => rfl)) (pa_cons (pe_ix (ixL K) (pv 10) (pv 11) (fun _ _ => rfl)) (pa_cons (pv 11) pa_nil)))))) (pw_or1 (pt_not (pt_val (peH h__law_one_right (hr.mono (by decide)) hgd rfl (pa_cons (pe_ix (ixL K) (pv 9) (pv 11) (fun _ _ => rfl)) (pa_cons (pe_ix (ixL K) (pv 10) (pv 11) (fun _ _ => rfl)) (pa_cons (pv 11) pa_nil))))))))) (pss_one (ps_ret pe_bl)) pss_nil)
      (pss_cons (ps_if (pt_cmpR op_ne (pe_callB (callLs K (HasR.rpb h_Form__repr_ (hr.mono (by decide))) hgd) rfl T.b_repr (by decide +kernel) (pa_cons (peH h__law_arguments (hr.mono (by decide)) hgd rfl (pa_cons (pe_ix (ixL K) (pv 8) (pv 11) (fun _ _ => rfl)) (pa_cons (pv 11) pa_nil))) pa_nil)) (pe_callB (callLs K (HasR.rpb h_Form__repr_ (hr.mono (by decide))) hgd) rfl T.b_repr (by decide +kernel) (pa_cons (peH h__law_arguments_due (hr.mono (by decide)) hgd rfl (pa_cons (pv 1) (pa_cons (pv 6) (pa_cons (pv 4) (pa_cons (pv 11) pa_nil))))) pa_nil)) (nomark _)) (pss_one (ps_ret pe_bl)) pss_nil)
      (pss_cons (ps_if (pt_cmpR op_ne (pe_callB (callLs K (HasR.rpb h_Form__repr_ (hr.mono (by decide))) hgd) rfl T.b_repr (by decide +kernel) (pa_cons (peH h__law_arguments (hr.mono (by decide)) hgd rfl (pa_cons (pe_ix (ixL K) (pv 9) (pv 11) (fun _ _ => rfl)) (pa_cons (pv 11) pa_nil))) pa_nil)) (pe_callB (callLs K (HasR.rpb h_Form__repr_ (hr.mono (by decide))) hgd) rfl T.b_repr (by decide +kernel) (pa_cons (peH h__law_arguments_due (hr.mono (by decide)) hgd rfl (pa_cons (pv 1) (pa_cons (pv 7) (pa_cons (pv 4) (pa_cons (pv 11) pa_nil))))) pa_nil)) (nomark _)) (pss_one (ps_ret pe_bl)) pss_nil)
      (pss_cons (ps_for PassesOwn.never rfl (pi_range1 rfl T.b_range (pa_cons pe_int pa_nil)) (pg_name (i := 12) nd rfl (Or.inl rfl))
      (pss_cons (ps_set (i := 13) nd rfl (Or.inl rfl) (pe_lst (pa_cons (pe_cmpR (eqE K h_Statement__eq_ SC.nf eqS_sw (hr.mono (by decide)) hgd) (pe_ix (ixL K) (pv 8) (pv 11) (fun _ _ => rfl)) (pe_ix (ixL K) (pv 9) (pv 12) (fun _ _ => rfl)) (nomark _)) (pa_cons (pe_cmpR (neE K h_Statement__eq_ SC.nf eqS_sw SC.ne (fun i hi => (SC.fm i hi).mr) (hr.mono (by decide)) hgd) (pe_ix (ixL K) (pv 8) (pv 11) (fun _ _ => rfl)) (pe_ix (ixL K) (pv 9) (pv 12) (fun _ _ => rfl)) (nomark _)) pa_nil))))
      (pss_one (ps_if (pt_cmpR op_ne (pe_callB (reprK K (hgd := hgd) (hu := hr.units)) rfl T.b_repr (by decide +kernel) (pa_cons (pv 13) pa_nil)) (pe_callB (reprK K (hgd := hgd) (hu := hr.units)) rfl T.b_repr (by decide +kernel) (pa_cons (pe_lst (pa_cons (pe_cmpR op_eq (pe_ix (ixL K) (pv 10) (pv 11) (fun _ _ => rfl)) (pe_ix (ixL K) (pv 10) (pv 12) (fun _ _ => rfl)) (nomark _)) (pa_cons (pe_cmpR op_ne (pe_ix (ixL K) (pv 10) (pv 11) (fun _ _ => rfl)) (pe_ix (ixL K) (pv 10) (pv 12) (fun _ _ => rfl)) (nomark _)) pa_nil))) pa_nil)) (nomark _)) (pss_one (ps_ret pe_bl)) pss_nil))))
      (pss_one (ps_if (pt_not (pt_val (peH h__law_unlike (hr.mono (by decide)) hgd rfl (pa_cons (pe_ix (ixL K) (pv 8) (pv 11) (fun _ _ => rfl)) (pa_cons (pe_ix (ixL K) (pv 10) (pv 11) (fun _ _ => rfl)) pa_nil))))) (pss_one (ps_ret pe_bl)) pss_nil)))))))
      (pss_one (ps_ret pe_bl)))))))))), ?_⟩
    refine s_st (σ' := [some (.ref p), none, none, none, none, none, none, none, none, none, none, none, none, none, none, none, none]) rfl ?_
    walk_at "go"
    refine ⟨p, 0, 2, rfl, pu, by decide, by decide, by decide, fun tg zs H1 htg hzl hzn _ r1 p1 etg => ?_⟩
    walk_at "go"
    refine ⟨p, _, 5, rfl, p1, by decide, by decide, by decide, fun sy ys H2 hsy hyl hyn _ r2 p2 esy => ?_⟩
    have nsy : sy ≠ p := p1.ne hsy
    have ntg : tg ≠ p := pu.ne htg
    have etg := r2 _ _ (by simpa using ntg) etg
    obtain ⟨z, y, rfl⟩ : ∃ z y, zs = [z, y] := by
      match zs, hzl with
      | [z, y], _ => exact ⟨z, y, rfl⟩
    have nz := hzn z (by simp)
    have ny := hzn y (by simp)
    walk_at "go"
    refine s_mk fun tt H3 htt r3 e3 => ?_
    refine s_g2E (SqT.of e3) (by simp only [List.set_cons_succ, List.set_cons_zero]; rfl) ?_
    have rr : Rx [p] H H3 := r1.trans (r2.trans (Rx.same r3))
    have p3 := (p2.same r3).mono (m := 100) (by decide)
    have etg := r3 _ _ etg
    have esy := r3 _ _ esy
    clear r1 p1 r2 p2 e3 htg hsy pu
    walk_at "go"
    refine lcU (wx_rng (n := 3)) (c := 7) p3 (fun _ b => GoodRow b) TmL tmL_st (fun _ _ => trivial) (by simp [rngV]) ?_ gm_name ?_
    · intro D i x H4 K1 nD hD hx r4 p4 c
      have hi : i < 3 := by
        have := (List.getElem?_eq_some_iff.mp hx).1
        simpa [rngV] using this
      have esy := r4 _ _ (by simpa using nsy) esy
      refine ⟨rfl, ?_⟩
      walk_at "go"
      refine ⟨p, sy, _, ys, rfl, p4, by omega, nsy, esy, by omega, by omega, fun l xs row H5 hl r5 p5 el pr cn b99 l3 ks => ?_⟩
      refine c _ H5 row ⟨cn, b99, l3, fun x hx => hyn x (ks x hx)⟩ r5 (p5.mono (by omega)) ⟨l, xs, rfl, ?_, el, pr⟩
      rintro (h | h)
      · exact p4.ne hl h
      · obtain ⟨_, e⟩ := hD
        rw [← h, hl] at e
        cases e
    · intro tm H4 tv rows htm ntm r4 p4 etm prt lt gt
      have etg := r4 _ _ (by simpa using ntg) etg
      have rr := rr.trans r4
      have hl3 : rows.length = 3 := by rw [lt]; simp [rngV]
      obtain ⟨e, g, a, rfl⟩ := three hl3
      have ge := gt 0 _ rfl
      have gg := gt 1 _ rfl
      have ga := gt 2 _ rfl
      have p4 := p4.mono (m := 200) (by simp [rngV])
      clear gt lt r4 p3 esy
      walk_at "go"
      refine ⟨p, _, 1000, rfl, p4, by decide, by decide, by decide, fun c0 H5 c00 c01 r5 p5 => ?_⟩
      have etg := r5 _ _ (by simpa using ntg) etg
      have etm := r5 _ _ (by simpa using ntm) etm
      have prt := paired_mono (fun _ _ z => tmL_st _ _ _ _ _ (fun a u n e => r5 a u (by simpa using fun z => n (.inl z)) e) (Nl.of_pu p4 r5) z) prt
      have rr := rr.trans r5
      walk_at "go"
      refine s_mk fun cl H6 hcl r6 e6 => ?_
      have ncl : cl ≠ p := p5.ne hcl
      have etg := r6 _ _ etg
      have etm := r6 _ _ etm
      have prt := paired_mono (fun _ _ z => tmL_st _ _ _ _ _ (fun a u _ e => r6 a u e) (Nl.of_same r6) z) prt
      have rr := rr.trans (Rx.same r6)
      have p6 := p5.same r6
      walk_at "go"
      refine ⟨p, _, 6, rfl, p6, by decide, by decide, by decide, fun w0 H7 w00 w06 r7 p7 => ?_⟩
      have e6 := r7 _ _ (by simpa using ncl) e6
      have etg := r7 _ _ (by simpa using ntg) etg
      have etm := r7 _ _ (by simpa using ntm) etm
      have prt := paired_mono (fun _ _ z => tmL_st _ _ _ _ _ (fun a u n e => r7 a u (by simpa using fun z => n (.inl z)) e) (Nl.of_pu p6 r7) z) prt
      have rr := rr.trans r7
      obtain ⟨i, hi, hv⟩ : ∃ i : Int, i.natAbs ≤ 10 ^ 39 ∧ atI [V.int 0, .int 7, .int (-1), .int (10 ^ Int.toNat 39), .int (-10 ^ Int.toNat 39), .int (c0 - 500)] w0 = some (.int i) := by
        obtain ⟨v, hv, hm, _⟩ := atI_ofI (xs := [V.int 0, .int 7, .int (-1), .int (10 ^ Int.toNat 39), .int (-10 ^ Int.toNat 39), .int (c0 - 500)]) w00 (by simpa using w06)
        simp only [List.mem_cons, List.not_mem_nil, or_false] at hm
        rcases hm with rfl | rfl | rfl | rfl | rfl | rfl
        · exact ⟨_, by decide +kernel, hv⟩
        · exact ⟨_, by decide +kernel, hv⟩
        · exact ⟨_, by decide +kernel, hv⟩
        · exact ⟨_, by decide +kernel, hv⟩
        · exact ⟨_, by decide +kernel, hv⟩
        · exact ⟨_, Nat.le_trans (show (c0 - 500).natAbs ≤ 1000 by omega) (by decide +kernel), hv⟩
      refine s_ixL (SqL.of e6) hv ?_
      clear e6 hv r5 r6 r7 p4 p5 p6 hcl
      have good : ∀ (i : Nat) b, [e, g, a][i]? = some b → GoodRow b := by
        intro i b h
        match i with
        | 0 => cases h; exact ge
        | 1 => cases h; exact gg
        | 2 => cases h; exact ga
        | i + 3 => simp at h
      have p7 := p7.mono (m := 300) (by decide)
      have tvl := paired_len prt
      walk_at "go"
      refine lcU (walk_list (xs := tv)) (c := 0) p7 (fun i b => [e, g, a][i]? = some b) TxA txA_st (fun H1 r => SqL.of (r _ _ (by simpa using ntm) etm)) (by rw [tvl]; simp) ?_ gm_name ?_
      · intro D j x H8 K1 nD hD hx r8 p8 c
        have prt := paired_mono (fun _ _ z => tmL_st _ _ _ _ _ (fun a u n e => r8 a u (by simpa using fun z => n (.inl z)) e) (Nl.of_pu p7 r8) z) prt
        obtain ⟨b, hb, l, xs, rfl, nl, el, pr⟩ := G.paired_get prt hx
        refine ⟨rfl, ?_⟩
        walk_at "go"
        refine ⟨l, xs, b, rfl, SqL.of el, pr, (good j b hb).rb, ?_⟩
        exact c _ _ b hb (Rx.refl _) (p8.mono (by omega)) rfl
      · intro sd H8 tx bs hsd nsd r8 p8 esd prs ls gs
        obtain rfl : bs = [e, g, a] := ix_eq (by rw [ls, tvl]) gs
        rw [txt_eq prs] at esd
        have etg := r8 _ _ (by simpa using ntg) etg
        have rr := rr.trans r8
        have p8 := p8.mono (m := 400) (by omega)
        clear prs gs ls r8 p7 prt etm tvl hsd
        walk_at "go"
        refine lcU (walk_list (xs := [e, g, a].map fun q => V.str (textR q))) (c := 0) p8 (fun i b => [e, g, a][i]? = some b) (FmA C) (fmA_st C) (fun H1 r => SqL.of (r _ _ (by simpa using nsd) esd)) (by simp) ?_ gm_name ?_
        · intro D j x H9 K1 nD hD hx r9 p9 c
          rw [List.getElem?_map] at hx
          obtain ⟨b, hb, rfl⟩ := Option.map_eq_some_iff.mp hx
          have gb := good j b hb
          refine ⟨rfl, ?_⟩
          walk_at "go"
          refine ⟨rfl, ?_⟩
          walk_at "go"
          refine ⟨b, rfl, gb.1, gb.rb, gb.len, fun v H10 r10 f => ?_⟩
          exact c v H10 b hb (Rx.same r10) ((p9.same r10).mono (by omega)) f
        intro s1 H9 fv bs hs1 ns1 r9 p9 es1 prs ls gs
        obtain rfl : bs = [e, g, a] := ix_eq (by rw [ls]; simp) gs
        obtain ⟨v1, v2, v3, rfl, f1, f2, f3⟩ := fm_three prs
        have etg := r9 _ _ (by simpa using ntg) etg
        have esd := r9 _ _ (by simpa using nsd) esd
        have rr := rr.trans r9
        have p9 := p9.mono (m := 400) (by omega)
        clear prs gs ls r9 p8
        walk_at "go"
        refine lcU (walk_list (xs := [e, g, a].map fun q => V.str (textR q))) (c := 0) p9 (fun i b => [e, g, a][i]? = some b) (FmA C) (fmA_st C) (fun H1 r => SqL.of (r _ _ (by simpa using nsd) esd)) (by simp) ?_ gm_name ?_
        · intro D j x H9b K1 nD hD hx r9b p9b c
          rw [List.getElem?_map] at hx
          obtain ⟨b, hb, rfl⟩ := Option.map_eq_some_iff.mp hx
          have gb := good j b hb
          refine ⟨rfl, ?_⟩
          walk_at "go"
          refine ⟨rfl, ?_⟩
          walk_at "go"
          refine ⟨b, rfl, gb.1, gb.rb, gb.len, fun v H10 r10 f => ?_⟩
          exact c v H10 b hb (Rx.same r10) ((p9b.same r10).mono (by omega)) f
        intro s2 H10 gv bs hs2 ns2 r10 p10 es2 prs ls gs
        obtain rfl : bs = [e, g, a] := ix_eq (by rw [ls]; simp) gs
        obtain ⟨w1, w2, w3, rfl, k1, k2, k3⟩ := fm_three prs
        have etg := r10 _ _ (by simpa using ntg) etg
        have esd := r10 _ _ (by simpa using nsd) esd
        have es1 := r10 _ _ (by simpa using ns1) es1
        have nl := Nb.of_nl (Nl.of_pu p9 r10)
        have F1 : Fm C H10 v1 e := ⟨f1.nb nl, by have := ge.len; omega⟩
        have F2 : Fm C H10 v2 g := ⟨f2.nb nl, by have := gg.len; omega⟩
        have F3 : Fm C H10 v3 a := ⟨f3.nb nl, by have := ga.len; omega⟩
        have G1 : Fm C H10 w1 e := ⟨k1, by have := ge.len; omega⟩
        have G2 : Fm C H10 w2 g := ⟨k2, by have := gg.len; omega⟩
        have G3 : Fm C H10 w3 a := ⟨k3, by have := ga.len; omega⟩
        have rr := rr.trans r10
        have le := F1.2
        have lg := F2.2
        have la := F3.2
        clear prs gs ls p9 p10 f1 f2 f3 k1 k2 k3 nl hs1 hs2 r10 good
        walk_at "go"
        refine ⟨tg, s1, z, y, v1, v2, v3, e, g, a, i, rfl, etg, es1, nz, ny, F1, F2, F3, hi, fun md my J1 hmd q1 emd mpr => ?_⟩
        walk_at "go"
        refine ⟨tg, s2, z, y, w1, w2, w3, e, g, a, i, rfl, q1 _ _ etg, q1 _ _ es2, nz, ny, G1.same q1, G2.same q1, G3.same q1, hi, fun nd2 ny2 J2 hnd q2 ent npr => ?_⟩
        have q12 := q1.trans q2
        have emd := q2 _ _ emd
        have mpr := paired_mono (fun _ _ (z : StQ CK C J1 _ _) => StAt.same q2 z) mpr
        walk_at "go"
        refine ⟨tg, sd, z, y, e, g, a, i, rfl, q12 _ _ etg, q12 _ _ esd, nz, ny, le, lg, la, hi, fun du J3 hdu q3 edu => ?_⟩
        have q13 := q12.trans q3
        have etg := q13 _ _ etg
        have es1 := q13 _ _ es1
        have es2 := q13 _ _ es2
        have F1 := F1.same q13
        have F2 := F2.same q13
        have F3 := F3.same q13
        have G1 := G1.same q13
        have G2 := G2.same q13
        have G3 := G3.same q13
        have emd := q3 _ _ emd
        have mpr := paired_mono (fun _ _ (z : StQ CK C J2 _ _) => StAt.same q3 z) mpr
        have ent := q3 _ _ ent
        have npr := paired_mono (fun _ _ (z : StQ CK C J2 _ _) => StAt.same q3 z) npr
        have rr := rr.trans (Rx.same q13)
        clear q12 q13 q1 q2 q3 esd hmd hnd hdu
        walk_at "go"
        have R0 : R19 CK C J3 tg s1 s2 md nd2 du my ny2 v1 v2 v3 w1 w2 w3 z y e g a i := ⟨etg, es1, es2, F1, F2, F3, G1, G2, G3, emd, mpr, ent, npr, edu⟩
        clear etg es1 es2 F1 F2 F3 G1 G2 G3 emd mpr ent npr edu le lg la ge gg ga
        refine for_it (wx_rng (n := 10)) (fun _ σ' Hx => Same J3 Hx ∧ ∃ o1 o2 o3, σ' = [some (.ref p), some (.ref tg), some (.ref sy), some (.ref tm), some (.int i), some (.ref sd), some (.ref s1), some (.ref s2), some (.ref md), some (.ref nd2), some (.ref du), o1, o2, o3, none, none, none]) ⟨Same.refl _, _, _, _, rfl⟩ (fun _ _ _ _ _ => trivial) ?_ ?_
        · rintro i' x σ' K1 K2 hi' ⟨t1, o1, o2, o3, rfl⟩ ⟨rfl, hx⟩
          obtain ⟨j, hj, rfl⟩ := List.mem_map.mp (List.mem_of_getElem? hx)
          have hj := List.mem_range.mp hj
          obtain ⟨n, hn⟩ : ∃ n : Int, n = (j : Int) := ⟨_, rfl⟩
          rw [← hn]
          have n0 : 0 ≤ n := by omega
          have n10 : n < 10 := by omega
          have R := R0.same t1
          obtain ⟨v, as, av, ht, sv, nas, las, al⟩ := ten_get R.mpr n0 n10
          obtain ⟨v', as', av', ht', sv', _, _, _⟩ := ten_get R.npr n0 n10
          obtain rfl : as = as' := by
            rw [ht] at ht'
            cases ht'
            rfl
          have emd := R.emd
          have ent := R.ent
          have edu := R.edu
          walk_at "go"
          refine ⟨v, n, as, rfl, n0, n10, sv, sv.len, fun K3 u3 => ?_⟩
          have R := R.same u3
          have sv := sv.same u3
          have sv' := sv'.same u3
          have emd := R.emd
          have ent := R.ent
          have edu := R.edu
          walk_at "go"
          refine ⟨v', n, as, rfl, n0, n10, sv', sv'.len, fun K4 u4 => ?_⟩
          have R := R.same u4
          have sv := sv.same u4
          have sv' := sv'.same u4
          have t1 := t1.trans (u3.trans u4)
          have emd := R.emd
          have ent := R.ent
          have edu := R.edu
          walk_at "go"
          refine ⟨v, n, as, rfl, n0, n10, sv, fun D1 ws1 K5 _ u5 eD1 pa1 => ?_⟩
          have R := R.same u5
          walk_at "go"
          refine s_reprArs eD1 pa1 nas las ?_
          walk_at "go"
          refine ⟨tg, s1, z, y, v1, v2, v3, e, g, a, i, n, (kOf n, as), rfl, R.etg, R.es1, nz, ny, R.F1, R.F2, R.F3, hi, n0, n10, ht, fun D2 ws2 K6 _ u6 eD2 pa2 => ?_⟩
          walk_at "go"
          refine s_reprArs eD2 pa2 nas las ?_
          walk_at "go"
          refine ite_f (by simp) ?_
          have R := R.same u6
          have sv := sv.same (u5.trans u6)
          have sv' := sv'.same (u5.trans u6)
          have t1 := t1.trans (u5.trans u6)
          clear u3 u4 u5 u6 eD1 eD2 pa1 pa2
          have emd := R.emd
          have ent := R.ent
          have edu := R.edu
          walk_at "go"
          refine ⟨v', n, as, rfl, n0, n10, sv', fun D1 ws1 K5 _ u5 eD1 pa1 => ?_⟩
          have R := R.same u5
          walk_at "go"
          refine s_reprArs eD1 pa1 nas las ?_
          walk_at "go"
          refine ⟨tg, s2, z, y, w1, w2, w3, e, g, a, i, n, (kOf n, as), rfl, R.etg, R.es2, nz, ny, R.G1, R.G2, R.G3, hi, n0, n10, ht, fun D2 ws2 K6 _ u6 eD2 pa2 => ?_⟩
          walk_at "go"
          refine s_reprArs eD2 pa2 nas las ?_
          walk_at "go"
          refine ite_f (by simp) ?_
          have R := R.same u6
          have sv := sv.same (u5.trans u6)
          have t1 := t1.trans (u5.trans u6)
          clear u5 u6 eD1 eD2 pa1 pa2 sv'
          obtain ⟨a1, rfl, _⟩ := sv.ins
          walk_at "go"
          refine for_it (wx_rng (n := 10)) (fun _ σ' Hx => Same K6 Hx ∧ ∃ o2 o3, σ' = [some (.ref p), some (.ref tg), some (.ref sy), some (.ref tm), some (.int i), some (.ref sd), some (.ref s1), some (.ref s2), some (.ref md), some (.ref nd2), some (.ref du), some (.int n), o2, o3, none, none, none]) ⟨Same.refl _, _, _, rfl⟩ (fun _ _ _ _ _ => trivial) ?_ ?_
          · rintro i2 x2 σ2 N1 N2 hi2 ⟨t2, o4, o5, rfl⟩ ⟨rfl, hx2⟩
            obtain ⟨j2, hj2, rfl⟩ := List.mem_map.mp (List.mem_of_getElem? hx2)
            have hj2 := List.mem_range.mp hj2
            obtain ⟨m, hm⟩ : ∃ m : Int, m = (j2 : Int) := ⟨_, rfl⟩
            rw [← hm]
            have m0 : 0 ≤ m := by omega
            have m10 : m < 10 := by omega
            have R := R.same t2
            have sv := sv.same t2
            obtain ⟨u, bs, au, hu, su, _, _, am⟩ := ten_get R.npr m0 m10
            obtain ⟨_, ea, hin1⟩ := sv.ins
            cases ea
            obtain ⟨a2, rfl, hin2⟩ := su.ins
            have emd := R.emd
            have ent := R.ent
            have edu := R.edu
            walk_at "go"
            refine ⟨a1, _, rfl, hin1, .own hin2, .ref a1, .ref a2, as, rfl, sv, .inl ⟨_, bs, su, ?_⟩⟩
            walk_at "go"
            refine ⟨a1, _, rfl, hin1, .own hin2, .ref a1, .ref a2, as, rfl, sv, .inl ⟨_, bs, su, _, rfl, ?_⟩⟩
            walk_at "go"
            refine s_mk fun tl1 N3 _ u3 etl => ?_
            have R := R.same u3
            have emd := R.emd
            have ent := R.ent
            have edu := R.edu
            walk_at "go"
            refine s_reprBs (bs := [decide (lineS (kOf n) as = lineS (kOf m) bs), !decide (lineS (kOf n) as = lineS (kOf m) bs)]) etl (by simp) ?_
            walk_at "go"
            refine s_mk fun tl2 N4 _ u4 etl2 => ?_
            walk_at "go"
            have etl2 : N4 tl2 = some (.lst ([decide (lineS (kOf n) as = lineS (kOf m) bs), !decide (lineS (kOf n) as = lineS (kOf m) bs)].map V.bl)) := by
              rw [etl2]
              simp
            refine s_reprBs etl2 (by simp) ?_
            walk_at "go"
            refine ite_f (by simp) ?_
            walk_at "go"
            exact ⟨t2.trans (u3.trans u4), _, _, rfl⟩
          · rintro σ2 N1 ⟨t2, o4, o5, rfl⟩
            have R := R.same t2
            have sv := sv.same t2
            have emd := R.emd
            have ent := R.ent
            have edu := R.edu
            walk_at "go"
            refine ⟨.ref a1, _, _, as, rfl, sv, fun N2 u2 => ?_⟩
            walk_at "go"
            exact ⟨t1.trans (t2.trans u2), _, _, _, rfl⟩
        · rintro σ' K1 ⟨t1, o1, o2, o3, rfl⟩
          walk_at "go"
          exact kont _ (rr.trans (Rx.same t1))

theorem ok_law (T : Txt mg) (FC : FormC K mg C) (MU : OwnI K C .Mult) (SC : StmC K mg X_Statement X_If CK) (SW : SupW P K mg file) (FM : FmtC K C) (EF : EF K mg C) (D : At K mg "law" s_law) (h__law_cell : Has P w K mg base CX0 "_law_cell" s__law_cell ["_law_script", "_law_k"] 1 (spCellP K)) (h__law_purse : Has P w K mg base CX0 "_law_purse" s__law_purse ["_law_number"] 1 spPurse) (h__law_right : Has P w K mg base CX0 "_law_right" s__law_right ["_law_purse_here"] 7 spRight19) :
    Has P w K mg base CX0 "law" s_law ["_law_script"] 8 (spLaw K) := by
  have nd := sc_law.nd
  refine has_mk D sc_law (fun vs H Q E h => ?len) (fun _ _ _ _ _ _ us hl => match us, hl with | [_], _ => rfl) (fun f cdv A outer s H vs Q E hr hgd h => ?bd)
  case len =>
    obtain ⟨a, ns, rfl, _⟩ := h
    rfl
  case bd =>
    obtain ⟨a, ns, rfl, hS, hn, k⟩ := h
    refine ⟨_, (pss_one (ps_ret (pe_callB (allK K) rfl T.b_all (by decide +kernel) (pa_cons (pe_lc (own := [("_law_k", 1)]) (g := gName 1) (tt := tYes) rfl nd (pi_range1 rfl T.b_range (pa_cons (pe_callB (c_max2 rfl) rfl T.b_max (by decide +kernel) (pa_cons pe_int (pa_cons (pe_callB (c_min2 rfl) rfl T.b_min (by decide +kernel) (pa_cons (pe_callB (lenK K) rfl T.b_len (by decide +kernel) (pa_cons (pv 0) pa_nil)) (pa_cons pe_int pa_nil))) pa_nil))) pa_nil)) (blkOk_by (N := N_law) (sc := defScope s_law) (own := [("_law_k", 1)]) (by decide +kernel)) (fun _ _ _ _ _ => (pg_name (i := 1) nd rfl (Or.inl rfl))) (fun _ _ _ _ _ => pts_nil) (fun _ _ _ _ _ => (peH h__law_right (hr.mono (by decide)) hgd rfl (pa_cons (peH h__law_purse (hr.mono (by decide)) hgd rfl (pa_cons (peH h__law_cell (hr.mono (by decide)) hgd rfl (pa_cons (pv 0) (pa_cons (pv 1) pa_nil))) pa_nil)) pa_nil)))) pa_nil)))), ?_⟩
    refine s_st (σ' := [some (.ref a), none]) rfl ?_
    walk_at "go"
    rw [List.length_map]
    have hb : ∃ m : Nat, (if (if (6 : Int) < (ns.length : Int) then 6 else (ns.length : Int)) > 2 then (if (6 : Int) < (ns.length : Int) then 6 else (ns.length : Int)) else 2) = (m : Int) ∧ m ≤ 6 := by
      by_cases h6 : (6 : Int) < (ns.length : Int)
      · refine ⟨6, ?_, by omega⟩
        rw [if_pos h6]
        rfl
      · rw [if_neg h6]
        by_cases h2 : (ns.length : Int) > 2
        · rw [if_pos h2]
          exact ⟨ns.length, rfl, by omega⟩
        · rw [if_neg h2]
          exact ⟨2, rfl, by omega⟩
    obtain ⟨m, hm, m6⟩ := hb
    rw [hm]
    walk_at "go"
    refine lcR (wx_rng (n := m)) (fun i => (rngV m)[i]?.map fun _ => true) (fun _ v (b : Bool) => v = .bl b) tpR_eq (fun _ _ => trivial) yat_same (by rw [show (rngV m).length = m by simp [rngV]]; omega) ?_ ?_
    · rintro i x H1 H2 K1 K2 hi r1 ⟨rfl, hx⟩ c1 c2
      have hx' := hx
      obtain ⟨j, hj, rfl⟩ := List.mem_map.mp (List.mem_of_getElem? hx)
      have hj6 : j < m := List.mem_range.mp hj
      refine ⟨rfl, ?_⟩
      walk_at "go"
      refine ⟨a, ns, _, rfl, r1.seq hS, hn, by omega, by omega, fun c H3 r3 => ?_⟩
      walk_at "go"
      refine ⟨_, rfl, fun p H4 hp r4 pu => ?_⟩
      walk_at "go"
      refine ⟨p, rfl, pu, fun H5 r5 => ?_⟩
      refine c1 _ H5 true (by rw [hx']; rfl) ?_ rfl
      intro b o e
      have h4 : H4 b = some o := (r3.trans r4) _ _ e
      refine r5 _ _ ?_ h4
      have hp1 := r3.free hp
      simpa using fun z => by rw [z, hp1] at e; cases e
    · intro D1 H1 ys hD r1 e1 pr
      have pe := paired_eq pr
      rw [pe] at e1
      walk_at "go"
      refine s_all e1 ?_
      have : ((List.range (rngV m).length).filterMap fun i => (rngV m)[i]?.map fun _ => true).all id = true := by
        rw [List.all_eq_true]
        intro b hb
        obtain ⟨i, _, e⟩ := List.mem_filterMap.mp hb
        obtain ⟨_, _, rfl⟩ := Option.map_eq_some_iff.mp e
        rfl
      rw [this]
      exact k _

end
theorem all_mk {P : Program} {w : World} {K : PySem.W.Frag} {h : Heap} {mg : Str → Option Value} {fa : Addr} (SP : SupP P "/claim/cut.py") (X : K.In h) (G : h.Ns mainGlobals mg) (hfa : mg "law" = some (.ref fa)) (c : SaysQ ex fns K) :
    ∃ fd : FuncData, (∀ (s : Shared) (v : Value), BindsTo s fd ⟨[v], []⟩ [("_law_script", v)]) ∧ ∀ base : Heap, K.In base → base.Ns mainGlobals mg → (∀ p ∈ ([] : List (Addr × Addr)), LamX.TabB base mg p.1 p.2) → Fg P w K mg base CX0 8 fa fd ["_law_script"] (spLaw K) := by
  have T : Txt mg := ⟨He.free_ok X G (fact_at c.ex 174), He.free_ok X G (fact_at c.ex 175), He.free_ok X G (fact_at c.ex 176), He.free_ok X G (fact_at c.ex 177), He.free_ok X G (fact_at c.ex 178), He.free_ok X G (fact_at c.ex 179), He.free_ok X G (fact_at c.ex 180), He.free_ok X G (fact_at c.ex 181), He.free_ok X G (fact_at c.ex 182), He.free_ok X G (fact_at c.ex 183), He.free_ok X G (fact_at c.ex 184), He.free_ok X G (fact_at c.ex 185), He.free_ok X G (fact_at c.ex 186), He.free_ok X G (fact_at c.ex 187), He.free_ok X G (fact_at c.ex 188), He.free_ok X G (fact_at c.ex 189), He.free_ok X G (fact_at c.ex 190), He.free_ok X G (fact_at c.ex 191), He.free_ok X G (fact_at c.ex 192), He.str_ok X G (fact_at c.ex 193), He.str_ok X G (fact_at c.ex 194), He.int_ok X G (fact_at c.ex 195), He.str_ok X G (fact_at c.ex 196), He.str_ok X G (fact_at c.ex 197), He.int_ok X G (fact_at c.ex 198), He.int_ok X G (fact_at c.ex 199), He.int_ok X G (fact_at c.ex 200)⟩
  have pg : PySem.W.plainGet K (He.ga K "Form") Str.empty = true := (fact_at c.ex 1)
  have hdC : PySem.W.hasDictIn K (He.ga K "Form") = true := (fact_at c.ex 2)
  have po : PySem.W.plainOver K (He.ga K "Form") = true := (fact_at c.ex 3)
  have sa : PySem.W.findIn K (.ref (He.ga K "Form")) "__setattr__" = some (some (.builtin "object.__setattr__")) := (show PySem.W.findIn K (.ref (He.ga K "Form")) "__setattr__" = some (some (.builtin "object.__setattr__")) from of_decide_eq_true (fact_at c.ex 4))
  have mkC : PySem.W.makesIn K (He.ga K "Form") = true := (fact_at c.ex 5)
  have kc : PySem.W.keepIn K (.ref (He.ga K "Form")) = true := (fact_at c.ex 6)
  have nt : PySem.W.findIn K (.ref (He.ga K "Form")) "terms" = some none := (show PySem.W.findIn K (.ref (He.ga K "Form")) "terms" = some none from of_decide_eq_true (fact_at c.ex 7))
  have ns : PySem.W.findIn K (.ref (He.ga K "Form")) "symbols" = some none := (show PySem.W.findIn K (.ref (He.ga K "Form")) "symbols" = some none from of_decide_eq_true (fact_at c.ex 8))
  have nx : PySem.W.findIn K (.ref (He.ga K "Form")) "text" = some none := (show PySem.W.findIn K (.ref (He.ga K "Form")) "text" = some none from of_decide_eq_true (fact_at c.ex 9))
  have sf : PySem.W.selfFirst K (He.ga K "Form") = true := (fact_at c.ex 10)
  have ci1 : PySem.W.findIn K (.ref (He.ga K "Form")) "__class__" = some (some (.builtin "object.__class__")) := (show PySem.W.findIn K (.ref (He.ga K "Form")) "__class__" = some (some (.builtin "object.__class__")) from of_decide_eq_true (fact_at c.ex 11))
  have ci2 : PySem.W.specialIn K (.builtin "object.__class__") "__get__" = some (some (.builtin "getset_descriptor.__get__")) := (show PySem.W.specialIn K (.builtin "object.__class__") "__get__" = some (some (.builtin "getset_descriptor.__get__")) from of_decide_eq_true (fact_at c.ex 12))
  have ci3 : PySem.W.takesIn K (.builtin "object.__class__") = some true := (show PySem.W.takesIn K (.builtin "object.__class__") = some true from of_decide_eq_true (fact_at c.ex 13))
  have ci4 : PySem.W.mroIn K (He.ga K "Form") (.type "object") = some true := (show PySem.W.mroIn K (He.ga K "Form") (.type "object") = some true from of_decide_eq_true (fact_at c.ex 14))
  have mr : PySem.W.findIn K (.ref (He.ga K "Form")) (PySem.dunderR Operator.Mult.info.2) = some none := (show PySem.W.findIn K (.ref (He.ga K "Form")) (PySem.dunderR Operator.Mult.info.2) = some none from of_decide_eq_true (fact_at c.ex 15))
  have ms : PySem.W.subIn K (.type "int") (.ref (He.ga K "Form")) = some false := (show PySem.W.subIn K (.type "int") (.ref (He.ga K "Form")) = some false from of_decide_eq_true (fact_at c.ex 18))
  have rd : PySem.W.readsIn K (He.ga K "Form") (.type "type") = true := (fact_at c.ex 19)
  have ga : PySem.W.specialIn K (.ref (He.ga K "Form")) "__getattribute__" = some (some (.builtin "type.__getattribute__")) := (show PySem.W.specialIn K (.ref (He.ga K "Form")) "__getattribute__" = some (some (.builtin "type.__getattribute__")) from of_decide_eq_true (fact_at c.ex 20))
  have aC : mg "Form" = some (.ref (He.ga K "Form")) := He.glo_ok X G (fact_at c.ex 0)
  obtain ⟨fo, ma⟩ := Option.isSome_iff_exists.mp (fact_at c.ex 16)
  obtain ⟨ro, mb⟩ := Option.isSome_iff_exists.mp (fact_at c.ex 17)
  have FC : FormC K mg (He.ga K "Form") := ⟨aC, ⟨pg, hdC, po, sa⟩, nt, ns, nx, sf, ci1, ci2, ci3, ci4, kit_self⟩
  have MU : OwnI K (He.ga K "Form") .Mult := ⟨⟨none, mr, .inl rfl⟩, ⟨fo, ma⟩, ⟨ro, mb⟩, ms⟩
  have SC : StmC K mg (He.ga K "Statement") (He.ga K "If") (stA K) := stmC_of (fact_at c.ex 35) (He.glo_ok X G (fact_at c.ex 21)) (He.glo_ok X G (fact_at c.ex 22)) (nine (p := fun i => mg (stN i) = some (.ref (stA K i))) (He.glo_ok X G (fact_at c.ex 23)) (He.glo_ok X G (fact_at c.ex 24)) (He.glo_ok X G (fact_at c.ex 25)) (He.glo_ok X G (fact_at c.ex 26)) (He.glo_ok X G (fact_at c.ex 27)) (He.glo_ok X G (fact_at c.ex 28)) (He.glo_ok X G (fact_at c.ex 29)) (He.glo_ok X G (fact_at c.ex 30)) (He.glo_ok X G (fact_at c.ex 31))) ci2 ci3
  have SW : SupW P K mg "/claim/cut.py" := ⟨SP, He.free_ok X G (fact_at c.ex 32), (show PySem.W.nsIn K PySem.cStatics "thirdparty.any" = some none from of_decide_eq_true (fact_at c.ex 33))⟩
  have FM : FmtC K (He.ga K "Form") := ⟨⟨pg, hdC, po, sa⟩, sf, (show PySem.W.findIn K (.ref (He.ga K "Form")) "__format__" = some (some (.builtin "object.__format__")) from of_decide_eq_true (fact_at c.ex 34)), ci4⟩
  have EF : EF K mg (He.ga K "Form") := ⟨⟩
  obtain ⟨fd__law_cell, F__law_cell⟩ := c.fn dq__law_cell (List.mem_of_getElem? (i := 0) rfl)
  have D__law_cell : At K mg "_law_cell" s__law_cell := ⟨_, fd__law_cell, F__law_cell, He.glo_ok X G (fact_at c.ex 105)⟩
  obtain ⟨fd__law_purse, F__law_purse⟩ := c.fn dq__law_purse (List.mem_of_getElem? (i := 1) rfl)
  have D__law_purse : At K mg "_law_purse" s__law_purse := ⟨_, fd__law_purse, F__law_purse, He.glo_ok X G (fact_at c.ex 106)⟩
  obtain ⟨fd_Form__repr_, F_Form__repr_⟩ := c.fn dq_Form__repr_ (List.mem_of_getElem? (i := 2) rfl)
  have D_Form__repr_ : AtM K (He.ga K "Form") "__repr__" "Form.__repr__" s_Form__repr_ := ⟨_, fd_Form__repr_, F_Form__repr_, (show PySem.W.findIn K (.ref (He.ga K "Form")) "__repr__" = some (some (.ref (He.ma K (He.ga K "Form") "__repr__"))) from of_decide_eq_true (fact_at c.ex 107)), (fact_at c.ex 108), F_Form__repr_.kp⟩
  obtain ⟨fd_is_integer, F_is_integer⟩ := c.fn dq_is_integer (List.mem_of_getElem? (i := 3) rfl)
  have D_is_integer : At K mg "is_integer" s_is_integer := ⟨_, fd_is_integer, F_is_integer, He.glo_ok X G (fact_at c.ex 109)⟩
  obtain ⟨fd_is_name, F_is_name⟩ := c.fn dq_is_name (List.mem_of_getElem? (i := 4) rfl)
  have D_is_name : At K mg "is_name" s_is_name := ⟨_, fd_is_name, F_is_name, He.glo_ok X G (fact_at c.ex 110)⟩
  obtain ⟨fd_is_symbol, F_is_symbol⟩ := c.fn dq_is_symbol (List.mem_of_getElem? (i := 5) rfl)
  have D_is_symbol : At K mg "is_symbol" s_is_symbol := ⟨_, fd_is_symbol, F_is_symbol, He.glo_ok X G (fact_at c.ex 111)⟩
  obtain ⟨fd_text_of, F_text_of⟩ := c.fn dq_text_of (List.mem_of_getElem? (i := 6) rfl)
  have D_text_of : At K mg "text_of" s_text_of := ⟨_, fd_text_of, F_text_of, He.glo_ok X G (fact_at c.ex 112)⟩
  obtain ⟨fd_Form__init_, F_Form__init_⟩ := c.fn dq_Form__init_ (List.mem_of_getElem? (i := 7) rfl)
  have D_Form__init_ : AtK K mg (He.ga K "Form") "Form" "Form.__init__" s_Form__init_ := ⟨_, fd_Form__init_, F_Form__init_, ⟨mkC, (show PySem.W.findIn K (.ref (He.ga K "Form")) "__init__" = some (some (.ref (He.ma K (He.ga K "Form") "__init__"))) from of_decide_eq_true (fact_at c.ex 113)), (fact_at c.ex 114), kc⟩, aC⟩
  obtain ⟨fd_term_of, F_term_of⟩ := c.fn dq_term_of (List.mem_of_getElem? (i := 8) rfl)
  have D_term_of : At K mg "term_of" s_term_of := ⟨_, fd_term_of, F_term_of, He.glo_ok X G (fact_at c.ex 115)⟩
  obtain ⟨fd_form_of, F_form_of⟩ := c.fn dq_form_of (List.mem_of_getElem? (i := 9) rfl)
  have D_form_of : At K mg "form_of" s_form_of := ⟨_, fd_form_of, F_form_of, He.glo_ok X G (fact_at c.ex 116)⟩
  obtain ⟨fd_Form_read, F_Form_read⟩ := c.fn dq_Form_read (List.mem_of_getElem? (i := 10) rfl)
  have sm_Form_read := smB_ok (fact_at c.ex 117)
  have D_Form_read : AtS K (He.ga K "Form") "read" "Form.read" s_Form_read := ⟨_, fd_Form_read, F_Form_read, .type "type", _, ⟨rd, ga⟩, ⟨sm_Form_read.1, sm_Form_read.2, rfl, F_Form_read.kp⟩⟩
  obtain ⟨fd_Statement__eq_, F_Statement__eq_⟩ := c.fn dq_Statement__eq_ (List.mem_of_getElem? (i := 11) rfl)
  have D_Statement__eq_ : ∀ i, i < 9 → AtM K ((stA K) i) "__eq__" "Statement.__eq__" s_Statement__eq_ := nine (p := fun i => AtM K (stA K i) "__eq__" "Statement.__eq__" s_Statement__eq_) (⟨_, fd_Statement__eq_, F_Statement__eq_, (show PySem.W.findIn K (.ref (He.ga K "Let")) "__eq__" = some (some (.ref (He.ma K (He.ga K "Statement") "__eq__"))) from of_decide_eq_true (fact_at c.ex 119)), (fact_at c.ex 118), F_Statement__eq_.kp⟩) (⟨_, fd_Statement__eq_, F_Statement__eq_, (show PySem.W.findIn K (.ref (He.ga K "Copy")) "__eq__" = some (some (.ref (He.ma K (He.ga K "Statement") "__eq__"))) from of_decide_eq_true (fact_at c.ex 120)), (fact_at c.ex 118), F_Statement__eq_.kp⟩) (⟨_, fd_Statement__eq_, F_Statement__eq_, (show PySem.W.findIn K (.ref (He.ga K "Up")) "__eq__" = some (some (.ref (He.ma K (He.ga K "Statement") "__eq__"))) from of_decide_eq_true (fact_at c.ex 121)), (fact_at c.ex 118), F_Statement__eq_.kp⟩) (⟨_, fd_Statement__eq_, F_Statement__eq_, (show PySem.W.findIn K (.ref (He.ga K "Down")) "__eq__" = some (some (.ref (He.ma K (He.ga K "Statement") "__eq__"))) from of_decide_eq_true (fact_at c.ex 122)), (fact_at c.ex 118), F_Statement__eq_.kp⟩) (⟨_, fd_Statement__eq_, F_Statement__eq_, (show PySem.W.findIn K (.ref (He.ga K "Apart")) "__eq__" = some (some (.ref (He.ma K (He.ga K "Statement") "__eq__"))) from of_decide_eq_true (fact_at c.ex 123)), (fact_at c.ex 118), F_Statement__eq_.kp⟩) (⟨_, fd_Statement__eq_, F_Statement__eq_, (show PySem.W.findIn K (.ref (He.ga K "Reverse")) "__eq__" = some (some (.ref (He.ma K (He.ga K "Statement") "__eq__"))) from of_decide_eq_true (fact_at c.ex 124)), (fact_at c.ex 118), F_Statement__eq_.kp⟩) (⟨_, fd_Statement__eq_, F_Statement__eq_, (show PySem.W.findIn K (.ref (He.ga K "Swap")) "__eq__" = some (some (.ref (He.ma K (He.ga K "Statement") "__eq__"))) from of_decide_eq_true (fact_at c.ex 125)), (fact_at c.ex 118), F_Statement__eq_.kp⟩) (⟨_, fd_Statement__eq_, F_Statement__eq_, (show PySem.W.findIn K (.ref (He.ga K "Fill")) "__eq__" = some (some (.ref (He.ma K (He.ga K "Statement") "__eq__"))) from of_decide_eq_true (fact_at c.ex 126)), (fact_at c.ex 118), F_Statement__eq_.kp⟩) (⟨_, fd_Statement__eq_, F_Statement__eq_, (show PySem.W.findIn K (.ref (He.ga K "Resize")) "__eq__" = some (some (.ref (He.ma K (He.ga K "Statement") "__eq__"))) from of_decide_eq_true (fact_at c.ex 127)), (fact_at c.ex 118), F_Statement__eq_.kp⟩)
  obtain ⟨fd__law_arguments, F__law_arguments⟩ := c.fn dq__law_arguments (List.mem_of_getElem? (i := 12) rfl)
  have D__law_arguments : At K mg "_law_arguments" s__law_arguments := ⟨_, fd__law_arguments, F__law_arguments, He.glo_ok X G (fact_at c.ex 128)⟩
  obtain ⟨fd__law_arguments_due, F__law_arguments_due⟩ := c.fn dq__law_arguments_due (List.mem_of_getElem? (i := 13) rfl)
  have D__law_arguments_due : At K mg "_law_arguments_due" s__law_arguments_due := ⟨_, fd__law_arguments_due, F__law_arguments_due, He.glo_ok X G (fact_at c.ex 129)⟩
  obtain ⟨fd_Form__str_, F_Form__str_⟩ := c.fn dq_Form__str_ (List.mem_of_getElem? (i := 14) rfl)
  have D_Form__str_ : AtM K (He.ga K "Form") "__str__" "Form.__str__" s_Form__str_ := ⟨_, fd_Form__str_, F_Form__str_, (show PySem.W.findIn K (.ref (He.ga K "Form")) "__str__" = some (some (.ref (He.ma K (He.ga K "Form") "__str__"))) from of_decide_eq_true (fact_at c.ex 130)), (fact_at c.ex 131), F_Form__str_.kp⟩
  obtain ⟨fd_Statement__init_, F_Statement__init_⟩ := c.fn dq_Statement__init_ (List.mem_of_getElem? (i := 15) rfl)
  have D_Statement__init_ : AtM K (He.ga K "Statement") "__init__" "Statement.__init__" s_Statement__init_ := ⟨_, fd_Statement__init_, F_Statement__init_, (show PySem.W.findIn K (.ref (He.ga K "Statement")) "__init__" = some (some (.ref (He.ma K (He.ga K "Statement") "__init__"))) from of_decide_eq_true (fact_at c.ex 132)), (fact_at c.ex 133), F_Statement__init_.kp⟩
  obtain ⟨fd_check_form, F_check_form⟩ := c.fn dq_check_form (List.mem_of_getElem? (i := 16) rfl)
  have D_check_form : At K mg "check_form" s_check_form := ⟨_, fd_check_form, F_check_form, He.glo_ok X G (fact_at c.ex 136)⟩
  obtain ⟨fd_check_name, F_check_name⟩ := c.fn dq_check_name (List.mem_of_getElem? (i := 17) rfl)
  have D_check_name : At K mg "check_name" s_check_name := ⟨_, fd_check_name, F_check_name, He.glo_ok X G (fact_at c.ex 137)⟩
  obtain ⟨fd_Copy__init_, Q_Copy__init_⟩ := c.fq dq_Copy__init_ (List.mem_of_getElem? (i := 18) rfl)
  obtain ⟨cda_Copy__init_, cc_Copy__init_, S_Copy__init_, co_Copy__init_⟩ := sup_of Q_Copy__init_ rfl (fact_at c.ex 51) (fact_at c.ex 52)
  obtain ⟨cd_Copy__init_, cl_Copy__init_⟩ := Option.isSome_iff_exists.mp (fact_at c.ex 53)
  have D_Copy__init_ : AtK2 K mg "/claim/cut.py" (He.ga K "Statement") ((stA K) 1) ((stA K) 1) "Copy" "Copy.__init__" s_Copy__init_ ∧ AtK2 K mg "/claim/cut.py" (He.ga K "Statement") ((stA K) 1) ((stA K) 2) "Up" "Copy.__init__" s_Copy__init_ ∧ AtK2 K mg "/claim/cut.py" (He.ga K "Statement") ((stA K) 1) ((stA K) 3) "Down" "Copy.__init__" s_Copy__init_ ∧ AtK2 K mg "/claim/cut.py" (He.ga K "Statement") ((stA K) 1) ((stA K) 4) "Apart" "Copy.__init__" s_Copy__init_ := ⟨⟨_, cda_Copy__init_, cc_Copy__init_, _, fd_Copy__init_, cd_Copy__init_, ⟨S_Copy__init_, ⟨(fact_at c.ex 45), (show PySem.W.findIn K (.ref (He.ga K "Copy")) "__init__" = some (some (.ref (He.ma K (He.ga K "Copy") "__init__"))) from of_decide_eq_true (fact_at c.ex 47)), (fact_at c.ex 50), (fact_at c.ex 46)⟩, He.glo_ok X G (fact_at c.ex 24), co_Copy__init_, cl_Copy__init_, ⟨(show PySem.W.mroIn K (He.ga K "Copy") (.ref (He.ga K "Copy")) = some true from of_decide_eq_true (fact_at c.ex 48)), (show PySem.W.ks_superIn K (He.ga K "Copy") (He.ga K "Copy") "__init__" = some (some (.ref (He.ma K (He.ga K "Statement") "__init__"))) from of_decide_eq_true (fact_at c.ex 49))⟩, (show PySem.W.findIn K (.ref (He.ga K "Statement")) "__init__" = some (some (.ref (He.ma K (He.ga K "Statement") "__init__"))) from of_decide_eq_true (fact_at c.ex 132)), (fact_at c.ex 134), (show PySem.W.typeIn K (.ref (He.ma K (He.ga K "Statement") "__init__")) = some (.type "function") from of_decide_eq_true (fact_at c.ex 135))⟩⟩,
    ⟨_, cda_Copy__init_, cc_Copy__init_, _, fd_Copy__init_, cd_Copy__init_, ⟨S_Copy__init_, ⟨(fact_at c.ex 54), (show PySem.W.findIn K (.ref (He.ga K "Up")) "__init__" = some (some (.ref (He.ma K (He.ga K "Copy") "__init__"))) from of_decide_eq_true (fact_at c.ex 56)), (fact_at c.ex 50), (fact_at c.ex 55)⟩, He.glo_ok X G (fact_at c.ex 25), co_Copy__init_, cl_Copy__init_, ⟨(show PySem.W.mroIn K (He.ga K "Up") (.ref (He.ga K "Copy")) = some true from of_decide_eq_true (fact_at c.ex 57)), (show PySem.W.ks_superIn K (He.ga K "Up") (He.ga K "Copy") "__init__" = some (some (.ref (He.ma K (He.ga K "Statement") "__init__"))) from of_decide_eq_true (fact_at c.ex 58))⟩, (show PySem.W.findIn K (.ref (He.ga K "Statement")) "__init__" = some (some (.ref (He.ma K (He.ga K "Statement") "__init__"))) from of_decide_eq_true (fact_at c.ex 132)), (fact_at c.ex 134), (show PySem.W.typeIn K (.ref (He.ma K (He.ga K "Statement") "__init__")) = some (.type "function") from of_decide_eq_true (fact_at c.ex 135))⟩⟩,
    ⟨_, cda_Copy__init_, cc_Copy__init_, _, fd_Copy__init_, cd_Copy__init_, ⟨S_Copy__init_, ⟨(fact_at c.ex 59), (show PySem.W.findIn K (.ref (He.ga K "Down")) "__init__" = some (some (.ref (He.ma K (He.ga K "Copy") "__init__"))) from of_decide_eq_true (fact_at c.ex 61)), (fact_at c.ex 50), (fact_at c.ex 60)⟩, He.glo_ok X G (fact_at c.ex 26), co_Copy__init_, cl_Copy__init_, ⟨(show PySem.W.mroIn K (He.ga K "Down") (.ref (He.ga K "Copy")) = some true from of_decide_eq_true (fact_at c.ex 62)), (show PySem.W.ks_superIn K (He.ga K "Down") (He.ga K "Copy") "__init__" = some (some (.ref (He.ma K (He.ga K "Statement") "__init__"))) from of_decide_eq_true (fact_at c.ex 63))⟩, (show PySem.W.findIn K (.ref (He.ga K "Statement")) "__init__" = some (some (.ref (He.ma K (He.ga K "Statement") "__init__"))) from of_decide_eq_true (fact_at c.ex 132)), (fact_at c.ex 134), (show PySem.W.typeIn K (.ref (He.ma K (He.ga K "Statement") "__init__")) = some (.type "function") from of_decide_eq_true (fact_at c.ex 135))⟩⟩,
    ⟨_, cda_Copy__init_, cc_Copy__init_, _, fd_Copy__init_, cd_Copy__init_, ⟨S_Copy__init_, ⟨(fact_at c.ex 64), (show PySem.W.findIn K (.ref (He.ga K "Apart")) "__init__" = some (some (.ref (He.ma K (He.ga K "Copy") "__init__"))) from of_decide_eq_true (fact_at c.ex 66)), (fact_at c.ex 50), (fact_at c.ex 65)⟩, He.glo_ok X G (fact_at c.ex 27), co_Copy__init_, cl_Copy__init_, ⟨(show PySem.W.mroIn K (He.ga K "Apart") (.ref (He.ga K "Copy")) = some true from of_decide_eq_true (fact_at c.ex 67)), (show PySem.W.ks_superIn K (He.ga K "Apart") (He.ga K "Copy") "__init__" = some (some (.ref (He.ma K (He.ga K "Statement") "__init__"))) from of_decide_eq_true (fact_at c.ex 68))⟩, (show PySem.W.findIn K (.ref (He.ga K "Statement")) "__init__" = some (some (.ref (He.ma K (He.ga K "Statement") "__init__"))) from of_decide_eq_true (fact_at c.ex 132)), (fact_at c.ex 134), (show PySem.W.typeIn K (.ref (He.ma K (He.ga K "Statement") "__init__")) = some (.type "function") from of_decide_eq_true (fact_at c.ex 135))⟩⟩⟩
  obtain ⟨fd_Fill__init_, Q_Fill__init_⟩ := c.fq dq_Fill__init_ (List.mem_of_getElem? (i := 19) rfl)
  obtain ⟨cda_Fill__init_, cc_Fill__init_, S_Fill__init_, co_Fill__init_⟩ := sup_of Q_Fill__init_ rfl (fact_at c.ex 93) (fact_at c.ex 94)
  obtain ⟨cd_Fill__init_, cl_Fill__init_⟩ := Option.isSome_iff_exists.mp (fact_at c.ex 95)
  have D_Fill__init_ : AtK2 K mg "/claim/cut.py" (He.ga K "Statement") ((stA K) 7) ((stA K) 7) "Fill" "Fill.__init__" s_Fill__init_ := ⟨_, cda_Fill__init_, cc_Fill__init_, _, fd_Fill__init_, cd_Fill__init_, ⟨S_Fill__init_, ⟨(fact_at c.ex 87), (show PySem.W.findIn K (.ref (He.ga K "Fill")) "__init__" = some (some (.ref (He.ma K (He.ga K "Fill") "__init__"))) from of_decide_eq_true (fact_at c.ex 89)), (fact_at c.ex 92), (fact_at c.ex 88)⟩, He.glo_ok X G (fact_at c.ex 30), co_Fill__init_, cl_Fill__init_, ⟨(show PySem.W.mroIn K (He.ga K "Fill") (.ref (He.ga K "Fill")) = some true from of_decide_eq_true (fact_at c.ex 90)), (show PySem.W.ks_superIn K (He.ga K "Fill") (He.ga K "Fill") "__init__" = some (some (.ref (He.ma K (He.ga K "Statement") "__init__"))) from of_decide_eq_true (fact_at c.ex 91))⟩, (show PySem.W.findIn K (.ref (He.ga K "Statement")) "__init__" = some (some (.ref (He.ma K (He.ga K "Statement") "__init__"))) from of_decide_eq_true (fact_at c.ex 132)), (fact_at c.ex 134), (show PySem.W.typeIn K (.ref (He.ma K (He.ga K "Statement") "__init__")) = some (.type "function") from of_decide_eq_true (fact_at c.ex 135))⟩⟩
  obtain ⟨fd_Let__init_, Q_Let__init_⟩ := c.fq dq_Let__init_ (List.mem_of_getElem? (i := 20) rfl)
  obtain ⟨cda_Let__init_, cc_Let__init_, S_Let__init_, co_Let__init_⟩ := sup_of Q_Let__init_ rfl (fact_at c.ex 42) (fact_at c.ex 43)
  obtain ⟨cd_Let__init_, cl_Let__init_⟩ := Option.isSome_iff_exists.mp (fact_at c.ex 44)
  have D_Let__init_ : AtK2 K mg "/claim/cut.py" (He.ga K "Statement") ((stA K) 0) ((stA K) 0) "Let" "Let.__init__" s_Let__init_ := ⟨_, cda_Let__init_, cc_Let__init_, _, fd_Let__init_, cd_Let__init_, ⟨S_Let__init_, ⟨(fact_at c.ex 36), (show PySem.W.findIn K (.ref (He.ga K "Let")) "__init__" = some (some (.ref (He.ma K (He.ga K "Let") "__init__"))) from of_decide_eq_true (fact_at c.ex 38)), (fact_at c.ex 41), (fact_at c.ex 37)⟩, He.glo_ok X G (fact_at c.ex 23), co_Let__init_, cl_Let__init_, ⟨(show PySem.W.mroIn K (He.ga K "Let") (.ref (He.ga K "Let")) = some true from of_decide_eq_true (fact_at c.ex 39)), (show PySem.W.ks_superIn K (He.ga K "Let") (He.ga K "Let") "__init__" = some (some (.ref (He.ma K (He.ga K "Statement") "__init__"))) from of_decide_eq_true (fact_at c.ex 40))⟩, (show PySem.W.findIn K (.ref (He.ga K "Statement")) "__init__" = some (some (.ref (He.ma K (He.ga K "Statement") "__init__"))) from of_decide_eq_true (fact_at c.ex 132)), (fact_at c.ex 134), (show PySem.W.typeIn K (.ref (He.ma K (He.ga K "Statement") "__init__")) = some (.type "function") from of_decide_eq_true (fact_at c.ex 135))⟩⟩
  obtain ⟨fd_Resize__init_, Q_Resize__init_⟩ := c.fq dq_Resize__init_ (List.mem_of_getElem? (i := 21) rfl)
  obtain ⟨cda_Resize__init_, cc_Resize__init_, S_Resize__init_, co_Resize__init_⟩ := sup_of Q_Resize__init_ rfl (fact_at c.ex 102) (fact_at c.ex 103)
  obtain ⟨cd_Resize__init_, cl_Resize__init_⟩ := Option.isSome_iff_exists.mp (fact_at c.ex 104)
  have D_Resize__init_ : AtK2 K mg "/claim/cut.py" (He.ga K "Statement") ((stA K) 8) ((stA K) 8) "Resize" "Resize.__init__" s_Resize__init_ := ⟨_, cda_Resize__init_, cc_Resize__init_, _, fd_Resize__init_, cd_Resize__init_, ⟨S_Resize__init_, ⟨(fact_at c.ex 96), (show PySem.W.findIn K (.ref (He.ga K "Resize")) "__init__" = some (some (.ref (He.ma K (He.ga K "Resize") "__init__"))) from of_decide_eq_true (fact_at c.ex 98)), (fact_at c.ex 101), (fact_at c.ex 97)⟩, He.glo_ok X G (fact_at c.ex 31), co_Resize__init_, cl_Resize__init_, ⟨(show PySem.W.mroIn K (He.ga K "Resize") (.ref (He.ga K "Resize")) = some true from of_decide_eq_true (fact_at c.ex 99)), (show PySem.W.ks_superIn K (He.ga K "Resize") (He.ga K "Resize") "__init__" = some (some (.ref (He.ma K (He.ga K "Statement") "__init__"))) from of_decide_eq_true (fact_at c.ex 100))⟩, (show PySem.W.findIn K (.ref (He.ga K "Statement")) "__init__" = some (some (.ref (He.ma K (He.ga K "Statement") "__init__"))) from of_decide_eq_true (fact_at c.ex 132)), (fact_at c.ex 134), (show PySem.W.typeIn K (.ref (He.ma K (He.ga K "Statement") "__init__")) = some (.type "function") from of_decide_eq_true (fact_at c.ex 135))⟩⟩
  obtain ⟨fd_Reverse__init_, Q_Reverse__init_⟩ := c.fq dq_Reverse__init_ (List.mem_of_getElem? (i := 22) rfl)
  obtain ⟨cda_Reverse__init_, cc_Reverse__init_, S_Reverse__init_, co_Reverse__init_⟩ := sup_of Q_Reverse__init_ rfl (fact_at c.ex 75) (fact_at c.ex 76)
  obtain ⟨cd_Reverse__init_, cl_Reverse__init_⟩ := Option.isSome_iff_exists.mp (fact_at c.ex 77)
  have D_Reverse__init_ : AtK2 K mg "/claim/cut.py" (He.ga K "Statement") ((stA K) 5) ((stA K) 5) "Reverse" "Reverse.__init__" s_Reverse__init_ := ⟨_, cda_Reverse__init_, cc_Reverse__init_, _, fd_Reverse__init_, cd_Reverse__init_, ⟨S_Reverse__init_, ⟨(fact_at c.ex 69), (show PySem.W.findIn K (.ref (He.ga K "Reverse")) "__init__" = some (some (.ref (He.ma K (He.ga K "Reverse") "__init__"))) from of_decide_eq_true (fact_at c.ex 71)), (fact_at c.ex 74), (fact_at c.ex 70)⟩, He.glo_ok X G (fact_at c.ex 28), co_Reverse__init_, cl_Reverse__init_, ⟨(show PySem.W.mroIn K (He.ga K "Reverse") (.ref (He.ga K "Reverse")) = some true from of_decide_eq_true (fact_at c.ex 72)), (show PySem.W.ks_superIn K (He.ga K "Reverse") (He.ga K "Reverse") "__init__" = some (some (.ref (He.ma K (He.ga K "Statement") "__init__"))) from of_decide_eq_true (fact_at c.ex 73))⟩, (show PySem.W.findIn K (.ref (He.ga K "Statement")) "__init__" = some (some (.ref (He.ma K (He.ga K "Statement") "__init__"))) from of_decide_eq_true (fact_at c.ex 132)), (fact_at c.ex 134), (show PySem.W.typeIn K (.ref (He.ma K (He.ga K "Statement") "__init__")) = some (.type "function") from of_decide_eq_true (fact_at c.ex 135))⟩⟩
  obtain ⟨fd_Swap__init_, Q_Swap__init_⟩ := c.fq dq_Swap__init_ (List.mem_of_getElem? (i := 23) rfl)
  obtain ⟨cda_Swap__init_, cc_Swap__init_, S_Swap__init_, co_Swap__init_⟩ := sup_of Q_Swap__init_ rfl (fact_at c.ex 84) (fact_at c.ex 85)
  obtain ⟨cd_Swap__init_, cl_Swap__init_⟩ := Option.isSome_iff_exists.mp (fact_at c.ex 86)
  have D_Swap__init_ : AtK2 K mg "/claim/cut.py" (He.ga K "Statement") ((stA K) 6) ((stA K) 6) "Swap" "Swap.__init__" s_Swap__init_ := ⟨_, cda_Swap__init_, cc_Swap__init_, _, fd_Swap__init_, cd_Swap__init_, ⟨S_Swap__init_, ⟨(fact_at c.ex 78), (show PySem.W.findIn K (.ref (He.ga K "Swap")) "__init__" = some (some (.ref (He.ma K (He.ga K "Swap") "__init__"))) from of_decide_eq_true (fact_at c.ex 80)), (fact_at c.ex 83), (fact_at c.ex 79)⟩, He.glo_ok X G (fact_at c.ex 29), co_Swap__init_, cl_Swap__init_, ⟨(show PySem.W.mroIn K (He.ga K "Swap") (.ref (He.ga K "Swap")) = some true from of_decide_eq_true (fact_at c.ex 81)), (show PySem.W.ks_superIn K (He.ga K "Swap") (He.ga K "Swap") "__init__" = some (some (.ref (He.ma K (He.ga K "Statement") "__init__"))) from of_decide_eq_true (fact_at c.ex 82))⟩, (show PySem.W.findIn K (.ref (He.ga K "Statement")) "__init__" = some (some (.ref (He.ma K (He.ga K "Statement") "__init__"))) from of_decide_eq_true (fact_at c.ex 132)), (fact_at c.ex 134), (show PySem.W.typeIn K (.ref (He.ma K (He.ga K "Statement") "__init__")) = some (.type "function") from of_decide_eq_true (fact_at c.ex 135))⟩⟩
  obtain ⟨fd__law_by_name, F__law_by_name⟩ := c.fn dq__law_by_name (List.mem_of_getElem? (i := 24) rfl)
  have D__law_by_name : At K mg "_law_by_name" s__law_by_name := ⟨_, fd__law_by_name, F__law_by_name, He.glo_ok X G (fact_at c.ex 138)⟩
  obtain ⟨fd__law_by_place, F__law_by_place⟩ := c.fn dq__law_by_place (List.mem_of_getElem? (i := 25) rfl)
  have D__law_by_place : At K mg "_law_by_place" s__law_by_place := ⟨_, fd__law_by_place, F__law_by_place, He.glo_ok X G (fact_at c.ex 139)⟩
  obtain ⟨fd__law_due, F__law_due⟩ := c.fn dq__law_due (List.mem_of_getElem? (i := 26) rfl)
  have D__law_due : At K mg "_law_due" s__law_due := ⟨_, fd__law_due, F__law_due, He.glo_ok X G (fact_at c.ex 140)⟩
  obtain ⟨fd__law_small, F__law_small⟩ := c.fn dq__law_small (List.mem_of_getElem? (i := 27) rfl)
  have D__law_small : At K mg "_law_small" s__law_small := ⟨_, fd__law_small, F__law_small, He.glo_ok X G (fact_at c.ex 141)⟩
  obtain ⟨fd__law_take, F__law_take⟩ := c.fn dq__law_take (List.mem_of_getElem? (i := 28) rfl)
  have D__law_take : At K mg "_law_take" s__law_take := ⟨_, fd__law_take, F__law_take, He.glo_ok X G (fact_at c.ex 142)⟩
  obtain ⟨fd__law_total, F__law_total⟩ := c.fn dq__law_total (List.mem_of_getElem? (i := 29) rfl)
  have D__law_total : At K mg "_law_total" s__law_total := ⟨_, fd__law_total, F__law_total, He.glo_ok X G (fact_at c.ex 143)⟩
  obtain ⟨fd__law_form, F__law_form⟩ := c.fn dq__law_form (List.mem_of_getElem? (i := 30) rfl)
  have D__law_form : At K mg "_law_form" s__law_form := ⟨_, fd__law_form, F__law_form, He.glo_ok X G (fact_at c.ex 144)⟩
  obtain ⟨fd__law_name, F__law_name⟩ := c.fn dq__law_name (List.mem_of_getElem? (i := 31) rfl)
  have D__law_name : At K mg "_law_name" s__law_name := ⟨_, fd__law_name, F__law_name, He.glo_ok X G (fact_at c.ex 145)⟩
  obtain ⟨fd__law_other_name, F__law_other_name⟩ := c.fn dq__law_other_name (List.mem_of_getElem? (i := 32) rfl)
  have D__law_other_name : At K mg "_law_other_name" s__law_other_name := ⟨_, fd__law_other_name, F__law_other_name, He.glo_ok X G (fact_at c.ex 146)⟩
  obtain ⟨fd__law_names, F__law_names⟩ := c.fn dq__law_names (List.mem_of_getElem? (i := 33) rfl)
  have D__law_names : At K mg "_law_names" s__law_names := ⟨_, fd__law_names, F__law_names, He.glo_ok X G (fact_at c.ex 147)⟩
  obtain ⟨fd_Statement__repr_, F_Statement__repr_⟩ := c.fn dq_Statement__repr_ (List.mem_of_getElem? (i := 34) rfl)
  have D_Statement__repr_ : ∀ i, i < 9 → AtM K ((stA K) i) "__repr__" "Statement.__repr__" s_Statement__repr_ := nine (p := fun i => AtM K (stA K i) "__repr__" "Statement.__repr__" s_Statement__repr_) (⟨_, fd_Statement__repr_, F_Statement__repr_, (show PySem.W.findIn K (.ref (He.ga K "Let")) "__repr__" = some (some (.ref (He.ma K (He.ga K "Statement") "__repr__"))) from of_decide_eq_true (fact_at c.ex 149)), (fact_at c.ex 148), F_Statement__repr_.kp⟩) (⟨_, fd_Statement__repr_, F_Statement__repr_, (show PySem.W.findIn K (.ref (He.ga K "Copy")) "__repr__" = some (some (.ref (He.ma K (He.ga K "Statement") "__repr__"))) from of_decide_eq_true (fact_at c.ex 150)), (fact_at c.ex 148), F_Statement__repr_.kp⟩) (⟨_, fd_Statement__repr_, F_Statement__repr_, (show PySem.W.findIn K (.ref (He.ga K "Up")) "__repr__" = some (some (.ref (He.ma K (He.ga K "Statement") "__repr__"))) from of_decide_eq_true (fact_at c.ex 151)), (fact_at c.ex 148), F_Statement__repr_.kp⟩) (⟨_, fd_Statement__repr_, F_Statement__repr_, (show PySem.W.findIn K (.ref (He.ga K "Down")) "__repr__" = some (some (.ref (He.ma K (He.ga K "Statement") "__repr__"))) from of_decide_eq_true (fact_at c.ex 152)), (fact_at c.ex 148), F_Statement__repr_.kp⟩) (⟨_, fd_Statement__repr_, F_Statement__repr_, (show PySem.W.findIn K (.ref (He.ga K "Apart")) "__repr__" = some (some (.ref (He.ma K (He.ga K "Statement") "__repr__"))) from of_decide_eq_true (fact_at c.ex 153)), (fact_at c.ex 148), F_Statement__repr_.kp⟩) (⟨_, fd_Statement__repr_, F_Statement__repr_, (show PySem.W.findIn K (.ref (He.ga K "Reverse")) "__repr__" = some (some (.ref (He.ma K (He.ga K "Statement") "__repr__"))) from of_decide_eq_true (fact_at c.ex 154)), (fact_at c.ex 148), F_Statement__repr_.kp⟩) (⟨_, fd_Statement__repr_, F_Statement__repr_, (show PySem.W.findIn K (.ref (He.ga K "Swap")) "__repr__" = some (some (.ref (He.ma K (He.ga K "Statement") "__repr__"))) from of_decide_eq_true (fact_at c.ex 155)), (fact_at c.ex 148), F_Statement__repr_.kp⟩) (⟨_, fd_Statement__repr_, F_Statement__repr_, (show PySem.W.findIn K (.ref (He.ga K "Fill")) "__repr__" = some (some (.ref (He.ma K (He.ga K "Statement") "__repr__"))) from of_decide_eq_true (fact_at c.ex 156)), (fact_at c.ex 148), F_Statement__repr_.kp⟩) (⟨_, fd_Statement__repr_, F_Statement__repr_, (show PySem.W.findIn K (.ref (He.ga K "Resize")) "__repr__" = some (some (.ref (He.ma K (He.ga K "Statement") "__repr__"))) from of_decide_eq_true (fact_at c.ex 157)), (fact_at c.ex 148), F_Statement__repr_.kp⟩)
  obtain ⟨fd_Statement__str_, F_Statement__str_⟩ := c.fn dq_Statement__str_ (List.mem_of_getElem? (i := 35) rfl)
  have D_Statement__str_ : ∀ i, i < 9 → AtM K ((stA K) i) "__str__" "Statement.__str__" s_Statement__str_ := nine (p := fun i => AtM K (stA K i) "__str__" "Statement.__str__" s_Statement__str_) (⟨_, fd_Statement__str_, F_Statement__str_, (show PySem.W.findIn K (.ref (He.ga K "Let")) "__str__" = some (some (.ref (He.ma K (He.ga K "Statement") "__str__"))) from of_decide_eq_true (fact_at c.ex 159)), (fact_at c.ex 158), F_Statement__str_.kp⟩) (⟨_, fd_Statement__str_, F_Statement__str_, (show PySem.W.findIn K (.ref (He.ga K "Copy")) "__str__" = some (some (.ref (He.ma K (He.ga K "Statement") "__str__"))) from of_decide_eq_true (fact_at c.ex 160)), (fact_at c.ex 158), F_Statement__str_.kp⟩) (⟨_, fd_Statement__str_, F_Statement__str_, (show PySem.W.findIn K (.ref (He.ga K "Up")) "__str__" = some (some (.ref (He.ma K (He.ga K "Statement") "__str__"))) from of_decide_eq_true (fact_at c.ex 161)), (fact_at c.ex 158), F_Statement__str_.kp⟩) (⟨_, fd_Statement__str_, F_Statement__str_, (show PySem.W.findIn K (.ref (He.ga K "Down")) "__str__" = some (some (.ref (He.ma K (He.ga K "Statement") "__str__"))) from of_decide_eq_true (fact_at c.ex 162)), (fact_at c.ex 158), F_Statement__str_.kp⟩) (⟨_, fd_Statement__str_, F_Statement__str_, (show PySem.W.findIn K (.ref (He.ga K "Apart")) "__str__" = some (some (.ref (He.ma K (He.ga K "Statement") "__str__"))) from of_decide_eq_true (fact_at c.ex 163)), (fact_at c.ex 158), F_Statement__str_.kp⟩) (⟨_, fd_Statement__str_, F_Statement__str_, (show PySem.W.findIn K (.ref (He.ga K "Reverse")) "__str__" = some (some (.ref (He.ma K (He.ga K "Statement") "__str__"))) from of_decide_eq_true (fact_at c.ex 164)), (fact_at c.ex 158), F_Statement__str_.kp⟩) (⟨_, fd_Statement__str_, F_Statement__str_, (show PySem.W.findIn K (.ref (He.ga K "Swap")) "__str__" = some (some (.ref (He.ma K (He.ga K "Statement") "__str__"))) from of_decide_eq_true (fact_at c.ex 165)), (fact_at c.ex 158), F_Statement__str_.kp⟩) (⟨_, fd_Statement__str_, F_Statement__str_, (show PySem.W.findIn K (.ref (He.ga K "Fill")) "__str__" = some (some (.ref (He.ma K (He.ga K "Statement") "__str__"))) from of_decide_eq_true (fact_at c.ex 166)), (fact_at c.ex 158), F_Statement__str_.kp⟩) (⟨_, fd_Statement__str_, F_Statement__str_, (show PySem.W.findIn K (.ref (He.ga K "Resize")) "__str__" = some (some (.ref (He.ma K (He.ga K "Statement") "__str__"))) from of_decide_eq_true (fact_at c.ex 167)), (fact_at c.ex 158), F_Statement__str_.kp⟩)
  obtain ⟨fd__law_sorts, F__law_sorts⟩ := c.fn dq__law_sorts (List.mem_of_getElem? (i := 36) rfl)
  have D__law_sorts : At K mg "_law_sorts" s__law_sorts := ⟨_, fd__law_sorts, F__law_sorts, He.glo_ok X G (fact_at c.ex 168)⟩
  obtain ⟨fd__law_one_right, F__law_one_right⟩ := c.fn dq__law_one_right (List.mem_of_getElem? (i := 37) rfl)
  have D__law_one_right : At K mg "_law_one_right" s__law_one_right := ⟨_, fd__law_one_right, F__law_one_right, He.glo_ok X G (fact_at c.ex 169)⟩
  obtain ⟨fd__law_say, F__law_say⟩ := c.fn dq__law_say (List.mem_of_getElem? (i := 38) rfl)
  have D__law_say : At K mg "_law_say" s__law_say := ⟨_, fd__law_say, F__law_say, He.glo_ok X G (fact_at c.ex 170)⟩
  obtain ⟨fd__law_unlike, F__law_unlike⟩ := c.fn dq__law_unlike (List.mem_of_getElem? (i := 39) rfl)
  have D__law_unlike : At K mg "_law_unlike" s__law_unlike := ⟨_, fd__law_unlike, F__law_unlike, He.glo_ok X G (fact_at c.ex 171)⟩
  obtain ⟨fd__law_right, F__law_right⟩ := c.fn dq__law_right (List.mem_of_getElem? (i := 40) rfl)
  have D__law_right : At K mg "_law_right" s__law_right := ⟨_, fd__law_right, F__law_right, He.glo_ok X G (fact_at c.ex 172)⟩
  obtain ⟨fd_law, F_law⟩ := c.fn dq_law (List.mem_of_getElem? (i := 41) rfl)
  have D_law : At K mg "law" s_law := ⟨_, fd_law, F_law, He.glo_ok X G (fact_at c.ex 173)⟩
  have hF : ∀ base : Heap, (∀ p ∈ ([] : List (Addr × Addr)), LamX.TabB base mg p.1 p.2) → Has P w K mg base CX0 "law" s_law ["_law_script"] 8 (spLaw K) := fun base tb => by
    have h__law_cell := ok__law_cell (P := P) (w := w) (base := base) T FC MU SC SW FM EF D__law_cell 
    have h__law_purse := ok__law_purse (P := P) (w := w) (base := base) T FC MU SC SW FM EF D__law_purse 
    have h_Form__repr_ := ok_Form__repr_ (P := P) (w := w) (base := base) T FC MU SC SW FM EF D_Form__repr_ 
    have h_is_integer := ok_is_integer (P := P) (w := w) (base := base) T FC MU SC SW FM EF D_is_integer 
    have h_is_name := ok_is_name (P := P) (w := w) (base := base) T FC MU SC SW FM EF D_is_name 
    have h_is_symbol := ok_is_symbol (P := P) (w := w) (base := base) T FC MU SC SW FM EF D_is_symbol h_is_name
    have h_text_of := ok_text_of (P := P) (w := w) (base := base) T FC MU SC SW FM EF D_text_of 
    have h_Form__init_ := ok_Form__init_ (P := P) (w := w) (base := base) T FC MU SC SW FM EF D_Form__init_ h_is_integer h_is_symbol h_text_of
    have h_term_of := ok_term_of (P := P) (w := w) (base := base) T FC MU SC SW FM EF D_term_of h_is_symbol
    have h_form_of := ok_form_of (P := P) (w := w) (base := base) T FC MU SC SW FM EF D_form_of h_Form__init_ h_term_of
    have h_Form_read := ok_Form_read (P := P) (w := w) (base := base) T FC MU SC SW FM EF D_Form_read h_form_of
    have h_Statement__eq_ := ok_Statement__eq_ (P := P) (w := w) (base := base) T FC MU SC SW FM EF D_Statement__eq_ 
    have h__law_arguments := ok__law_arguments (P := P) (w := w) (base := base) T FC MU SC SW FM EF D__law_arguments 
    have h__law_arguments_due := ok__law_arguments_due (P := P) (w := w) (base := base) T FC MU SC SW FM EF D__law_arguments_due 
    have h_Form__str_ := ok_Form__str_ (P := P) (w := w) (base := base) T FC MU SC SW FM EF D_Form__str_ 
    have h_Statement__init_ := ok_Statement__init_ (P := P) (w := w) (base := base) T FC MU SC SW FM EF D_Statement__init_ 
    have h_check_form := ok_check_form (P := P) (w := w) (base := base) T FC MU SC SW FM EF D_check_form 
    have h_check_name := ok_check_name (P := P) (w := w) (base := base) T FC MU SC SW FM EF D_check_name h_is_name
    have h_Copy__init_ := And.intro (ok_Copy__init__1 (P := P) (w := w) (base := base) T FC MU SC SW FM EF D_Copy__init_.1 h_Form__str_ h_Statement__init_ h_check_form h_check_name) (And.intro (ok_Copy__init__2 (P := P) (w := w) (base := base) T FC MU SC SW FM EF D_Copy__init_.2.1 h_Form__str_ h_Statement__init_ h_check_form h_check_name) (And.intro (ok_Copy__init__3 (P := P) (w := w) (base := base) T FC MU SC SW FM EF D_Copy__init_.2.2.1 h_Form__str_ h_Statement__init_ h_check_form h_check_name) (ok_Copy__init__4 (P := P) (w := w) (base := base) T FC MU SC SW FM EF D_Copy__init_.2.2.2 h_Form__str_ h_Statement__init_ h_check_form h_check_name)))
    have h_Fill__init_ := ok_Fill__init__7 (P := P) (w := w) (base := base) T FC MU SC SW FM EF D_Fill__init_ h_Form__str_ h_Statement__init_ h_check_form h_check_name h_is_integer
    have h_Let__init_ := ok_Let__init__0 (P := P) (w := w) (base := base) T FC MU SC SW FM EF D_Let__init_ h_Form__str_ h_Statement__init_ h_check_form h_check_name
    have h_Resize__init_ := ok_Resize__init__8 (P := P) (w := w) (base := base) T FC MU SC SW FM EF D_Resize__init_ h_Form__str_ h_Statement__init_ h_check_form h_check_name
    have h_Reverse__init_ := ok_Reverse__init__5 (P := P) (w := w) (base := base) T FC MU SC SW FM EF D_Reverse__init_ h_Form__str_ h_Statement__init_ h_check_form h_check_name
    have h_Swap__init_ := ok_Swap__init__6 (P := P) (w := w) (base := base) T FC MU SC SW FM EF D_Swap__init_ h_Form__str_ h_Statement__init_ h_check_form h_check_name
    have h__law_by_name := ok__law_by_name (P := P) (w := w) (base := base) T FC MU SC SW FM EF D__law_by_name h_Copy__init_ h_Fill__init_ h_Let__init_ h_Resize__init_ h_Reverse__init_ h_Swap__init_
    have h__law_by_place := ok__law_by_place (P := P) (w := w) (base := base) T FC MU SC SW FM EF D__law_by_place h_Copy__init_ h_Fill__init_ h_Let__init_ h_Resize__init_ h_Reverse__init_ h_Swap__init_
    have h__law_due := ok__law_due (P := P) (w := w) (base := base) T FC MU SC SW FM EF D__law_due 
    have h__law_small := ok__law_small (P := P) (w := w) (base := base) T FC MU SC SW FM EF D__law_small 
    have h__law_take := ok__law_take (P := P) (w := w) (base := base) T FC MU SC SW FM EF D__law_take 
    have h__law_total := ok__law_total (P := P) (w := w) (base := base) T FC MU SC SW FM EF D__law_total 
    have h__law_form := ok__law_form (P := P) (w := w) (base := base) T FC MU SC SW FM EF D__law_form h__law_small h__law_take h__law_total
    have h__law_name := ok__law_name (P := P) (w := w) (base := base) T FC MU SC SW FM EF D__law_name h__law_take
    have h__law_other_name := ok__law_other_name (P := P) (w := w) (base := base) T FC MU SC SW FM EF D__law_other_name h__law_name
    have h__law_names := ok__law_names (P := P) (w := w) (base := base) T FC MU SC SW FM EF D__law_names h__law_other_name h__law_take
    have h_Statement__repr_ := ok_Statement__repr_ (P := P) (w := w) (base := base) T FC MU SC SW FM EF D_Statement__repr_ 
    have h_Statement__str_ := ok_Statement__str_ (P := P) (w := w) (base := base) T FC MU SC SW FM EF D_Statement__str_ 
    have h__law_sorts := ok__law_sorts (P := P) (w := w) (base := base) T FC MU SC SW FM EF D__law_sorts 
    have h__law_one_right := ok__law_one_right (P := P) (w := w) (base := base) T FC MU SC SW FM EF D__law_one_right h_Statement__repr_ h_Statement__str_ h__law_sorts
    have h__law_say := ok__law_say (P := P) (w := w) (base := base) T FC MU SC SW FM EF D__law_say 
    have h__law_unlike := ok__law_unlike (P := P) (w := w) (base := base) T FC MU SC SW FM EF D__law_unlike h_Statement__eq_
    have h__law_right := ok__law_right (P := P) (w := w) (base := base) T FC MU SC SW FM EF D__law_right h_Form__repr_ h_Form_read h_Statement__eq_ h__law_arguments h__law_arguments_due h__law_by_name h__law_by_place h__law_due h__law_form h__law_names h__law_one_right h__law_say h__law_take h__law_unlike
    have h_law := ok_law (P := P) (w := w) (base := base) T FC MU SC SW FM EF D_law h__law_cell h__law_purse h__law_right
    exact h_law
  obtain rfl : He.ga K "law" = fa := by
    have e := (He.glo_ok X G (x := "law") (fact_at c.ex 173)).symm.trans hfa
    cases e
    rfl
  obtain ⟨oc, od, kV, doc, pm, an, cdv, ct, osl, rfl, lk, hcd⟩ := F_law.ex
  exact ⟨_, fun s v => .of_eq rfl, fun base _ _ tb => has_fg ⟨⟨oc, od, kV, doc, pm, an, cdv, ct, osl, rfl, lk, hcd⟩, F_law.kp⟩ hfa (hF base tb)⟩
end K19
open PySem PySem.W PySem.Calls PyProof.Rows
set_option maxRecDepth 100000 in
set_option maxHeartbeats 0 in
theorem PySem.Challenge.cw_blockmoves_k19_statements_made_holds : PySem.Challenge.rw_blockmoves_k19_statements_made.Holds := by
  w_on; o_law
  refine HandSHeadRun.head_any (r := K19.R) (q := view K19.R.prog [81]) (H := K19.hk) (ob := K19.ob) (M := 60000) (loose := K19.loose) (d := HandSHeadRun.topDef K19.R.prog 81) (kwd := []) K19.ob_eq
    (by kernel_rfl) (fun s => by kernel_rfl) K19.run (by kernel_rfl) (by kernel_rfl) (by kernel_rfl) (by rfl) (by first | assumption | decide +kernel) (by decide +kernel) ⟨rfl, rfl, rfl, rfl, rfl, by decide +kernel⟩ ?hw ?hc
  case hw => w_witness2
  case hc =>
    refine G.walkT (l := PySem.Challenge.rw_blockmoves_k19_statements_made) (n := 63) (k := 8) (x := "_law_script") (CX := L2.CX0) rfl (by decide) (by kernel_rfl) ⟨rfl, by decide, by decide⟩ ?F (fun _ _ _ _ z => z)
    intro w mg fa h Y GG hmg0
    obtain ⟨K, KX, c, tb⟩ := Y
    have hmg : mg ("law" : PySem.Str) = some (.ref fa) := by
      have e : (HandSHeadRun.topDef K19.R.prog 81).name = ("law" : PySem.Str) := by kernel_rfl
      rw [← e]
      exact hmg0
    have SP : G.SupP (PySem.Challenge.rw_blockmoves_k19_statements_made).prog "/claim/cut.py" := ⟨by kernel_rfl, by kernel_rfl⟩
    obtain ⟨fd, hb, hF⟩ := K19.all_mk (P := (PySem.Challenge.rw_blockmoves_k19_statements_made).prog) (w := w) SP KX GG hmg c
    refine ⟨K, fd, _, (G.spLaw K), KX, ?tb, hb, ?sp, hF⟩
    case tb => exact fun p hp => (List.not_mem_nil hp).elim
    case sp =>
      intro H a ns hl hT hS
      exact ⟨a, ns, rfl, hS, hl, fun _ => rfl⟩
#print axioms PySem.Challenge.cw_blockmoves_k19_statements_made_holds
