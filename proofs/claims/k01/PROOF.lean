import PyProof.Rows.All
import Wide.All
import KE.KStateDown
import HandS.Head0
import HandS.Head1
import HandS.Head2
import HandS.HeadEnd
import HandS.HeadHook1
import HandS.HeadHook2
import HandS.HeadHook3
import HandS.HeadHook4
import HandS.Words
import OpenK.AllK
import Wide.FinOn
import HandS.ForMost
import KE.KeyNested
import KE.KDictKeyed
import HandS.Codes
import HandS.Zip
import HandS.Star
import HandS.ExcInit
import HandS.Walk
import HandS.TupAny
import HandS.Style
import HandS.Conv
import HandS.RaiseMore
import HandS.Deep
import HandS.IsInst
import HandS.Flow
import HandS.Strs
import HandS.SetFor
import HandS.DictComp
import HandS.More
import HandS.ClsMeth
import HandS.SlotsOwn
import KE.KOpsOwn
import HandS.Lambda
import KE.KDictPairs
import HandS.DictEq
import KE.KDictList
import KE.KDictZip
import PyProof.DictUpdate
import PyProof.SetRoads
import KE.GoesEnum
import HandS.Iter
import PyProof.ReprRoads
import PyProof.ReprLen
import HandS.Ends
import HandS.Defaults
import HandS.NoneIn
import KE.KDictWalk
import HandS.OwnEq
import HandS.EndTab
import HandS.WordsExc
import HandS.TryMany
import HandS.ExcField
import KE.KDictCopyH
import HandS.SetKeys
import HandS.Small
import HandS.TupSets
import HandS.Exc
import HandS.MakeKwOnly
import KE.KExcIs
import PyProof.CallFns
import PySem.Challenge.RW_deedmeanings_k01_errors_made
set_option Elab.async false
set_option linter.all false
set_option maxRecDepth 100000
set_option maxHeartbeats 4000000
/-! the head by facts: the top run in the kernel, nothing of it written out -/
namespace Du
open PySem L2 PySem.Spec PyProof.Rows
/-! addresses by names -/
/-- a class's static method: its object, its function -/
def spA (K : PySem.W.Frag) (C : Addr) (m : Str) : Addr := match PySem.W.findCls K (.ref C) (.type "type") m with
  | some (.get _ (.ref p) _ _) => p
  | _ => 0
def srA (K : PySem.W.Frag) (p : Addr) : List Value := match PySem.W.recIn K p "staticmethod" with
  | some (_ :: r) => r
  | _ => []
def stA (K : PySem.W.Frag) (p : Addr) : Addr := match PySem.W.recIn K p "staticmethod" with
  | some (.ref f :: _) => f
  | _ => 0
/-- a def's defaults, the i-th thing of a tuple -/
def dfA (K : PySem.W.Frag) (f : Addr) : Addr := match K.lookup f with
  | some ⟨_, _, .func fd, _⟩ => (match fd.defaults with
    | .ref T => T
    | _ => 0)
  | _ => 0
def itA (K : PySem.W.Frag) (T : Addr) (i : Nat) : Addr := match K.lookup T with
  | some ⟨_, _, .seq its _, _⟩ => (match its.toList[i]? with
    | some (.ref a) => a
    | _ => 0)
  | _ => 0
/-! facts with something unsaid -/
def isInt (o : Option (Option Value)) (i : Int) : Bool := match o with
  | some (some (.int j _)) => decide (j = i)
  | _ => false
def isStr (o : Option (Option Value)) (z : Str) : Bool := match o with
  | some (some (.str y _)) => decide (y = z)
  | _ => false
def tupIs (K : PySem.W.Frag) (T : Addr) (vs : List Value) : Bool := match K.lookup T with
  | some ⟨.type c, _, .seq its _, _⟩ => decide (c = "tuple") && decide (its.toList = vs)
  | _ => false
def isGet (o : Option PySem.W.CFound) (g a ob tp : Value) : Bool := match o with
  | some (.get g' a' o' t') => decide (g' = g) && (decide (a' = a) && (decide (o' = ob) && decide (t' = tp)))
  | _ => false
def isVal (o : Option PySem.W.CFound) (v : Value) : Bool := match o with
  | some (.val v') => decide (v' = v)
  | _ => false
theorem isVal_ok {o : Option PySem.W.CFound} {v : Value} (h : isVal o v = true) : o = some (.val v) := by
  unfold isVal at h
  split at h
  · rw [of_decide_eq_true h]
  · cases h
/-! error classes -/
def isExcO (o : Option Obj) (C : Addr) (bm : List Value) : Bool := match o with
  | some ⟨.type t, _, .cls ⟨_, _, m, _, _, hd, _, _, _, _, hdel⟩, ⟨[_, _, _, _, some (.builtin nid), _]⟩⟩ => decide (t = "type") && (decide (m = .ref C :: bm) && (hd && (!hdel && decide (nid = "ValueError.__new__"))))
  | _ => false
theorem isExcO_ok {o : Option Obj} {C : Addr} {bm : List Value} (h : isExcO o C bm = true) : ∃ nm q N bs sn sub ab col dd k0 k1 k2 k3 k5, o = some (excClassObj nm q C N bs bm true sn sub ab col dd k0 k1 k2 k3 k5 "ValueError.__new__") := by
  unfold isExcO at h
  split at h
  · rename_i t dd nm bs m N q hd sn sub ab col hdel k0 k1 k2 k3 nid k5
    obtain ⟨h1, h⟩ := He.ba h
    obtain ⟨h2, h⟩ := He.ba h
    obtain ⟨h3, h⟩ := He.ba h
    obtain ⟨h4, h5⟩ := He.ba h
    have h1 := of_decide_eq_true h1
    have h2 := of_decide_eq_true h2
    have h5 := of_decide_eq_true h5
    subst h1 h2 h3 h5
    cases hdel with
    | true => cases h4
    | false => exact ⟨nm, q, N, bs, sn, sub, ab, col, dd, k0, k1, k2, k3, k5, rfl⟩
  · cases h
/-! defs -/
structure DefS where
  ad : PySem.W.Frag → Addr
  name : Str
  qual : Str
  params : Arguments
  body : List Stmt
  scope : Scope
  dT : Option (PySem.W.Frag → Addr) := none
def DefS.val (d : DefS) : He.FnW := some (d.name, d.qual, d.params, .stmts d.body, d.scope, mainGlobals, [], builtinsNs)
def fnAt (K : PySem.W.Frag) (a : Addr) : He.FnW := match K.lookup a with
  | some ⟨_, _, .func fd, _⟩ => some (fd.name, fd.qualname, fd.params, fd.body, fd.scope, fd.globals, fd.closure, fd.builtins)
  | _ => none
def DefS.dV (K : PySem.W.Frag) (d : DefS) : Value := match d.dT with
  | none => .none
  | some T => .ref (T K)
def DefS.ok (K : PySem.W.Frag) (d : DefS) : Bool := PySem.W.keepIn K (.ref (d.ad K)) && (match K.lookup (d.ad K) with
  | some ⟨_, _, .func fd, _⟩ => PySem.W.codeIn K fd.code d.qual && decide (fd.defaults = d.dV K)
  | _ => false)
theorem DefS.fn {K : PySem.W.Frag} {d : DefS} (e : fnAt K (d.ad K) = d.val) (c : d.ok K = true) :
    ∃ (oc : Value) (od : Option Addr) (kV dc pm : Value) (an : Option Addr) (cd ct : Value) (sl : Array (Option Value)), K.lookup (d.ad K) = some ⟨oc, od, .func (PySem.W.fnOf d.name d.qual d.params d.body d.scope (d.dV K) kV dc pm an cd ct), sl⟩ ∧ PySem.W.codeIn K cd d.qual = true ∧ PySem.W.keepIn K (.ref (d.ad K)) = true := by
  obtain ⟨kp, c2⟩ := He.ba c
  unfold fnAt at e
  cases q : K.lookup (d.ad K) with
  | none =>
    rw [q] at c2
    cases c2
  | some o =>
    obtain ⟨oc, od, dt, osl⟩ := o
    rw [q] at c2 e
    cases dt with
    | func fd =>
      obtain ⟨n1, n2, n3, n4, n5, n6, n7, n8, n9, n10, n11, n12, n13, n14, n15⟩ := fd
      have e2 : (some (n1, n2, n3, n4, n5, n6, n7, n15) : He.FnW) = some (d.name, d.qual, d.params, .stmts d.body, d.scope, mainGlobals, [], builtinsNs) := e
      simp only [Option.some.injEq, Prod.mk.injEq] at e2
      obtain ⟨h1, h2, h3, h4, h5, h6, h7, h8⟩ := e2
      have c3 : (PySem.W.codeIn K n13 d.qual && decide (n8 = d.dV K)) = true := c2
      obtain ⟨k1, k2⟩ := He.ba c3
      have k3 := of_decide_eq_true k2
      subst h1 h2 h3 h4 h5 h6 h7 h8 k3
      exact ⟨oc, od, n9, n10, n11, n12, n13, n14, osl, rfl, k1, kp⟩
    | _ => cases c2
/-! the hook -/
structure SaysS (fn : List DefS) (ts : List He.Tab) (tf : List He.Defn) (ex : PySem.W.Frag → List Bool) (w : World) (h : Heap) (K : PySem.W.Frag) : Prop where
  fns : fn.map (fun d => fnAt K (d.ad K)) = fn.map DefS.val
  tabs : ts.map (fun t => He.dicW K (t.1 K)) = ts.map fun t => some (He.keysIn w.params t.2)
  oks : (fn.all fun d => d.ok K) = true
  more : (ex K).all id = true
  hd : ∀ p ∈ tf, PySem.W.codeHdIn K (He.cT K p).1 (He.cT K p).2 = true
  out : ∀ p ∈ tf, K.lookup (He.cT K p).2 = none
  empty : ∀ p ∈ tf, h.get? (He.cT K p).2 = some { cls := .none, data := .fields #[] }
/-- what is looked at: what the module's names reach, and the statics -/
def pushA {α : Type} (m : Nat) (as : List Addr) (b : Addr) (k : Nat → List Addr → α) : α := HandSHeadRun.frNat b fun b => match Nat.land 1 (Nat.shiftRight m b) with
  | 0 => HandSHeadRun.frNat (Nat.lor m (Nat.shiftLeft 1 b)) fun m => k m (b :: as)
  | _ + 1 => k m as
noncomputable def pushAll {α : Type} (bs : List Addr) : Nat → List Addr → (Nat → List Addr → α) → α := @List.rec Addr (fun _ => Nat → List Addr → (Nat → List Addr → α) → α) (fun m as k => k m as) (fun b _ ih m as k => pushA m as b fun m as => ih m as k) bs
noncomputable def stepAll {α : Type} (g : Addr → Option Obj) (fr : List Addr) : Nat → List Addr → (Nat → List Addr → α) → α := @List.rec Addr (fun _ => Nat → List Addr → (Nat → List Addr → α) → α) (fun m as k => k m as) (fun a _ ih m as k => pushAll (match g a with
  | some o => He.refsD o
  | none => []) m as fun m as => ih m as k) fr
/-- level by level, what was seen in one number's bits -/
noncomputable def bfsA (g : Addr → Option Obj) (n : Nat) : List Addr → Nat → List Addr → List Addr := @Nat.rec (fun _ => List Addr → Nat → List Addr → List Addr) (fun fr _ all => all ++ fr) (fun _ ih fr m all => stepAll g fr m [] fun m' new => ih new m' (all ++ fr)) n
noncomputable def asS (g : Addr → Option Obj) (n : Nat) : List Addr := PySem.sysModules :: cStatics :: bfsA g n [mainGlobals] (Nat.shiftLeft 1 mainGlobals) []
abbrev AlS : Type := List He.FnW × List (Option (List (Option (Str × Int)))) × Bool
noncomputable def obsS (n : Nat) (fn : List DefS) (ts : List He.Tab) (tf : List He.Defn) (ex : PySem.W.Frag → List Bool) (g : Addr → Option Obj) : AlS :=
  (fn.map fun d => fnAt (He.frT g (asS g n)) (d.ad (He.frT g (asS g n))), ts.map fun t => He.dicW (He.frT g (asS g n)) (t.1 (He.frT g (asS g n))),
    (fn.all fun d => d.ok (He.frT g (asS g n))) && ((ex (He.frT g (asS g n))).all id && He.tabsB g tf (He.frT g (asS g n))))
def valS (fn : List DefS) (ts : List He.Tab) (w : World) : AlS := (fn.map DefS.val, ts.map fun t => some (He.keysIn w.params t.2), true)
theorem saysS_of {n : Nat} {fn : List DefS} {ts : List He.Tab} {tf : List He.Defn} {ex : PySem.W.Frag → List Bool} {w : World} {h : Heap} (e : obsS n fn ts tf ex h.get? = valS fn ts w) : SaysS fn ts tf ex w h (He.frT h.get? (asS h.get? n)) := by
  unfold obsS valS at e
  simp only [Prod.mk.injEq] at e
  obtain ⟨e1, e2, e3⟩ := e
  obtain ⟨h0, h1⟩ := He.ba e3
  obtain ⟨h1, h2⟩ := He.ba h1
  have key : ∀ p ∈ tf, PySem.W.codeHdIn (He.frT h.get? (asS h.get? n)) (He.cT (He.frT h.get? (asS h.get? n)) p).1 (He.cT (He.frT h.get? (asS h.get? n)) p).2 = true ∧ ∃ o, h.get? (He.cT (He.frT h.get? (asS h.get? n)) p).2 = some o ∧ He.emptyTab o = true := fun p hp => by
    obtain ⟨h3, h4⟩ := He.ba (List.all_eq_true.mp h2 p hp)
    refine ⟨h3, ?_⟩
    cases q : h.get? (He.cT (He.frT h.get? (asS h.get? n)) p).2 with
    | none =>
      rw [q] at h4
      cases h4
    | some o =>
      rw [q] at h4
      exact ⟨o, rfl, h4⟩
  exact ⟨e1, e2, h0, h1, fun p hp => (key p hp).1, fun p hp => by
    obtain ⟨_, o, q, z⟩ := key p hp
    exact He.frT_none q z, fun p hp => by
    obtain ⟨_, o, q, z⟩ := key p hp
    rw [q, He.emptyTab_eq z]⟩
noncomputable def hookS (n : Nat) (fn : List DefS) (ts : List He.Tab) (tf : List He.Defn) (ex : PySem.W.Frag → List Bool) : PySem.W.Hook where
  α := AlS
  obs := fun s => obsS n fn ts tf ex s.heap.get?
  val := fun w => valS fn ts w
  says := fun w h => ∃ K : PySem.W.Frag, K.In h ∧ SaysS fn ts tf ex w h K
  of := fun _ _ e => ⟨_, He.frT_in, saysS_of e⟩
  keeps := fun _ _ _ ⟨K, hK, c⟩ k => ⟨K, PySem.W.Frag.In.keeps hK k, ⟨c.fns, c.tabs, c.oks, c.more, c.hd, c.out, fun p hp => k _ _ (c.empty p hp)⟩⟩
theorem obsS_eq {n : Nat} {fn : List DefS} {ts : List He.Tab} {tf : List He.Defn} {ex : PySem.W.Frag → List Bool} {g : Addr → Option Obj} {s : Shared} (h : ∀ a, g a = s.heap.get? a) : obsS n fn ts tf ex g = (hookS n fn ts tf ex).obs s := by
  have e : g = s.heap.get? := funext h
  rw [e] <;> rfl
section
variable {fn : List DefS} {ts : List He.Tab} {tf : List He.Defn} {ex : PySem.W.Frag → List Bool} {w : World} {h : Heap} {K : PySem.W.Frag}
theorem SaysS.fact (c : SaysS fn ts tf ex w h K) (i : Nat) {b : Bool} (hb : (ex K)[i]? = some b) : b = true := List.all_eq_true.mp c.more b (List.mem_of_getElem? hb)
theorem SaysS.def_ (c : SaysS fn ts tf ex w h K) (i : Nat) {d : DefS} (hd : fn[i]? = some d) :
    ∃ (oc : Value) (od : Option Addr) (kV dc pm : Value) (an : Option Addr) (cd ct : Value) (sl : Array (Option Value)), K.lookup (d.ad K) = some ⟨oc, od, .func (PySem.W.fnOf d.name d.qual d.params d.body d.scope (d.dV K) kV dc pm an cd ct), sl⟩ ∧ PySem.W.codeIn K cd d.qual = true ∧ PySem.W.keepIn K (.ref (d.ad K)) = true := by
  have e2 : (fn.map fun d => fnAt K (d.ad K))[i]? = (fn.map DefS.val)[i]? := by rw [c.fns]
  rw [List.getElem?_map, List.getElem?_map, hd] at e2
  exact DefS.fn (Option.some.inj e2) (List.all_eq_true.mp c.oks d (List.mem_of_getElem? hd))
end
end Du
namespace Du
open PySem L2 PySem.Spec PyProof.Rows
/-! the run stands ahead of all else: it wants the most memory -/
def topR (i : Nat) : Stmt := PySem.Challenge.pw_deedmeanings_k01_errors_made.main.body.getD i (.Pass ⟨0, 0, 0, 0⟩)
def d1 : DefS := ⟨fun K => (He.ma K (He.ga K "BadTruth") "__init__"), "__init__", "BadTruth.__init__", defArgs (inClass (topR 3) 0), defBody (inClass (topR 3) 0), defScope (inClass (topR 3) 0), none⟩
def d2 : DefS := ⟨fun K => (He.ma K (He.ga K "BadTests") "__init__"), "__init__", "BadTests.__init__", defArgs (inClass (topR 5) 0), defBody (inClass (topR 5) 0), defScope (inClass (topR 5) 0), none⟩
def d3 : DefS := ⟨fun K => (He.ma K (He.ga K "BadDeeds") "__init__"), "__init__", "BadDeeds.__init__", defArgs (inClass (topR 6) 0), defBody (inClass (topR 6) 0), defScope (inClass (topR 6) 0), none⟩
def d4 : DefS := ⟨fun K => (He.ma K (He.ga K "BadTruths") "__init__"), "__init__", "BadTruths.__init__", defArgs (inClass (topR 8) 0), defBody (inClass (topR 8) 0), defScope (inClass (topR 8) 0), none⟩
def d5 : DefS := ⟨fun K => (He.ma K (He.ga K "NoDeed") "__init__"), "__init__", "NoDeed.__init__", defArgs (inClass (topR 9) 0), defBody (inClass (topR 9) 0), defScope (inClass (topR 9) 0), none⟩
def d6 : DefS := ⟨fun K => (He.ma K (He.ga K "BadCount") "__init__"), "__init__", "BadCount.__init__", defArgs (inClass (topR 12) 0), defBody (inClass (topR 12) 0), defScope (inClass (topR 12) 0), none⟩
def d7 : DefS := ⟨fun K => (He.ma K (He.ga K "NoPlace") "__init__"), "__init__", "NoPlace.__init__", defArgs (inClass (topR 13) 0), defBody (inClass (topR 13) 0), defScope (inClass (topR 13) 0), none⟩
def d8 : DefS := ⟨fun K => (He.ma K (He.ga K "BadSize") "__init__"), "__init__", "BadSize.__init__", defArgs (inClass (topR 14) 0), defBody (inClass (topR 14) 0), defScope (inClass (topR 14) 0), none⟩
def d9 : DefS := ⟨fun K => (He.ma K (He.ga K "NoState") "__init__"), "__init__", "NoState.__init__", defArgs (inClass (topR 18) 0), defBody (inClass (topR 18) 0), defScope (inClass (topR 18) 0), none⟩
def d10 : DefS := ⟨fun K => (He.ma K (He.ga K "BadRow") "__init__"), "__init__", "BadRow.__init__", defArgs (inClass (topR 19) 0), defBody (inClass (topR 19) 0), defScope (inClass (topR 19) 0), none⟩
def d11 : DefS := ⟨fun K => (He.ma K (He.ga K "BadIndex") "__init__"), "__init__", "BadIndex.__init__", defArgs (inClass (topR 27) 0), defBody (inClass (topR 27) 0), defScope (inClass (topR 27) 0), none⟩
def d12 : DefS := ⟨fun K => (He.ma K (He.ga K "NoRow") "__init__"), "__init__", "NoRow.__init__", defArgs (inClass (topR 28) 0), defBody (inClass (topR 28) 0), defScope (inClass (topR 28) 0), none⟩
def d13 : DefS := ⟨fun K => (He.ma K (He.ga K "BadPurse") "__init__"), "__init__", "BadPurse.__init__", defArgs (inClass (topR 30) 0), defBody (inClass (topR 30) 0), defScope (inClass (topR 30) 0), none⟩
def d14 : DefS := ⟨fun K => (He.ma K (He.ga K "BadName") "__init__"), "__init__", "BadName.__init__", defArgs (inClass (topR 2) 0), defBody (inClass (topR 2) 0), defScope (inClass (topR 2) 0), none⟩
def d15 : DefS := ⟨fun K => (He.ma K (He.ga K "NoTest") "__init__"), "__init__", "NoTest.__init__", defArgs (inClass (topR 10) 0), defBody (inClass (topR 10) 0), defScope (inClass (topR 10) 0), none⟩
def d16 : DefS := ⟨fun K => (He.ma K (He.ga K "BadSet") "__init__"), "__init__", "BadSet.__init__", defArgs (inClass (topR 15) 0), defBody (inClass (topR 15) 0), defScope (inClass (topR 15) 0), none⟩
def d17 : DefS := ⟨fun K => (He.ma K (He.ga K "BadWays") "__init__"), "__init__", "BadWays.__init__", defArgs (inClass (topR 16) 0), defBody (inClass (topR 16) 0), defScope (inClass (topR 16) 0), none⟩
def d18 : DefS := ⟨fun K => (He.ma K (He.ga K "NoName") "__init__"), "__init__", "NoName.__init__", defArgs (inClass (topR 21) 0), defBody (inClass (topR 21) 0), defScope (inClass (topR 21) 0), none⟩
def d19 : DefS := ⟨fun K => (He.ma K (He.ga K "Leaned") "__init__"), "__init__", "Leaned.__init__", defArgs (inClass (topR 23) 0), defBody (inClass (topR 23) 0), defScope (inClass (topR 23) 0), none⟩
def d20 : DefS := ⟨fun K => (He.ma K (He.ga K "BadCosts") "__init__"), "__init__", "BadCosts.__init__", defArgs (inClass (topR 29) 0), defBody (inClass (topR 29) 0), defScope (inClass (topR 29) 0), none⟩
def d21 : DefS := ⟨fun K => (He.ma K (He.ga K "BadWeights") "__init__"), "__init__", "BadWeights.__init__", defArgs (inClass (topR 31) 0), defBody (inClass (topR 31) 0), defScope (inClass (topR 31) 0), none⟩
def d22 : DefS := ⟨fun K => (He.ma K (He.ga K "BadEquation") "__init__"), "__init__", "BadEquation.__init__", defArgs (inClass (topR 33) 0), defBody (inClass (topR 33) 0), defScope (inClass (topR 33) 0), none⟩
def d23 : DefS := ⟨fun K => (He.ma K (He.ga K "BadTerm") "__init__"), "__init__", "BadTerm.__init__", defArgs (inClass (topR 4) 0), defBody (inClass (topR 4) 0), defScope (inClass (topR 4) 0), none⟩
def d24 : DefS := ⟨fun K => (He.ma K (He.ga K "BadPromise") "__init__"), "__init__", "BadPromise.__init__", defArgs (inClass (topR 7) 0), defBody (inClass (topR 7) 0), defScope (inClass (topR 7) 0), none⟩
def d25 : DefS := ⟨fun K => (He.ma K (He.ga K "BadLine") "__init__"), "__init__", "BadLine.__init__", defArgs (inClass (topR 20) 0), defBody (inClass (topR 20) 0), defScope (inClass (topR 20) 0), none⟩
def d26 : DefS := ⟨fun K => (He.ma K (He.ga K "BadBar") "__init__"), "__init__", "BadBar.__init__", defArgs (inClass (topR 26) 0), defBody (inClass (topR 26) 0), defScope (inClass (topR 26) 0), none⟩
def d27 : DefS := ⟨fun K => (He.ma K (He.ga K "Broken") "__init__"), "__init__", "Broken.__init__", defArgs (inClass (topR 17) 0), defBody (inClass (topR 17) 0), defScope (inClass (topR 17) 0), none⟩
def d28 : DefS := ⟨fun K => (He.ma K (He.ga K "Refused") "__init__"), "__init__", "Refused.__init__", defArgs (inClass (topR 22) 0), defBody (inClass (topR 22) 0), defScope (inClass (topR 22) 0), none⟩
def d29 : DefS := ⟨fun K => (He.ma K (He.ga K "UnlikeBooks") "__init__"), "__init__", "UnlikeBooks.__init__", defArgs (inClass (topR 11) 0), defBody (inClass (topR 11) 0), defScope (inClass (topR 11) 0), none⟩
def d30 : DefS := ⟨fun K => (He.ma K (He.ga K "BadText") "__init__"), "__init__", "BadText.__init__", defArgs (inClass (topR 25) 0), defBody (inClass (topR 25) 0), defScope (inClass (topR 25) 0), none⟩
def d31 : DefS := ⟨fun K => (He.ma K (He.ga K "NothingToUndo") "__init__"), "__init__", "NothingToUndo.__init__", defArgs (inClass (topR 24) 0), defBody (inClass (topR 24) 0), defScope (inClass (topR 24) 0), none⟩
def d32 : DefS := ⟨fun K => (He.ma K (He.ga K "NotSure") "__init__"), "__init__", "NotSure.__init__", defArgs (inClass (topR 32) 0), defBody (inClass (topR 32) 0), defScope (inClass (topR 32) 0), none⟩
def d33 : DefS := ⟨fun K => (He.ga K "_law_spring"), "_law_spring", "_law_spring", defArgs (topR 35), defBody (topR 35), defScope (topR 35), none⟩
def d34 : DefS := ⟨fun K => (He.ga K "_law_draw"), "_law_draw", "_law_draw", defArgs (topR 36), defBody (topR 36), defScope (topR 36), none⟩
def d35 : DefS := ⟨fun K => (He.ga K "_law_pick"), "_law_pick", "_law_pick", defArgs (topR 37), defBody (topR 37), defScope (topR 37), none⟩
def d36 : DefS := ⟨fun K => (He.ga K "_law_things"), "_law_things", "_law_things", defArgs (topR 38), defBody (topR 38), defScope (topR 38), none⟩
def d37 : DefS := ⟨fun K => (He.ga K "_law_names"), "_law_names", "_law_names", defArgs (topR 39), defBody (topR 39), defScope (topR 39), none⟩
def d38 : DefS := ⟨fun K => (He.ga K "_law_others"), "_law_others", "_law_others", defArgs (topR 40), defBody (topR 40), defScope (topR 40), none⟩
def d39 : DefS := ⟨fun K => (He.ga K "_law_classes"), "_law_classes", "_law_classes", defArgs (topR 41), defBody (topR 41), defScope (topR 41), none⟩
def d40 : DefS := ⟨fun K => (He.ga K "_law_is_alone"), "_law_is_alone", "_law_is_alone", defArgs (topR 42), defBody (topR 42), defScope (topR 42), none⟩
def d41 : DefS := ⟨fun K => (He.ga K "law"), "law", "law", defArgs (topR 43), defBody (topR 43), defScope (topR 43), none⟩
def fnL : List DefS := [d1, d2, d3, d4, d5, d6, d7, d8, d9, d10, d11, d12, d13, d14, d15, d16, d17, d18, d19, d20, d21, d22, d23, d24, d25, d26, d27, d28, d29, d30, d31, d32, d33, d34, d35, d36, d37, d38, d39, d40, d41]
def tabL : List He.Tab := []
def exL (K : PySem.W.Frag) : List Bool := [
  decide (PySem.W.findIn K (.ref (He.ga K "BadTruth")) "__init__" = some (some (.ref (He.ma K (He.ga K "BadTruth") "__init__")))),
  PySem.W.isFn K (.ref (He.ma K (He.ga K "BadTruth") "__init__")),
  decide (PySem.W.findIn K (.ref (He.ga K "BadTests")) "__init__" = some (some (.ref (He.ma K (He.ga K "BadTests") "__init__")))),
  PySem.W.isFn K (.ref (He.ma K (He.ga K "BadTests") "__init__")),
  decide (PySem.W.findIn K (.ref (He.ga K "BadDeeds")) "__init__" = some (some (.ref (He.ma K (He.ga K "BadDeeds") "__init__")))),
  PySem.W.isFn K (.ref (He.ma K (He.ga K "BadDeeds") "__init__")),
  decide (PySem.W.findIn K (.ref (He.ga K "BadTruths")) "__init__" = some (some (.ref (He.ma K (He.ga K "BadTruths") "__init__")))),
  PySem.W.isFn K (.ref (He.ma K (He.ga K "BadTruths") "__init__")),
  decide (PySem.W.findIn K (.ref (He.ga K "NoDeed")) "__init__" = some (some (.ref (He.ma K (He.ga K "NoDeed") "__init__")))),
  PySem.W.isFn K (.ref (He.ma K (He.ga K "NoDeed") "__init__")),
  decide (PySem.W.findIn K (.ref (He.ga K "BadCount")) "__init__" = some (some (.ref (He.ma K (He.ga K "BadCount") "__init__")))),
  PySem.W.isFn K (.ref (He.ma K (He.ga K "BadCount") "__init__")),
  decide (PySem.W.findIn K (.ref (He.ga K "NoPlace")) "__init__" = some (some (.ref (He.ma K (He.ga K "NoPlace") "__init__")))),
  PySem.W.isFn K (.ref (He.ma K (He.ga K "NoPlace") "__init__")),
  decide (PySem.W.findIn K (.ref (He.ga K "BadSize")) "__init__" = some (some (.ref (He.ma K (He.ga K "BadSize") "__init__")))),
  PySem.W.isFn K (.ref (He.ma K (He.ga K "BadSize") "__init__")),
  decide (PySem.W.findIn K (.ref (He.ga K "NoState")) "__init__" = some (some (.ref (He.ma K (He.ga K "NoState") "__init__")))),
  PySem.W.isFn K (.ref (He.ma K (He.ga K "NoState") "__init__")),
  decide (PySem.W.findIn K (.ref (He.ga K "BadRow")) "__init__" = some (some (.ref (He.ma K (He.ga K "BadRow") "__init__")))),
  PySem.W.isFn K (.ref (He.ma K (He.ga K "BadRow") "__init__")),
  decide (PySem.W.findIn K (.ref (He.ga K "BadIndex")) "__init__" = some (some (.ref (He.ma K (He.ga K "BadIndex") "__init__")))),
  PySem.W.isFn K (.ref (He.ma K (He.ga K "BadIndex") "__init__")),
  decide (PySem.W.findIn K (.ref (He.ga K "NoRow")) "__init__" = some (some (.ref (He.ma K (He.ga K "NoRow") "__init__")))),
  PySem.W.isFn K (.ref (He.ma K (He.ga K "NoRow") "__init__")),
  decide (PySem.W.findIn K (.ref (He.ga K "BadPurse")) "__init__" = some (some (.ref (He.ma K (He.ga K "BadPurse") "__init__")))),
  PySem.W.isFn K (.ref (He.ma K (He.ga K "BadPurse") "__init__")),
  decide (PySem.W.findIn K (.ref (He.ga K "BadName")) "__init__" = some (some (.ref (He.ma K (He.ga K "BadName") "__init__")))),
  PySem.W.isFn K (.ref (He.ma K (He.ga K "BadName") "__init__")),
  decide (PySem.W.findIn K (.ref (He.ga K "NoTest")) "__init__" = some (some (.ref (He.ma K (He.ga K "NoTest") "__init__")))),
  PySem.W.isFn K (.ref (He.ma K (He.ga K "NoTest") "__init__")),
  decide (PySem.W.findIn K (.ref (He.ga K "BadSet")) "__init__" = some (some (.ref (He.ma K (He.ga K "BadSet") "__init__")))),
  PySem.W.isFn K (.ref (He.ma K (He.ga K "BadSet") "__init__")),
  decide (PySem.W.findIn K (.ref (He.ga K "BadWays")) "__init__" = some (some (.ref (He.ma K (He.ga K "BadWays") "__init__")))),
  PySem.W.isFn K (.ref (He.ma K (He.ga K "BadWays") "__init__")),
  decide (PySem.W.findIn K (.ref (He.ga K "NoName")) "__init__" = some (some (.ref (He.ma K (He.ga K "NoName") "__init__")))),
  PySem.W.isFn K (.ref (He.ma K (He.ga K "NoName") "__init__")),
  decide (PySem.W.findIn K (.ref (He.ga K "Leaned")) "__init__" = some (some (.ref (He.ma K (He.ga K "Leaned") "__init__")))),
  PySem.W.isFn K (.ref (He.ma K (He.ga K "Leaned") "__init__")),
  decide (PySem.W.findIn K (.ref (He.ga K "BadCosts")) "__init__" = some (some (.ref (He.ma K (He.ga K "BadCosts") "__init__")))),
  PySem.W.isFn K (.ref (He.ma K (He.ga K "BadCosts") "__init__")),
  decide (PySem.W.findIn K (.ref (He.ga K "BadWeights")) "__init__" = some (some (.ref (He.ma K (He.ga K "BadWeights") "__init__")))),
  PySem.W.isFn K (.ref (He.ma K (He.ga K "BadWeights") "__init__")),
  decide (PySem.W.findIn K (.ref (He.ga K "BadEquation")) "__init__" = some (some (.ref (He.ma K (He.ga K "BadEquation") "__init__")))),
  PySem.W.isFn K (.ref (He.ma K (He.ga K "BadEquation") "__init__")),
  decide (PySem.W.findIn K (.ref (He.ga K "BadTerm")) "__init__" = some (some (.ref (He.ma K (He.ga K "BadTerm") "__init__")))),
  PySem.W.isFn K (.ref (He.ma K (He.ga K "BadTerm") "__init__")),
  decide (PySem.W.findIn K (.ref (He.ga K "BadPromise")) "__init__" = some (some (.ref (He.ma K (He.ga K "BadPromise") "__init__")))),
  PySem.W.isFn K (.ref (He.ma K (He.ga K "BadPromise") "__init__")),
  decide (PySem.W.findIn K (.ref (He.ga K "BadLine")) "__init__" = some (some (.ref (He.ma K (He.ga K "BadLine") "__init__")))),
  PySem.W.isFn K (.ref (He.ma K (He.ga K "BadLine") "__init__")),
  decide (PySem.W.findIn K (.ref (He.ga K "BadBar")) "__init__" = some (some (.ref (He.ma K (He.ga K "BadBar") "__init__")))),
  PySem.W.isFn K (.ref (He.ma K (He.ga K "BadBar") "__init__")),
  decide (PySem.W.findIn K (.ref (He.ga K "Broken")) "__init__" = some (some (.ref (He.ma K (He.ga K "Broken") "__init__")))),
  PySem.W.isFn K (.ref (He.ma K (He.ga K "Broken") "__init__")),
  decide (PySem.W.findIn K (.ref (He.ga K "Refused")) "__init__" = some (some (.ref (He.ma K (He.ga K "Refused") "__init__")))),
  PySem.W.isFn K (.ref (He.ma K (He.ga K "Refused") "__init__")),
  decide (PySem.W.findIn K (.ref (He.ga K "UnlikeBooks")) "__init__" = some (some (.ref (He.ma K (He.ga K "UnlikeBooks") "__init__")))),
  PySem.W.isFn K (.ref (He.ma K (He.ga K "UnlikeBooks") "__init__")),
  decide (PySem.W.findIn K (.ref (He.ga K "BadText")) "__init__" = some (some (.ref (He.ma K (He.ga K "BadText") "__init__")))),
  PySem.W.isFn K (.ref (He.ma K (He.ga K "BadText") "__init__")),
  decide (PySem.W.findIn K (.ref (He.ga K "NothingToUndo")) "__init__" = some (some (.ref (He.ma K (He.ga K "NothingToUndo") "__init__")))),
  PySem.W.isFn K (.ref (He.ma K (He.ga K "NothingToUndo") "__init__")),
  decide (PySem.W.findIn K (.ref (He.ga K "NotSure")) "__init__" = some (some (.ref (He.ma K (He.ga K "NotSure") "__init__")))),
  PySem.W.isFn K (.ref (He.ma K (He.ga K "NotSure") "__init__")),
  decide (PySem.W.nsIn K mainGlobals "_law_spring" = some (some (.ref (He.ga K "_law_spring")))),
  decide (PySem.W.nsIn K mainGlobals "_law_draw" = some (some (.ref (He.ga K "_law_draw")))),
  decide (PySem.W.nsIn K mainGlobals "_law_pick" = some (some (.ref (He.ga K "_law_pick")))),
  decide (PySem.W.nsIn K mainGlobals "_law_things" = some (some (.ref (He.ga K "_law_things")))),
  decide (PySem.W.nsIn K mainGlobals "_law_names" = some (some (.ref (He.ga K "_law_names")))),
  decide (PySem.W.nsIn K mainGlobals "_law_others" = some (some (.ref (He.ga K "_law_others")))),
  decide (PySem.W.nsIn K mainGlobals "_law_classes" = some (some (.ref (He.ga K "_law_classes")))),
  decide (PySem.W.nsIn K mainGlobals "_law_is_alone" = some (some (.ref (He.ga K "_law_is_alone")))),
  decide (PySem.W.nsIn K mainGlobals "law" = some (some (.ref (He.ga K "law")))),
  decide (PySem.W.nsIn K mainGlobals "DeedError" = some (some (.ref (He.ga K "DeedError")))),
  PySem.W.readsIn K (He.ga K "DeedError") (.type "type"),
  decide (PySem.W.specialIn K (.ref (He.ga K "DeedError")) "__getattribute__" = some (some (.builtin "type.__getattribute__"))),
  isVal (PySem.W.findCls K (.ref (He.ga K "DeedError")) (.type "type") "__init__") (.builtin "ValueError.__init__"),
  PySem.W.isClsIn K (He.ga K "DeedError"),
  decide (PySem.W.typeIn K (.ref (He.ga K "DeedError")) = some (.type "type")),
  decide (PySem.W.specialIn K (.builtin "object.__class__") "__get__" = some (some (.builtin "getset_descriptor.__get__"))),
  decide (PySem.W.takesIn K (.builtin "object.__class__") = some true),
  (List.lookup PySem.sysModules K).isSome,
  ((((["BadTruth", "BadTests", "BadDeeds", "BadTruths", "NoDeed", "BadCount", "NoPlace", "BadSize", "NoState", "BadRow", "BadIndex"] : List Str) ++ (["NoRow", "BadPurse", "BadName", "NoTest", "BadSet", "BadWays", "NoName", "Leaned", "BadCosts", "BadWeights", "BadEquation"] : List Str)) ++ (["BadTerm", "BadPromise", "BadLine", "BadBar", "Broken", "Refused", "UnlikeBooks", "BadText", "NothingToUndo", "NotSure"] : List Str)).all fun n => (((["BadTruth", "BadTests", "BadDeeds", "BadTruths", "NoDeed", "BadCount", "NoPlace", "BadSize", "NoState", "BadRow", "BadIndex"] : List Str) ++ (["NoRow", "BadPurse", "BadName", "NoTest", "BadSet", "BadWays", "NoName", "Leaned", "BadCosts", "BadWeights", "BadEquation"] : List Str)) ++ (["BadTerm", "BadPromise", "BadLine", "BadBar", "Broken", "Refused", "UnlikeBooks", "BadText", "NothingToUndo", "NotSure"] : List Str)).all fun m => (decide (n = m) || (decide (PySem.W.subIn K (.ref (He.ga K n)) (.ref (He.ga K m)) = some false) && !(He.ga K n == He.ga K m)))),
  ((((["BadTruth", "BadTests", "BadDeeds", "BadTruths", "NoDeed", "BadCount", "NoPlace", "BadSize", "NoState", "BadRow", "BadIndex"] : List Str) ++ (["NoRow", "BadPurse", "BadName", "NoTest", "BadSet", "BadWays", "NoName", "Leaned", "BadCosts", "BadWeights", "BadEquation"] : List Str)) ++ (["BadTerm", "BadPromise", "BadLine", "BadBar", "Broken", "Refused", "UnlikeBooks", "BadText", "NothingToUndo", "NotSure"] : List Str)).all fun n => (decide (PySem.W.subIn K (.ref (He.ga K n)) (.ref (He.ga K "DeedError")) = some true) && !(He.ga K n == He.ga K "DeedError"))),
  ((((["BadTruth", "BadTests", "BadDeeds", "BadTruths", "NoDeed", "BadCount", "NoPlace", "BadSize", "NoState", "BadRow", "BadIndex"] : List Str) ++ (["NoRow", "BadPurse", "BadName", "NoTest", "BadSet", "BadWays", "NoName", "Leaned", "BadCosts", "BadWeights", "BadEquation"] : List Str)) ++ (["BadTerm", "BadPromise", "BadLine", "BadBar", "Broken", "Refused", "UnlikeBooks", "BadText", "NothingToUndo", "NotSure"] : List Str)).all fun n => decide (PySem.W.subIn K (.ref (He.ga K n)) (.type "ValueError") = some true)),
  decide (PySem.W.nsIn K mainGlobals "BadTruth" = some (some (.ref (He.ga K "BadTruth")))),
  isExcO (K.lookup (He.ga K "BadTruth")) (He.ga K "BadTruth") [.ref (He.ga K "DeedError"), .type "ValueError", .type "Exception", .type "BaseException", .type "object"],
  decide (PySem.W.findIn K (.ref (He.ga K "BadTruth")) "__setattr__" = some (some (.builtin "object.__setattr__"))),
  decide (PySem.W.subIn K (.ref (He.ga K "BadTruth")) (.type "BaseException") = some true),
  decide (PySem.W.typeIn K (.ref (He.ga K "BadTruth")) = some (.type "type")),
  PySem.W.keepIn K (.ref (He.ga K "BadTruth")),
  PySem.W.isClsIn K (He.ga K "BadTruth"),
  decide (PySem.W.typeIn K (.ref (He.ma K (He.ga K "BadTruth") "__init__")) = some (.type "function")),
  decide (PySem.W.findIn K (.ref (He.ga K "BadTruth")) "__getattribute__" = some (some (.builtin "BaseException.__getattribute__"))),
  decide (PySem.W.findIn K (.ref (He.ga K "BadTruth")) "__getattr__" = some none),
  PySem.W.hasDictIn K (He.ga K "BadTruth"),
  decide (PySem.W.findIn K (.ref (He.ga K "BadTruth")) "__class__" = some (some (.builtin "object.__class__"))),
  decide (PySem.W.mroIn K (He.ga K "BadTruth") (.type "object") = some true),
  decide (PySem.W.findIn K (.ref (He.ga K "BadTruth")) "thing" = some none),
  decide (PySem.W.nsIn K mainGlobals "BadTests" = some (some (.ref (He.ga K "BadTests")))),
  isExcO (K.lookup (He.ga K "BadTests")) (He.ga K "BadTests") [.ref (He.ga K "DeedError"), .type "ValueError", .type "Exception", .type "BaseException", .type "object"],
  decide (PySem.W.findIn K (.ref (He.ga K "BadTests")) "__setattr__" = some (some (.builtin "object.__setattr__"))),
  decide (PySem.W.subIn K (.ref (He.ga K "BadTests")) (.type "BaseException") = some true),
  decide (PySem.W.typeIn K (.ref (He.ga K "BadTests")) = some (.type "type")),
  PySem.W.keepIn K (.ref (He.ga K "BadTests")),
  PySem.W.isClsIn K (He.ga K "BadTests"),
  decide (PySem.W.typeIn K (.ref (He.ma K (He.ga K "BadTests") "__init__")) = some (.type "function")),
  decide (PySem.W.findIn K (.ref (He.ga K "BadTests")) "__getattribute__" = some (some (.builtin "BaseException.__getattribute__"))),
  decide (PySem.W.findIn K (.ref (He.ga K "BadTests")) "__getattr__" = some none),
  PySem.W.hasDictIn K (He.ga K "BadTests"),
  decide (PySem.W.findIn K (.ref (He.ga K "BadTests")) "__class__" = some (some (.builtin "object.__class__"))),
  decide (PySem.W.mroIn K (He.ga K "BadTests") (.type "object") = some true),
  decide (PySem.W.findIn K (.ref (He.ga K "BadTests")) "thing" = some none),
  decide (PySem.W.nsIn K mainGlobals "BadDeeds" = some (some (.ref (He.ga K "BadDeeds")))),
  isExcO (K.lookup (He.ga K "BadDeeds")) (He.ga K "BadDeeds") [.ref (He.ga K "DeedError"), .type "ValueError", .type "Exception", .type "BaseException", .type "object"],
  decide (PySem.W.findIn K (.ref (He.ga K "BadDeeds")) "__setattr__" = some (some (.builtin "object.__setattr__"))),
  decide (PySem.W.subIn K (.ref (He.ga K "BadDeeds")) (.type "BaseException") = some true),
  decide (PySem.W.typeIn K (.ref (He.ga K "BadDeeds")) = some (.type "type")),
  PySem.W.keepIn K (.ref (He.ga K "BadDeeds")),
  PySem.W.isClsIn K (He.ga K "BadDeeds"),
  decide (PySem.W.typeIn K (.ref (He.ma K (He.ga K "BadDeeds") "__init__")) = some (.type "function")),
  decide (PySem.W.findIn K (.ref (He.ga K "BadDeeds")) "__getattribute__" = some (some (.builtin "BaseException.__getattribute__"))),
  decide (PySem.W.findIn K (.ref (He.ga K "BadDeeds")) "__getattr__" = some none),
  PySem.W.hasDictIn K (He.ga K "BadDeeds"),
  decide (PySem.W.findIn K (.ref (He.ga K "BadDeeds")) "__class__" = some (some (.builtin "object.__class__"))),
  decide (PySem.W.mroIn K (He.ga K "BadDeeds") (.type "object") = some true),
  decide (PySem.W.findIn K (.ref (He.ga K "BadDeeds")) "thing" = some none),
  decide (PySem.W.nsIn K mainGlobals "BadTruths" = some (some (.ref (He.ga K "BadTruths")))),
  isExcO (K.lookup (He.ga K "BadTruths")) (He.ga K "BadTruths") [.ref (He.ga K "DeedError"), .type "ValueError", .type "Exception", .type "BaseException", .type "object"],
  decide (PySem.W.findIn K (.ref (He.ga K "BadTruths")) "__setattr__" = some (some (.builtin "object.__setattr__"))),
  decide (PySem.W.subIn K (.ref (He.ga K "BadTruths")) (.type "BaseException") = some true),
  decide (PySem.W.typeIn K (.ref (He.ga K "BadTruths")) = some (.type "type")),
  PySem.W.keepIn K (.ref (He.ga K "BadTruths")),
  PySem.W.isClsIn K (He.ga K "BadTruths"),
  decide (PySem.W.typeIn K (.ref (He.ma K (He.ga K "BadTruths") "__init__")) = some (.type "function")),
  decide (PySem.W.findIn K (.ref (He.ga K "BadTruths")) "__getattribute__" = some (some (.builtin "BaseException.__getattribute__"))),
  decide (PySem.W.findIn K (.ref (He.ga K "BadTruths")) "__getattr__" = some none),
  PySem.W.hasDictIn K (He.ga K "BadTruths"),
  decide (PySem.W.findIn K (.ref (He.ga K "BadTruths")) "__class__" = some (some (.builtin "object.__class__"))),
  decide (PySem.W.mroIn K (He.ga K "BadTruths") (.type "object") = some true),
  decide (PySem.W.findIn K (.ref (He.ga K "BadTruths")) "thing" = some none),
  decide (PySem.W.nsIn K mainGlobals "NoDeed" = some (some (.ref (He.ga K "NoDeed")))),
  isExcO (K.lookup (He.ga K "NoDeed")) (He.ga K "NoDeed") [.ref (He.ga K "DeedError"), .type "ValueError", .type "Exception", .type "BaseException", .type "object"],
  decide (PySem.W.findIn K (.ref (He.ga K "NoDeed")) "__setattr__" = some (some (.builtin "object.__setattr__"))),
  decide (PySem.W.subIn K (.ref (He.ga K "NoDeed")) (.type "BaseException") = some true),
  decide (PySem.W.typeIn K (.ref (He.ga K "NoDeed")) = some (.type "type")),
  PySem.W.keepIn K (.ref (He.ga K "NoDeed")),
  PySem.W.isClsIn K (He.ga K "NoDeed"),
  decide (PySem.W.typeIn K (.ref (He.ma K (He.ga K "NoDeed") "__init__")) = some (.type "function")),
  decide (PySem.W.findIn K (.ref (He.ga K "NoDeed")) "__getattribute__" = some (some (.builtin "BaseException.__getattribute__"))),
  decide (PySem.W.findIn K (.ref (He.ga K "NoDeed")) "__getattr__" = some none),
  PySem.W.hasDictIn K (He.ga K "NoDeed"),
  decide (PySem.W.findIn K (.ref (He.ga K "NoDeed")) "__class__" = some (some (.builtin "object.__class__"))),
  decide (PySem.W.mroIn K (He.ga K "NoDeed") (.type "object") = some true),
  decide (PySem.W.findIn K (.ref (He.ga K "NoDeed")) "thing" = some none),
  decide (PySem.W.nsIn K mainGlobals "BadCount" = some (some (.ref (He.ga K "BadCount")))),
  isExcO (K.lookup (He.ga K "BadCount")) (He.ga K "BadCount") [.ref (He.ga K "DeedError"), .type "ValueError", .type "Exception", .type "BaseException", .type "object"],
  decide (PySem.W.findIn K (.ref (He.ga K "BadCount")) "__setattr__" = some (some (.builtin "object.__setattr__"))),
  decide (PySem.W.subIn K (.ref (He.ga K "BadCount")) (.type "BaseException") = some true),
  decide (PySem.W.typeIn K (.ref (He.ga K "BadCount")) = some (.type "type")),
  PySem.W.keepIn K (.ref (He.ga K "BadCount")),
  PySem.W.isClsIn K (He.ga K "BadCount"),
  decide (PySem.W.typeIn K (.ref (He.ma K (He.ga K "BadCount") "__init__")) = some (.type "function")),
  decide (PySem.W.findIn K (.ref (He.ga K "BadCount")) "__getattribute__" = some (some (.builtin "BaseException.__getattribute__"))),
  decide (PySem.W.findIn K (.ref (He.ga K "BadCount")) "__getattr__" = some none),
  PySem.W.hasDictIn K (He.ga K "BadCount"),
  decide (PySem.W.findIn K (.ref (He.ga K "BadCount")) "__class__" = some (some (.builtin "object.__class__"))),
  decide (PySem.W.mroIn K (He.ga K "BadCount") (.type "object") = some true),
  decide (PySem.W.findIn K (.ref (He.ga K "BadCount")) "thing" = some none),
  decide (PySem.W.nsIn K mainGlobals "NoPlace" = some (some (.ref (He.ga K "NoPlace")))),
  isExcO (K.lookup (He.ga K "NoPlace")) (He.ga K "NoPlace") [.ref (He.ga K "DeedError"), .type "ValueError", .type "Exception", .type "BaseException", .type "object"],
  decide (PySem.W.findIn K (.ref (He.ga K "NoPlace")) "__setattr__" = some (some (.builtin "object.__setattr__"))),
  decide (PySem.W.subIn K (.ref (He.ga K "NoPlace")) (.type "BaseException") = some true),
  decide (PySem.W.typeIn K (.ref (He.ga K "NoPlace")) = some (.type "type")),
  PySem.W.keepIn K (.ref (He.ga K "NoPlace")),
  PySem.W.isClsIn K (He.ga K "NoPlace"),
  decide (PySem.W.typeIn K (.ref (He.ma K (He.ga K "NoPlace") "__init__")) = some (.type "function")),
  decide (PySem.W.findIn K (.ref (He.ga K "NoPlace")) "__getattribute__" = some (some (.builtin "BaseException.__getattribute__"))),
  decide (PySem.W.findIn K (.ref (He.ga K "NoPlace")) "__getattr__" = some none),
  PySem.W.hasDictIn K (He.ga K "NoPlace"),
  decide (PySem.W.findIn K (.ref (He.ga K "NoPlace")) "__class__" = some (some (.builtin "object.__class__"))),
  decide (PySem.W.mroIn K (He.ga K "NoPlace") (.type "object") = some true),
  decide (PySem.W.findIn K (.ref (He.ga K "NoPlace")) "thing" = some none),
  decide (PySem.W.nsIn K mainGlobals "BadSize" = some (some (.ref (He.ga K "BadSize")))),
  isExcO (K.lookup (He.ga K "BadSize")) (He.ga K "BadSize") [.ref (He.ga K "DeedError"), .type "ValueError", .type "Exception", .type "BaseException", .type "object"],
  decide (PySem.W.findIn K (.ref (He.ga K "BadSize")) "__setattr__" = some (some (.builtin "object.__setattr__"))),
  decide (PySem.W.subIn K (.ref (He.ga K "BadSize")) (.type "BaseException") = some true),
  decide (PySem.W.typeIn K (.ref (He.ga K "BadSize")) = some (.type "type")),
  PySem.W.keepIn K (.ref (He.ga K "BadSize")),
  PySem.W.isClsIn K (He.ga K "BadSize"),
  decide (PySem.W.typeIn K (.ref (He.ma K (He.ga K "BadSize") "__init__")) = some (.type "function")),
  decide (PySem.W.findIn K (.ref (He.ga K "BadSize")) "__getattribute__" = some (some (.builtin "BaseException.__getattribute__"))),
  decide (PySem.W.findIn K (.ref (He.ga K "BadSize")) "__getattr__" = some none),
  PySem.W.hasDictIn K (He.ga K "BadSize"),
  decide (PySem.W.findIn K (.ref (He.ga K "BadSize")) "__class__" = some (some (.builtin "object.__class__"))),
  decide (PySem.W.mroIn K (He.ga K "BadSize") (.type "object") = some true),
  decide (PySem.W.findIn K (.ref (He.ga K "BadSize")) "thing" = some none),
  decide (PySem.W.nsIn K mainGlobals "NoState" = some (some (.ref (He.ga K "NoState")))),
  isExcO (K.lookup (He.ga K "NoState")) (He.ga K "NoState") [.ref (He.ga K "DeedError"), .type "ValueError", .type "Exception", .type "BaseException", .type "object"],
  decide (PySem.W.findIn K (.ref (He.ga K "NoState")) "__setattr__" = some (some (.builtin "object.__setattr__"))),
  decide (PySem.W.subIn K (.ref (He.ga K "NoState")) (.type "BaseException") = some true),
  decide (PySem.W.typeIn K (.ref (He.ga K "NoState")) = some (.type "type")),
  PySem.W.keepIn K (.ref (He.ga K "NoState")),
  PySem.W.isClsIn K (He.ga K "NoState"),
  decide (PySem.W.typeIn K (.ref (He.ma K (He.ga K "NoState") "__init__")) = some (.type "function")),
  decide (PySem.W.findIn K (.ref (He.ga K "NoState")) "__getattribute__" = some (some (.builtin "BaseException.__getattribute__"))),
  decide (PySem.W.findIn K (.ref (He.ga K "NoState")) "__getattr__" = some none),
  PySem.W.hasDictIn K (He.ga K "NoState"),
  decide (PySem.W.findIn K (.ref (He.ga K "NoState")) "__class__" = some (some (.builtin "object.__class__"))),
  decide (PySem.W.mroIn K (He.ga K "NoState") (.type "object") = some true),
  decide (PySem.W.findIn K (.ref (He.ga K "NoState")) "thing" = some none),
  decide (PySem.W.nsIn K mainGlobals "BadRow" = some (some (.ref (He.ga K "BadRow")))),
  isExcO (K.lookup (He.ga K "BadRow")) (He.ga K "BadRow") [.ref (He.ga K "DeedError"), .type "ValueError", .type "Exception", .type "BaseException", .type "object"],
  decide (PySem.W.findIn K (.ref (He.ga K "BadRow")) "__setattr__" = some (some (.builtin "object.__setattr__"))),
  decide (PySem.W.subIn K (.ref (He.ga K "BadRow")) (.type "BaseException") = some true),
  decide (PySem.W.typeIn K (.ref (He.ga K "BadRow")) = some (.type "type")),
  PySem.W.keepIn K (.ref (He.ga K "BadRow")),
  PySem.W.isClsIn K (He.ga K "BadRow"),
  decide (PySem.W.typeIn K (.ref (He.ma K (He.ga K "BadRow") "__init__")) = some (.type "function")),
  decide (PySem.W.findIn K (.ref (He.ga K "BadRow")) "__getattribute__" = some (some (.builtin "BaseException.__getattribute__"))),
  decide (PySem.W.findIn K (.ref (He.ga K "BadRow")) "__getattr__" = some none),
  PySem.W.hasDictIn K (He.ga K "BadRow"),
  decide (PySem.W.findIn K (.ref (He.ga K "BadRow")) "__class__" = some (some (.builtin "object.__class__"))),
  decide (PySem.W.mroIn K (He.ga K "BadRow") (.type "object") = some true),
  decide (PySem.W.findIn K (.ref (He.ga K "BadRow")) "thing" = some none),
  decide (PySem.W.nsIn K mainGlobals "BadIndex" = some (some (.ref (He.ga K "BadIndex")))),
  isExcO (K.lookup (He.ga K "BadIndex")) (He.ga K "BadIndex") [.ref (He.ga K "DeedError"), .type "ValueError", .type "Exception", .type "BaseException", .type "object"],
  decide (PySem.W.findIn K (.ref (He.ga K "BadIndex")) "__setattr__" = some (some (.builtin "object.__setattr__"))),
  decide (PySem.W.subIn K (.ref (He.ga K "BadIndex")) (.type "BaseException") = some true),
  decide (PySem.W.typeIn K (.ref (He.ga K "BadIndex")) = some (.type "type")),
  PySem.W.keepIn K (.ref (He.ga K "BadIndex")),
  PySem.W.isClsIn K (He.ga K "BadIndex"),
  decide (PySem.W.typeIn K (.ref (He.ma K (He.ga K "BadIndex") "__init__")) = some (.type "function")),
  decide (PySem.W.findIn K (.ref (He.ga K "BadIndex")) "__getattribute__" = some (some (.builtin "BaseException.__getattribute__"))),
  decide (PySem.W.findIn K (.ref (He.ga K "BadIndex")) "__getattr__" = some none),
  PySem.W.hasDictIn K (He.ga K "BadIndex"),
  decide (PySem.W.findIn K (.ref (He.ga K "BadIndex")) "__class__" = some (some (.builtin "object.__class__"))),
  decide (PySem.W.mroIn K (He.ga K "BadIndex") (.type "object") = some true),
  decide (PySem.W.findIn K (.ref (He.ga K "BadIndex")) "thing" = some none),
  decide (PySem.W.nsIn K mainGlobals "NoRow" = some (some (.ref (He.ga K "NoRow")))),
  isExcO (K.lookup (He.ga K "NoRow")) (He.ga K "NoRow") [.ref (He.ga K "DeedError"), .type "ValueError", .type "Exception", .type "BaseException", .type "object"],
  decide (PySem.W.findIn K (.ref (He.ga K "NoRow")) "__setattr__" = some (some (.builtin "object.__setattr__"))),
  decide (PySem.W.subIn K (.ref (He.ga K "NoRow")) (.type "BaseException") = some true),
  decide (PySem.W.typeIn K (.ref (He.ga K "NoRow")) = some (.type "type")),
  PySem.W.keepIn K (.ref (He.ga K "NoRow")),
  PySem.W.isClsIn K (He.ga K "NoRow"),
  decide (PySem.W.typeIn K (.ref (He.ma K (He.ga K "NoRow") "__init__")) = some (.type "function")),
  decide (PySem.W.findIn K (.ref (He.ga K "NoRow")) "__getattribute__" = some (some (.builtin "BaseException.__getattribute__"))),
  decide (PySem.W.findIn K (.ref (He.ga K "NoRow")) "__getattr__" = some none),
  PySem.W.hasDictIn K (He.ga K "NoRow"),
  decide (PySem.W.findIn K (.ref (He.ga K "NoRow")) "__class__" = some (some (.builtin "object.__class__"))),
  decide (PySem.W.mroIn K (He.ga K "NoRow") (.type "object") = some true),
  decide (PySem.W.findIn K (.ref (He.ga K "NoRow")) "thing" = some none),
  decide (PySem.W.nsIn K mainGlobals "BadPurse" = some (some (.ref (He.ga K "BadPurse")))),
  isExcO (K.lookup (He.ga K "BadPurse")) (He.ga K "BadPurse") [.ref (He.ga K "DeedError"), .type "ValueError", .type "Exception", .type "BaseException", .type "object"],
  decide (PySem.W.findIn K (.ref (He.ga K "BadPurse")) "__setattr__" = some (some (.builtin "object.__setattr__"))),
  decide (PySem.W.subIn K (.ref (He.ga K "BadPurse")) (.type "BaseException") = some true),
  decide (PySem.W.typeIn K (.ref (He.ga K "BadPurse")) = some (.type "type")),
  PySem.W.keepIn K (.ref (He.ga K "BadPurse")),
  PySem.W.isClsIn K (He.ga K "BadPurse"),
  decide (PySem.W.typeIn K (.ref (He.ma K (He.ga K "BadPurse") "__init__")) = some (.type "function")),
  decide (PySem.W.findIn K (.ref (He.ga K "BadPurse")) "__getattribute__" = some (some (.builtin "BaseException.__getattribute__"))),
  decide (PySem.W.findIn K (.ref (He.ga K "BadPurse")) "__getattr__" = some none),
  PySem.W.hasDictIn K (He.ga K "BadPurse"),
  decide (PySem.W.findIn K (.ref (He.ga K "BadPurse")) "__class__" = some (some (.builtin "object.__class__"))),
  decide (PySem.W.mroIn K (He.ga K "BadPurse") (.type "object") = some true),
  decide (PySem.W.findIn K (.ref (He.ga K "BadPurse")) "thing" = some none),
  decide (PySem.W.nsIn K mainGlobals "BadName" = some (some (.ref (He.ga K "BadName")))),
  isExcO (K.lookup (He.ga K "BadName")) (He.ga K "BadName") [.ref (He.ga K "DeedError"), .type "ValueError", .type "Exception", .type "BaseException", .type "object"],
  decide (PySem.W.findIn K (.ref (He.ga K "BadName")) "__setattr__" = some (some (.builtin "object.__setattr__"))),
  decide (PySem.W.subIn K (.ref (He.ga K "BadName")) (.type "BaseException") = some true),
  decide (PySem.W.typeIn K (.ref (He.ga K "BadName")) = some (.type "type")),
  PySem.W.keepIn K (.ref (He.ga K "BadName")),
  PySem.W.isClsIn K (He.ga K "BadName"),
  decide (PySem.W.typeIn K (.ref (He.ma K (He.ga K "BadName") "__init__")) = some (.type "function")),
  decide (PySem.W.findIn K (.ref (He.ga K "BadName")) "__getattribute__" = some (some (.builtin "BaseException.__getattribute__"))),
  decide (PySem.W.findIn K (.ref (He.ga K "BadName")) "__getattr__" = some none),
  PySem.W.hasDictIn K (He.ga K "BadName"),
  decide (PySem.W.findIn K (.ref (He.ga K "BadName")) "__class__" = some (some (.builtin "object.__class__"))),
  decide (PySem.W.mroIn K (He.ga K "BadName") (.type "object") = some true),
  decide (PySem.W.findIn K (.ref (He.ga K "BadName")) "name" = some none),
  decide (PySem.W.nsIn K mainGlobals "NoTest" = some (some (.ref (He.ga K "NoTest")))),
  isExcO (K.lookup (He.ga K "NoTest")) (He.ga K "NoTest") [.ref (He.ga K "DeedError"), .type "ValueError", .type "Exception", .type "BaseException", .type "object"],
  decide (PySem.W.findIn K (.ref (He.ga K "NoTest")) "__setattr__" = some (some (.builtin "object.__setattr__"))),
  decide (PySem.W.subIn K (.ref (He.ga K "NoTest")) (.type "BaseException") = some true),
  decide (PySem.W.typeIn K (.ref (He.ga K "NoTest")) = some (.type "type")),
  PySem.W.keepIn K (.ref (He.ga K "NoTest")),
  PySem.W.isClsIn K (He.ga K "NoTest"),
  decide (PySem.W.typeIn K (.ref (He.ma K (He.ga K "NoTest") "__init__")) = some (.type "function")),
  decide (PySem.W.findIn K (.ref (He.ga K "NoTest")) "__getattribute__" = some (some (.builtin "BaseException.__getattribute__"))),
  decide (PySem.W.findIn K (.ref (He.ga K "NoTest")) "__getattr__" = some none),
  PySem.W.hasDictIn K (He.ga K "NoTest"),
  decide (PySem.W.findIn K (.ref (He.ga K "NoTest")) "__class__" = some (some (.builtin "object.__class__"))),
  decide (PySem.W.mroIn K (He.ga K "NoTest") (.type "object") = some true),
  decide (PySem.W.findIn K (.ref (He.ga K "NoTest")) "name" = some none),
  decide (PySem.W.nsIn K mainGlobals "BadSet" = some (some (.ref (He.ga K "BadSet")))),
  isExcO (K.lookup (He.ga K "BadSet")) (He.ga K "BadSet") [.ref (He.ga K "DeedError"), .type "ValueError", .type "Exception", .type "BaseException", .type "object"],
  decide (PySem.W.findIn K (.ref (He.ga K "BadSet")) "__setattr__" = some (some (.builtin "object.__setattr__"))),
  decide (PySem.W.subIn K (.ref (He.ga K "BadSet")) (.type "BaseException") = some true),
  decide (PySem.W.typeIn K (.ref (He.ga K "BadSet")) = some (.type "type")),
  PySem.W.keepIn K (.ref (He.ga K "BadSet")),
  PySem.W.isClsIn K (He.ga K "BadSet"),
  decide (PySem.W.typeIn K (.ref (He.ma K (He.ga K "BadSet") "__init__")) = some (.type "function")),
  decide (PySem.W.findIn K (.ref (He.ga K "BadSet")) "__getattribute__" = some (some (.builtin "BaseException.__getattribute__"))),
  decide (PySem.W.findIn K (.ref (He.ga K "BadSet")) "__getattr__" = some none),
  PySem.W.hasDictIn K (He.ga K "BadSet"),
  decide (PySem.W.findIn K (.ref (He.ga K "BadSet")) "__class__" = some (some (.builtin "object.__class__"))),
  decide (PySem.W.mroIn K (He.ga K "BadSet") (.type "object") = some true),
  decide (PySem.W.findIn K (.ref (He.ga K "BadSet")) "name" = some none),
  decide (PySem.W.nsIn K mainGlobals "BadWays" = some (some (.ref (He.ga K "BadWays")))),
  isExcO (K.lookup (He.ga K "BadWays")) (He.ga K "BadWays") [.ref (He.ga K "DeedError"), .type "ValueError", .type "Exception", .type "BaseException", .type "object"],
  decide (PySem.W.findIn K (.ref (He.ga K "BadWays")) "__setattr__" = some (some (.builtin "object.__setattr__"))),
  decide (PySem.W.subIn K (.ref (He.ga K "BadWays")) (.type "BaseException") = some true),
  decide (PySem.W.typeIn K (.ref (He.ga K "BadWays")) = some (.type "type")),
  PySem.W.keepIn K (.ref (He.ga K "BadWays")),
  PySem.W.isClsIn K (He.ga K "BadWays"),
  decide (PySem.W.typeIn K (.ref (He.ma K (He.ga K "BadWays") "__init__")) = some (.type "function")),
  decide (PySem.W.findIn K (.ref (He.ga K "BadWays")) "__getattribute__" = some (some (.builtin "BaseException.__getattribute__"))),
  decide (PySem.W.findIn K (.ref (He.ga K "BadWays")) "__getattr__" = some none),
  PySem.W.hasDictIn K (He.ga K "BadWays"),
  decide (PySem.W.findIn K (.ref (He.ga K "BadWays")) "__class__" = some (some (.builtin "object.__class__"))),
  decide (PySem.W.mroIn K (He.ga K "BadWays") (.type "object") = some true),
  decide (PySem.W.findIn K (.ref (He.ga K "BadWays")) "name" = some none),
  decide (PySem.W.nsIn K mainGlobals "NoName" = some (some (.ref (He.ga K "NoName")))),
  isExcO (K.lookup (He.ga K "NoName")) (He.ga K "NoName") [.ref (He.ga K "DeedError"), .type "ValueError", .type "Exception", .type "BaseException", .type "object"],
  decide (PySem.W.findIn K (.ref (He.ga K "NoName")) "__setattr__" = some (some (.builtin "object.__setattr__"))),
  decide (PySem.W.subIn K (.ref (He.ga K "NoName")) (.type "BaseException") = some true),
  decide (PySem.W.typeIn K (.ref (He.ga K "NoName")) = some (.type "type")),
  PySem.W.keepIn K (.ref (He.ga K "NoName")),
  PySem.W.isClsIn K (He.ga K "NoName"),
  decide (PySem.W.typeIn K (.ref (He.ma K (He.ga K "NoName") "__init__")) = some (.type "function")),
  decide (PySem.W.findIn K (.ref (He.ga K "NoName")) "__getattribute__" = some (some (.builtin "BaseException.__getattribute__"))),
  decide (PySem.W.findIn K (.ref (He.ga K "NoName")) "__getattr__" = some none),
  PySem.W.hasDictIn K (He.ga K "NoName"),
  decide (PySem.W.findIn K (.ref (He.ga K "NoName")) "__class__" = some (some (.builtin "object.__class__"))),
  decide (PySem.W.mroIn K (He.ga K "NoName") (.type "object") = some true),
  decide (PySem.W.findIn K (.ref (He.ga K "NoName")) "name" = some none),
  decide (PySem.W.nsIn K mainGlobals "Leaned" = some (some (.ref (He.ga K "Leaned")))),
  isExcO (K.lookup (He.ga K "Leaned")) (He.ga K "Leaned") [.ref (He.ga K "DeedError"), .type "ValueError", .type "Exception", .type "BaseException", .type "object"],
  decide (PySem.W.findIn K (.ref (He.ga K "Leaned")) "__setattr__" = some (some (.builtin "object.__setattr__"))),
  decide (PySem.W.subIn K (.ref (He.ga K "Leaned")) (.type "BaseException") = some true),
  decide (PySem.W.typeIn K (.ref (He.ga K "Leaned")) = some (.type "type")),
  PySem.W.keepIn K (.ref (He.ga K "Leaned")),
  PySem.W.isClsIn K (He.ga K "Leaned"),
  decide (PySem.W.typeIn K (.ref (He.ma K (He.ga K "Leaned") "__init__")) = some (.type "function")),
  decide (PySem.W.findIn K (.ref (He.ga K "Leaned")) "__getattribute__" = some (some (.builtin "BaseException.__getattribute__"))),
  decide (PySem.W.findIn K (.ref (He.ga K "Leaned")) "__getattr__" = some none),
  PySem.W.hasDictIn K (He.ga K "Leaned"),
  decide (PySem.W.findIn K (.ref (He.ga K "Leaned")) "__class__" = some (some (.builtin "object.__class__"))),
  decide (PySem.W.mroIn K (He.ga K "Leaned") (.type "object") = some true),
  decide (PySem.W.findIn K (.ref (He.ga K "Leaned")) "name" = some none),
  decide (PySem.W.nsIn K mainGlobals "BadCosts" = some (some (.ref (He.ga K "BadCosts")))),
  isExcO (K.lookup (He.ga K "BadCosts")) (He.ga K "BadCosts") [.ref (He.ga K "DeedError"), .type "ValueError", .type "Exception", .type "BaseException", .type "object"],
  decide (PySem.W.findIn K (.ref (He.ga K "BadCosts")) "__setattr__" = some (some (.builtin "object.__setattr__"))),
  decide (PySem.W.subIn K (.ref (He.ga K "BadCosts")) (.type "BaseException") = some true),
  decide (PySem.W.typeIn K (.ref (He.ga K "BadCosts")) = some (.type "type")),
  PySem.W.keepIn K (.ref (He.ga K "BadCosts")),
  PySem.W.isClsIn K (He.ga K "BadCosts"),
  decide (PySem.W.typeIn K (.ref (He.ma K (He.ga K "BadCosts") "__init__")) = some (.type "function")),
  decide (PySem.W.findIn K (.ref (He.ga K "BadCosts")) "__getattribute__" = some (some (.builtin "BaseException.__getattribute__"))),
  decide (PySem.W.findIn K (.ref (He.ga K "BadCosts")) "__getattr__" = some none),
  PySem.W.hasDictIn K (He.ga K "BadCosts"),
  decide (PySem.W.findIn K (.ref (He.ga K "BadCosts")) "__class__" = some (some (.builtin "object.__class__"))),
  decide (PySem.W.mroIn K (He.ga K "BadCosts") (.type "object") = some true),
  decide (PySem.W.findIn K (.ref (He.ga K "BadCosts")) "name" = some none),
  decide (PySem.W.nsIn K mainGlobals "BadWeights" = some (some (.ref (He.ga K "BadWeights")))),
  isExcO (K.lookup (He.ga K "BadWeights")) (He.ga K "BadWeights") [.ref (He.ga K "DeedError"), .type "ValueError", .type "Exception", .type "BaseException", .type "object"],
  decide (PySem.W.findIn K (.ref (He.ga K "BadWeights")) "__setattr__" = some (some (.builtin "object.__setattr__"))),
  decide (PySem.W.subIn K (.ref (He.ga K "BadWeights")) (.type "BaseException") = some true),
  decide (PySem.W.typeIn K (.ref (He.ga K "BadWeights")) = some (.type "type")),
  PySem.W.keepIn K (.ref (He.ga K "BadWeights")),
  PySem.W.isClsIn K (He.ga K "BadWeights"),
  decide (PySem.W.typeIn K (.ref (He.ma K (He.ga K "BadWeights") "__init__")) = some (.type "function")),
  decide (PySem.W.findIn K (.ref (He.ga K "BadWeights")) "__getattribute__" = some (some (.builtin "BaseException.__getattribute__"))),
  decide (PySem.W.findIn K (.ref (He.ga K "BadWeights")) "__getattr__" = some none),
  PySem.W.hasDictIn K (He.ga K "BadWeights"),
  decide (PySem.W.findIn K (.ref (He.ga K "BadWeights")) "__class__" = some (some (.builtin "object.__class__"))),
  decide (PySem.W.mroIn K (He.ga K "BadWeights") (.type "object") = some true),
  decide (PySem.W.findIn K (.ref (He.ga K "BadWeights")) "name" = some none),
  decide (PySem.W.nsIn K mainGlobals "BadEquation" = some (some (.ref (He.ga K "BadEquation")))),
  isExcO (K.lookup (He.ga K "BadEquation")) (He.ga K "BadEquation") [.ref (He.ga K "DeedError"), .type "ValueError", .type "Exception", .type "BaseException", .type "object"],
  decide (PySem.W.findIn K (.ref (He.ga K "BadEquation")) "__setattr__" = some (some (.builtin "object.__setattr__"))),
  decide (PySem.W.subIn K (.ref (He.ga K "BadEquation")) (.type "BaseException") = some true),
  decide (PySem.W.typeIn K (.ref (He.ga K "BadEquation")) = some (.type "type")),
  PySem.W.keepIn K (.ref (He.ga K "BadEquation")),
  PySem.W.isClsIn K (He.ga K "BadEquation"),
  decide (PySem.W.typeIn K (.ref (He.ma K (He.ga K "BadEquation") "__init__")) = some (.type "function")),
  decide (PySem.W.findIn K (.ref (He.ga K "BadEquation")) "__getattribute__" = some (some (.builtin "BaseException.__getattribute__"))),
  decide (PySem.W.findIn K (.ref (He.ga K "BadEquation")) "__getattr__" = some none),
  PySem.W.hasDictIn K (He.ga K "BadEquation"),
  decide (PySem.W.findIn K (.ref (He.ga K "BadEquation")) "__class__" = some (some (.builtin "object.__class__"))),
  decide (PySem.W.mroIn K (He.ga K "BadEquation") (.type "object") = some true),
  decide (PySem.W.findIn K (.ref (He.ga K "BadEquation")) "name" = some none),
  decide (PySem.W.nsIn K mainGlobals "BadTerm" = some (some (.ref (He.ga K "BadTerm")))),
  isExcO (K.lookup (He.ga K "BadTerm")) (He.ga K "BadTerm") [.ref (He.ga K "DeedError"), .type "ValueError", .type "Exception", .type "BaseException", .type "object"],
  decide (PySem.W.findIn K (.ref (He.ga K "BadTerm")) "__setattr__" = some (some (.builtin "object.__setattr__"))),
  decide (PySem.W.subIn K (.ref (He.ga K "BadTerm")) (.type "BaseException") = some true),
  decide (PySem.W.typeIn K (.ref (He.ga K "BadTerm")) = some (.type "type")),
  PySem.W.keepIn K (.ref (He.ga K "BadTerm")),
  PySem.W.isClsIn K (He.ga K "BadTerm"),
  decide (PySem.W.typeIn K (.ref (He.ma K (He.ga K "BadTerm") "__init__")) = some (.type "function")),
  decide (PySem.W.findIn K (.ref (He.ga K "BadTerm")) "__getattribute__" = some (some (.builtin "BaseException.__getattribute__"))),
  decide (PySem.W.findIn K (.ref (He.ga K "BadTerm")) "__getattr__" = some none),
  PySem.W.hasDictIn K (He.ga K "BadTerm"),
  decide (PySem.W.findIn K (.ref (He.ga K "BadTerm")) "__class__" = some (some (.builtin "object.__class__"))),
  decide (PySem.W.mroIn K (He.ga K "BadTerm") (.type "object") = some true),
  decide (PySem.W.findIn K (.ref (He.ga K "BadTerm")) "index" = some none),
  decide (PySem.W.nsIn K mainGlobals "BadPromise" = some (some (.ref (He.ga K "BadPromise")))),
  isExcO (K.lookup (He.ga K "BadPromise")) (He.ga K "BadPromise") [.ref (He.ga K "DeedError"), .type "ValueError", .type "Exception", .type "BaseException", .type "object"],
  decide (PySem.W.findIn K (.ref (He.ga K "BadPromise")) "__setattr__" = some (some (.builtin "object.__setattr__"))),
  decide (PySem.W.subIn K (.ref (He.ga K "BadPromise")) (.type "BaseException") = some true),
  decide (PySem.W.typeIn K (.ref (He.ga K "BadPromise")) = some (.type "type")),
  PySem.W.keepIn K (.ref (He.ga K "BadPromise")),
  PySem.W.isClsIn K (He.ga K "BadPromise"),
  decide (PySem.W.typeIn K (.ref (He.ma K (He.ga K "BadPromise") "__init__")) = some (.type "function")),
  decide (PySem.W.findIn K (.ref (He.ga K "BadPromise")) "__getattribute__" = some (some (.builtin "BaseException.__getattribute__"))),
  decide (PySem.W.findIn K (.ref (He.ga K "BadPromise")) "__getattr__" = some none),
  PySem.W.hasDictIn K (He.ga K "BadPromise"),
  decide (PySem.W.findIn K (.ref (He.ga K "BadPromise")) "__class__" = some (some (.builtin "object.__class__"))),
  decide (PySem.W.mroIn K (He.ga K "BadPromise") (.type "object") = some true),
  decide (PySem.W.findIn K (.ref (He.ga K "BadPromise")) "index" = some none),
  decide (PySem.W.nsIn K mainGlobals "BadLine" = some (some (.ref (He.ga K "BadLine")))),
  isExcO (K.lookup (He.ga K "BadLine")) (He.ga K "BadLine") [.ref (He.ga K "DeedError"), .type "ValueError", .type "Exception", .type "BaseException", .type "object"],
  decide (PySem.W.findIn K (.ref (He.ga K "BadLine")) "__setattr__" = some (some (.builtin "object.__setattr__"))),
  decide (PySem.W.subIn K (.ref (He.ga K "BadLine")) (.type "BaseException") = some true),
  decide (PySem.W.typeIn K (.ref (He.ga K "BadLine")) = some (.type "type")),
  PySem.W.keepIn K (.ref (He.ga K "BadLine")),
  PySem.W.isClsIn K (He.ga K "BadLine"),
  decide (PySem.W.typeIn K (.ref (He.ma K (He.ga K "BadLine") "__init__")) = some (.type "function")),
  decide (PySem.W.findIn K (.ref (He.ga K "BadLine")) "__getattribute__" = some (some (.builtin "BaseException.__getattribute__"))),
  decide (PySem.W.findIn K (.ref (He.ga K "BadLine")) "__getattr__" = some none),
  PySem.W.hasDictIn K (He.ga K "BadLine"),
  decide (PySem.W.findIn K (.ref (He.ga K "BadLine")) "__class__" = some (some (.builtin "object.__class__"))),
  decide (PySem.W.mroIn K (He.ga K "BadLine") (.type "object") = some true),
  decide (PySem.W.findIn K (.ref (He.ga K "BadLine")) "index" = some none),
  decide (PySem.W.nsIn K mainGlobals "BadBar" = some (some (.ref (He.ga K "BadBar")))),
  isExcO (K.lookup (He.ga K "BadBar")) (He.ga K "BadBar") [.ref (He.ga K "DeedError"), .type "ValueError", .type "Exception", .type "BaseException", .type "object"],
  decide (PySem.W.findIn K (.ref (He.ga K "BadBar")) "__setattr__" = some (some (.builtin "object.__setattr__"))),
  decide (PySem.W.subIn K (.ref (He.ga K "BadBar")) (.type "BaseException") = some true),
  decide (PySem.W.typeIn K (.ref (He.ga K "BadBar")) = some (.type "type")),
  PySem.W.keepIn K (.ref (He.ga K "BadBar")),
  PySem.W.isClsIn K (He.ga K "BadBar"),
  decide (PySem.W.typeIn K (.ref (He.ma K (He.ga K "BadBar") "__init__")) = some (.type "function")),
  decide (PySem.W.findIn K (.ref (He.ga K "BadBar")) "__getattribute__" = some (some (.builtin "BaseException.__getattribute__"))),
  decide (PySem.W.findIn K (.ref (He.ga K "BadBar")) "__getattr__" = some none),
  PySem.W.hasDictIn K (He.ga K "BadBar"),
  decide (PySem.W.findIn K (.ref (He.ga K "BadBar")) "__class__" = some (some (.builtin "object.__class__"))),
  decide (PySem.W.mroIn K (He.ga K "BadBar") (.type "object") = some true),
  decide (PySem.W.findIn K (.ref (He.ga K "BadBar")) "index" = some none),
  decide (PySem.W.nsIn K mainGlobals "Broken" = some (some (.ref (He.ga K "Broken")))),
  isExcO (K.lookup (He.ga K "Broken")) (He.ga K "Broken") [.ref (He.ga K "DeedError"), .type "ValueError", .type "Exception", .type "BaseException", .type "object"],
  decide (PySem.W.findIn K (.ref (He.ga K "Broken")) "__setattr__" = some (some (.builtin "object.__setattr__"))),
  decide (PySem.W.subIn K (.ref (He.ga K "Broken")) (.type "BaseException") = some true),
  decide (PySem.W.typeIn K (.ref (He.ga K "Broken")) = some (.type "type")),
  PySem.W.keepIn K (.ref (He.ga K "Broken")),
  PySem.W.isClsIn K (He.ga K "Broken"),
  decide (PySem.W.typeIn K (.ref (He.ma K (He.ga K "Broken") "__init__")) = some (.type "function")),
  decide (PySem.W.findIn K (.ref (He.ga K "Broken")) "__getattribute__" = some (some (.builtin "BaseException.__getattribute__"))),
  decide (PySem.W.findIn K (.ref (He.ga K "Broken")) "__getattr__" = some none),
  PySem.W.hasDictIn K (He.ga K "Broken"),
  decide (PySem.W.findIn K (.ref (He.ga K "Broken")) "__class__" = some (some (.builtin "object.__class__"))),
  decide (PySem.W.mroIn K (He.ga K "Broken") (.type "object") = some true),
  decide (PySem.W.findIn K (.ref (He.ga K "Broken")) "promise" = some none),
  decide (PySem.W.nsIn K mainGlobals "Refused" = some (some (.ref (He.ga K "Refused")))),
  isExcO (K.lookup (He.ga K "Refused")) (He.ga K "Refused") [.ref (He.ga K "DeedError"), .type "ValueError", .type "Exception", .type "BaseException", .type "object"],
  decide (PySem.W.findIn K (.ref (He.ga K "Refused")) "__setattr__" = some (some (.builtin "object.__setattr__"))),
  decide (PySem.W.subIn K (.ref (He.ga K "Refused")) (.type "BaseException") = some true),
  decide (PySem.W.typeIn K (.ref (He.ga K "Refused")) = some (.type "type")),
  PySem.W.keepIn K (.ref (He.ga K "Refused")),
  PySem.W.isClsIn K (He.ga K "Refused"),
  decide (PySem.W.typeIn K (.ref (He.ma K (He.ga K "Refused") "__init__")) = some (.type "function")),
  decide (PySem.W.findIn K (.ref (He.ga K "Refused")) "__getattribute__" = some (some (.builtin "BaseException.__getattribute__"))),
  decide (PySem.W.findIn K (.ref (He.ga K "Refused")) "__getattr__" = some none),
  PySem.W.hasDictIn K (He.ga K "Refused"),
  decide (PySem.W.findIn K (.ref (He.ga K "Refused")) "__class__" = some (some (.builtin "object.__class__"))),
  decide (PySem.W.mroIn K (He.ga K "Refused") (.type "object") = some true),
  decide (PySem.W.findIn K (.ref (He.ga K "Refused")) "row" = some none),
  decide (PySem.W.nsIn K mainGlobals "UnlikeBooks" = some (some (.ref (He.ga K "UnlikeBooks")))),
  isExcO (K.lookup (He.ga K "UnlikeBooks")) (He.ga K "UnlikeBooks") [.ref (He.ga K "DeedError"), .type "ValueError", .type "Exception", .type "BaseException", .type "object"],
  decide (PySem.W.findIn K (.ref (He.ga K "UnlikeBooks")) "__setattr__" = some (some (.builtin "object.__setattr__"))),
  decide (PySem.W.subIn K (.ref (He.ga K "UnlikeBooks")) (.type "BaseException") = some true),
  decide (PySem.W.typeIn K (.ref (He.ga K "UnlikeBooks")) = some (.type "type")),
  PySem.W.keepIn K (.ref (He.ga K "UnlikeBooks")),
  PySem.W.isClsIn K (He.ga K "UnlikeBooks"),
  decide (PySem.W.typeIn K (.ref (He.ma K (He.ga K "UnlikeBooks") "__init__")) = some (.type "function")),
  decide (PySem.W.findIn K (.ref (He.ga K "UnlikeBooks")) "__getattribute__" = some (some (.builtin "BaseException.__getattribute__"))),
  decide (PySem.W.findIn K (.ref (He.ga K "UnlikeBooks")) "__getattr__" = some none),
  PySem.W.hasDictIn K (He.ga K "UnlikeBooks"),
  decide (PySem.W.findIn K (.ref (He.ga K "UnlikeBooks")) "__class__" = some (some (.builtin "object.__class__"))),
  decide (PySem.W.mroIn K (He.ga K "UnlikeBooks") (.type "object") = some true),
  decide (PySem.W.nsIn K mainGlobals "BadText" = some (some (.ref (He.ga K "BadText")))),
  isExcO (K.lookup (He.ga K "BadText")) (He.ga K "BadText") [.ref (He.ga K "DeedError"), .type "ValueError", .type "Exception", .type "BaseException", .type "object"],
  decide (PySem.W.findIn K (.ref (He.ga K "BadText")) "__setattr__" = some (some (.builtin "object.__setattr__"))),
  decide (PySem.W.subIn K (.ref (He.ga K "BadText")) (.type "BaseException") = some true),
  decide (PySem.W.typeIn K (.ref (He.ga K "BadText")) = some (.type "type")),
  PySem.W.keepIn K (.ref (He.ga K "BadText")),
  PySem.W.isClsIn K (He.ga K "BadText"),
  decide (PySem.W.typeIn K (.ref (He.ma K (He.ga K "BadText") "__init__")) = some (.type "function")),
  decide (PySem.W.findIn K (.ref (He.ga K "BadText")) "__getattribute__" = some (some (.builtin "BaseException.__getattribute__"))),
  decide (PySem.W.findIn K (.ref (He.ga K "BadText")) "__getattr__" = some none),
  PySem.W.hasDictIn K (He.ga K "BadText"),
  decide (PySem.W.findIn K (.ref (He.ga K "BadText")) "__class__" = some (some (.builtin "object.__class__"))),
  decide (PySem.W.mroIn K (He.ga K "BadText") (.type "object") = some true),
  decide (PySem.W.nsIn K mainGlobals "NothingToUndo" = some (some (.ref (He.ga K "NothingToUndo")))),
  isExcO (K.lookup (He.ga K "NothingToUndo")) (He.ga K "NothingToUndo") [.ref (He.ga K "DeedError"), .type "ValueError", .type "Exception", .type "BaseException", .type "object"],
  decide (PySem.W.findIn K (.ref (He.ga K "NothingToUndo")) "__setattr__" = some (some (.builtin "object.__setattr__"))),
  decide (PySem.W.subIn K (.ref (He.ga K "NothingToUndo")) (.type "BaseException") = some true),
  decide (PySem.W.typeIn K (.ref (He.ga K "NothingToUndo")) = some (.type "type")),
  PySem.W.keepIn K (.ref (He.ga K "NothingToUndo")),
  PySem.W.isClsIn K (He.ga K "NothingToUndo"),
  decide (PySem.W.typeIn K (.ref (He.ma K (He.ga K "NothingToUndo") "__init__")) = some (.type "function")),
  decide (PySem.W.findIn K (.ref (He.ga K "NothingToUndo")) "__getattribute__" = some (some (.builtin "BaseException.__getattribute__"))),
  decide (PySem.W.findIn K (.ref (He.ga K "NothingToUndo")) "__getattr__" = some none),
  PySem.W.hasDictIn K (He.ga K "NothingToUndo"),
  decide (PySem.W.findIn K (.ref (He.ga K "NothingToUndo")) "__class__" = some (some (.builtin "object.__class__"))),
  decide (PySem.W.mroIn K (He.ga K "NothingToUndo") (.type "object") = some true),
  decide (PySem.W.nsIn K mainGlobals "NotSure" = some (some (.ref (He.ga K "NotSure")))),
  isExcO (K.lookup (He.ga K "NotSure")) (He.ga K "NotSure") [.ref (He.ga K "DeedError"), .type "ValueError", .type "Exception", .type "BaseException", .type "object"],
  decide (PySem.W.findIn K (.ref (He.ga K "NotSure")) "__setattr__" = some (some (.builtin "object.__setattr__"))),
  decide (PySem.W.subIn K (.ref (He.ga K "NotSure")) (.type "BaseException") = some true),
  decide (PySem.W.typeIn K (.ref (He.ga K "NotSure")) = some (.type "type")),
  PySem.W.keepIn K (.ref (He.ga K "NotSure")),
  PySem.W.isClsIn K (He.ga K "NotSure"),
  decide (PySem.W.typeIn K (.ref (He.ma K (He.ga K "NotSure") "__init__")) = some (.type "function")),
  decide (PySem.W.findIn K (.ref (He.ga K "NotSure")) "__getattribute__" = some (some (.builtin "BaseException.__getattribute__"))),
  decide (PySem.W.findIn K (.ref (He.ga K "NotSure")) "__getattr__" = some none),
  PySem.W.hasDictIn K (He.ga K "NotSure"),
  decide (PySem.W.findIn K (.ref (He.ga K "NotSure")) "__class__" = some (some (.builtin "object.__class__"))),
  decide (PySem.W.mroIn K (He.ga K "NotSure") (.type "object") = some true),
  decide (PySem.W.nsIn K mainGlobals "len" = some none),
  decide (PySem.W.nsIn K mainGlobals "sorted" = some none),
  decide (PySem.W.nsIn K mainGlobals "set" = some none),
  decide (PySem.W.nsIn K mainGlobals "str" = some none),
  decide (PySem.W.nsIn K mainGlobals "int" = some none),
  decide (PySem.W.nsIn K mainGlobals "tuple" = some none),
  decide (PySem.W.nsIn K mainGlobals "list" = some none),
  decide (PySem.W.nsIn K mainGlobals "any" = some none),
  decide (PySem.W.nsIn K mainGlobals "all" = some none),
  decide (PySem.W.nsIn K mainGlobals "isinstance" = some none),
  decide (PySem.W.nsIn K mainGlobals "range" = some none),
  decide (PySem.W.nsIn K mainGlobals "zip" = some none),
  decide (PySem.W.nsIn K mainGlobals "bool" = some none),
  decide (PySem.W.nsIn K mainGlobals "dict" = some none),
  decide (PySem.W.nsIn K mainGlobals "enumerate" = some none),
  decide (PySem.W.nsIn K mainGlobals "repr" = some none),
  decide (PySem.W.nsIn K mainGlobals "ValueError" = some none)]
def loose0 : List Str := ["__name__", "DeedError", "BadName", "BadTruth", "BadTerm", "BadTests", "BadDeeds", "BadPromise", "BadTruths", "NoDeed", "NoTest", "UnlikeBooks", "BadCount", "NoPlace", "BadSize"]
def loose1 : List Str := ["BadSet", "BadWays", "Broken", "NoState", "BadRow", "BadLine", "NoName", "Refused", "Leaned", "NothingToUndo", "BadText", "BadBar", "BadIndex", "NoRow", "BadCosts"]
def loose2 : List Str := ["BadPurse", "BadWeights", "NotSure", "BadEquation", "__name__", "_law_spring", "_law_draw", "_law_pick", "_law_things", "_law_names", "_law_others", "_law_classes", "_law_is_alone"]
def looseL : List Str := loose0 ++ loose1 ++ loose2
abbrev RR : PySem.W.OpenRow := PySem.W.OpenLaw.row PySem.Challenge.rw_deedmeanings_k01_errors_made
noncomputable abbrev hk : PySem.W.Hook := hookS 5 fnL tabL [] exL
noncomputable def ob (s : PySem.W.SharedT) : AlS := obsS 5 fnL tabL [] exL (HandSHeadRun.getT s)
theorem ob_eq (s : PySem.W.SharedT) : ob s = hk.obs s.abs := obsS_eq (HandSHeadRun.getT_eq s)
theorem runF (w : World) : HandSHeadRun.RunEq RR (PySem.W.view RR.prog [43]) hk ob 12000 looseL (w.withFollow "special-get-raises" false) := by
  intro os
  kernel_rfl
theorem runT (w : World) : HandSHeadRun.RunEq RR (PySem.W.view RR.prog [43]) hk ob 12000 looseL (w.withFollow "special-get-raises" true) := by
  intro os
  kernel_rfl
theorem theRun (w : World) : HandSHeadRun.RunEq RR (PySem.W.view RR.prog [43]) hk ob 12000 looseL w := PySem.W.byRow2 "special-get-raises" runF runT w
end Du
namespace Du
open PySem L2 PySem.Spec PyProof.Rows
/-! dicts whose keys are tuples of tuples: entries (key, where its tuple stands, value) -/
abbrev NEs := List (NestedKey × Addr × V)
def NPr (es : NEs) (xs : List (NestedKey × Addr × Value)) : Prop := Paired (fun (e : NestedKey × Addr × V) (x : NestedKey × Addr × Value) => e.1 = x.1 ∧ e.2.1 = x.2.1 ∧ RelV e.2.2 x.2.2) es xs
def NDat (hf : NestedKey → Int) (a : Addr) (es : NEs) (h : Heap) : Prop := (a == sysModules) = false ∧ es.length ≤ sizeLine ∧ ∃ xs, NPr es xs ∧ ∃ o ee ep, h.get? a = some o ∧ o.ExactDict ∧ o.data = .dict ee ep ∧ ee.toList = xs.map (fun x => ⟨hf x.1, .ref x.2.1, x.2.2⟩) ∧ (xs.map (·.1)).Nodup
/-- the dict at a, its object o being known -/
def NDO (hf : NestedKey → Int) (a : Addr) (es : NEs) (o : Obj) : HO := .ext fun h => h.get? a = some o ∧ NDat hf a es h
theorem NDat.at' {hf : NestedKey → Int} {a : Addr} {es : NEs} {h h' : Heap} (x : NDat hf a es h) (k : ∀ o, h.get? a = some o → h'.get? a = some o) : NDat hf a es h' := by
  obtain ⟨h1, h2, xs, h3, o, ee, ep, h4, h5⟩ := x
  exact ⟨h1, h2, xs, h3, o, ee, ep, k o h4, h5⟩
theorem NDat.ok {P : Program} {w : World} {H : Hp} {hf : NestedKey → Int} {a : Addr} {es : NEs} {h : Heap} {o : Obj} (x : NDat hf a es h) (ho : h.get? a = some o) : ObjOk P w H h a (NDO hf a es o) :=
  ⟨⟨ho, x⟩, ⟨o, ho⟩, fun _ _ y k => ⟨k _ y.1, y.2.at' k⟩⟩
theorem NDO.inj {hf : NestedKey → Int} {a : Addr} {es : NEs} {P : Program} {w : World} {H : Hp} {h : Heap} {o : Obj} (ok : HOk P w H h) (e : H a = some (NDO hf a es o)) : NDat hf a es h := (show ObjOk P w H h a (NDO hf a es o) from ok a _ e).1.2
theorem NDO.obj {hf : NestedKey → Int} {a : Addr} {es : NEs} {P : Program} {w : World} {H : Hp} {h : Heap} {o : Obj} (ok : HOk P w H h) (e : H a = some (NDO hf a es o)) : h.get? a = some o := (show ObjOk P w H h a (NDO hf a es o) from ok a _ e).1.1
/-! a tracked value is a key -/
mutual
inductive NkV (H : Hp) : NestedKey → V → Prop
  | non : NkV H .none .non
  | int (i : Int) : NkV H (.num i) (.int i)
  | str (s : Str) : NkV H (.text s) (.str s)
  | tup {a : Addr} {ks : List NestedKey} {vs : List V} : H a = some (.tup vs) → NkVs H ks vs → NkV H (.tup ks) (.ref a)
inductive NkVs (H : Hp) : List NestedKey → List V → Prop
  | nil : NkVs H [] []
  | cons {k : NestedKey} {v : V} {ks : List NestedKey} {vs : List V} : NkV H k v → NkVs H ks vs → NkVs H (k :: ks) (v :: vs)
end
mutual
theorem NkV.is {P : Program} {w : World} {H : Hp} {h : Heap} (ok : HOk P w H h) : ∀ {k : NestedKey} {v : V} {u : Value}, NkV H k v → RelV v u → NestedIs h k u
  | _, _, _, .non, r => by cases (show _ = Value.none from r); exact .none
  | _, _, _, .int i, r => by obtain ⟨t, rfl⟩ := (show ∃ t, _ = Value.int i t from r); exact .int i t
  | _, _, _, .str s, r => by obtain ⟨t, rfl⟩ := (show ∃ t, _ = Value.str s t from r); exact .text s t
  | _, _, _, .tup (a := a) (vs := vs) e ks, r => by
    cases (show _ = Value.ref a from r)
    obtain ⟨_, its, rv, o, h1, h2, n, h3⟩ := (show ObjOk P w H h a (.tup vs) from ok a _ e)
    exact .tup h1 h2 h3 (NkVs.is ok ks (by simpa using rv))
theorem NkVs.is {P : Program} {w : World} {H : Hp} {h : Heap} (ok : HOk P w H h) : ∀ {ks : List NestedKey} {vs : List V} {us : List Value}, NkVs H ks vs → Vals vs us → NestedAll h ks us
  | _, _, _, .nil, r => by cases r; exact .nil
  | _, _, _, .cons k ks, r => by cases r with
    | cons r rs => exact .cons (NkV.is ok k r) (NkVs.is ok ks rs)
end
/-- all keys stand, none is deep -/
def NKeys (H : Hp) (es : NEs) : Prop := ∀ e ∈ es, NkV H e.1 (.ref e.2.1) ∧ e.1.depth ≤ 8
def nval (es : NEs) (k : NestedKey) : Option V := (es.find? fun e => decide (e.1 = k)).map (·.2.2)
def nput (es : NEs) (k : NestedKey) (b : Addr) (v : V) : NEs := if (es.any fun e => decide (e.1 = k)) = true then es.map (fun e => if e.1 = k then (e.1, e.2.1, v) else e) else es ++ [(k, b, v)]
section
variable {P : Program} {w : World} {H : Hp} {h : Heap} {a : Addr} {es : NEs}
theorem NPr.val {xs : List (NestedKey × Addr × Value)} (r : NPr es xs) (k : NestedKey) : RelO (nval es k) ((atKey xs k).map (·.2)) := by
  unfold NPr at r
  induction r with
  | nil => trivial
  | @cons e x es xs hx t ih =>
    obtain ⟨h1, h2, h3⟩ := hx
    unfold nval atKey at ih ⊢
    rw [List.find?_cons, List.find?_cons, ← h1]
    by_cases q : e.1 = k
    · simp only [q, decide_true]; exact h3
    · simp only [q, decide_false]; exact ih
theorem NPr.any {xs : List (NestedKey × Addr × Value)} (r : NPr es xs) (k : NestedKey) : (es.any fun e => decide (e.1 = k)) = (atKey xs k).isSome := by
  unfold NPr at r
  induction r with
  | nil => rfl
  | @cons e x es xs hx t ih =>
    unfold atKey at ih ⊢
    rw [List.any_cons, List.find?_cons, ← hx.1, ih]
    by_cases q : e.1 = k
    · simp [q]
    · simp [q]
theorem NPr.put {xs : List (NestedKey × Addr × Value)} (r : NPr es xs) (k : NestedKey) (b : Addr) {v : V} {u : Value} (rv : RelV v u) : NPr (nput es k b v) (storedH xs k b u) := by
  unfold nput storedH
  rw [r.any k]
  split
  · have repl : ∀ {es : NEs} {xs : List (NestedKey × Addr × Value)}, NPr es xs → NPr (es.map fun e => if e.1 = k then (e.1, e.2.1, v) else e) (xs.map (putAt k u)) := fun {es xs} r => by
      unfold NPr at r ⊢
      induction r with
      | nil => exact .nil
      | @cons e x es xs hx t ih =>
        obtain ⟨h1, h2, h3⟩ := hx
        rw [List.map_cons, List.map_cons]
        refine .cons ?_ ih
        unfold putAt
        by_cases q : e.1 = k
        · rw [if_pos q, if_pos (by rw [← h1]; exact q)]; exact ⟨h1, h2, rv⟩
        · rw [if_neg q, if_neg (by rw [← h1]; exact q)]; exact ⟨h1, h2, h3⟩
    exact repl r
  · have app : ∀ {es : NEs} {xs : List (NestedKey × Addr × Value)}, NPr es xs → NPr (es ++ [(k, b, v)]) (xs ++ [(k, b, u)]) := fun {es xs} r => by
      unfold NPr at r ⊢
      induction r with
      | nil => exact .cons ⟨rfl, rfl, rv⟩ .nil
      | cons hx t ih => exact .cons hx ih
    exact app r
theorem NPr.len {xs : List (NestedKey × Addr × Value)} (r : NPr es xs) : es.length = xs.length := Paired.length r
end
/-- what the dict at a holds at the key that stands at b -/
def NGet (w : World) (H : Hp) (x y : V) (o : Option V) : Prop := ∃ (a b : Addr) (es : NEs) (k : NestedKey) (ob : Obj), x = .ref a ∧ y = .ref b ∧ H a = some (NDO (fun k => k.hash w) a es ob) ∧ NKeys H es ∧ NkV H k (.ref b) ∧ k.depth ≤ 8 ∧ o = nval es k
section
variable {X : Cx} {pins : List (Addr × Obj)} {σ : L2.St} {H : Hp} {s : Shared} {x y v : V} {u r q0 : Value} {o : Option V} {A : Around} {E : Value → Shared → Prop}
end
/-! readings and rules -/
def tNGet (w : World) (td ty : TE) : TE := fun σ H Q => td σ H fun x H1 => ty σ H1 fun y H2 => ∃ v, NGet w H2 x y (some v) ∧ Q v H2
def tNIn (w : World) (ty td : TE) : TE := fun σ H Q => ty σ H fun y H1 => td σ H1 fun x H2 => ∃ o, NGet w H2 x y o ∧ Q (.bl o.isSome) H2
def tNNotIn (w : World) (ty td : TE) : TE := fun σ H Q => ty σ H fun y H1 => td σ H1 fun x H2 => ∃ o, NGet w H2 x y o ∧ Q (.bl (!o.isSome)) H2
def sNPut (w : World) (td ty tv : TE) : TS := fun D σ H => tv σ H fun v H1 => td σ H1 fun x H2 => ty σ H2 fun y H3 => ∃ (a b : Addr) (es : NEs) (k : NestedKey) (ob : Obj), x = .ref a ∧ y = .ref b ∧ H3 a = some (NDO (fun k => k.hash w) a es ob) ∧ NKeys H3 es ∧ NkV H3 k (.ref b) ∧ k.depth ≤ 8 ∧ es.length < sizeLine ∧ ∀ o', D.nx σ (upd H3 a (NDO (fun k => k.hash w) a (nput es k b v) o'))
def tDNewN (w : World) : TE := fun _ H Q => ∀ p o, H p = none → Q (.ref p) (upd H p (NDO (fun k => k.hash w) p [] o))
section
variable {X : Cx} {w : World} {o i e value : Expr} {pos pos' tpos : Pos} {td ty tv : TE}
end
end Du
namespace Du
open PySem L2

/-! pure data, and how it lies in an abstract heap -/
inductive D where
  | non
  | bl (b : Bool)
  | int (i : Int)
  | str (s : Str)
  | lst (xs : List D)
  | tup (xs : List D)
  | dT (kvs : List (List Key × D))
  | dK (kvs : List (Key × D))
  | dN (hf : NestedKey → Int) (kvs : List (NestedKey × D))
  | ins (C : Addr) (fs : List (Str × D))
  /-- an address as such (a list that is changed, the spring of draws) -/
  | ptr (a : Addr)
  | ty (n : String)
  /-- an error of a class of the program, with its fields -/
  | err (C : Addr) (fs : List (Str × D))

mutual
def nkD : NestedKey → D
  | .none => .non
  | .num i => .int i
  | .text s => .str s
  | .tup ks => .tup (nkDs ks)
def nkDs : List NestedKey → List D
  | [] => []
  | k :: ks => nkD k :: nkDs ks
end
mutual
inductive Rep (Z : Addr → Prop) (H : Hp) : V → D → Prop
  | non : Rep Z H .non .non
  | bl (b : Bool) : Rep Z H (.bl b) (.bl b)
  | int (i : Int) : Rep Z H (.int i) (.int i)
  | str (s : Str) : Rep Z H (.str s) (.str s)
  | lst {a : Addr} {vs : List V} {ds : List D} : ¬ Z a → H a = some (.lst vs) → Reps Z H vs ds → Rep Z H (.ref a) (.lst ds)
  | tup {a : Addr} {vs : List V} {ds : List D} : ¬ Z a → H a = some (.tup vs) → Reps Z H vs ds → Rep Z H (.ref a) (.tup ds)
  | dT {a : Addr} {kvs : List (List Key × V)} {ds : List (List Key × D)} : ¬ Z a → Rd H a (.dT kvs) → RepT Z H kvs ds → Rep Z H (.ref a) (.dT ds)
  | dK {a : Addr} {kvs : List (Key × V)} {ds : List (Key × D)} : ¬ Z a → Rd H a (.dK kvs) → RepK Z H kvs ds → Rep Z H (.ref a) (.dK ds)
  | dN {a : Addr} {hf : NestedKey → Int} {es : NEs} {ob : Obj} {ds : List (NestedKey × D)} : ¬ Z a → H a = some (NDO hf a es ob) → RepN Z H es ds → Rep Z H (.ref a) (.dN hf ds)
  | ins {a C dx : Addr} {fs : List (Str × V)} {ds : List (Str × D)} : ¬ Z a → H a = some (.ins C dx fs) → RepF Z H fs ds → Rep Z H (.ref a) (.ins C ds)
  | ptr (a : Addr) : Rep Z H (.ref a) (.ptr a)
  | ty (n : String) : Rep Z H (.ty n) (.ty n)
  | err {a C dx : Addr} {fs : List (Str × V)} {ds : List (Str × D)} : ¬ Z a → H a = some (exo a C (some dx)) → ¬ Z dx → H dx = some (exd dx fs) → RepF Z H fs ds → Rep Z H (.ref a) (.err C ds)
  | err0 {a C : Addr} : ¬ Z a → H a = some (exo a C none) → Rep Z H (.ref a) (.err C [])
inductive Reps (Z : Addr → Prop) (H : Hp) : List V → List D → Prop
  | nil : Reps Z H [] []
  | cons {v : V} {vs : List V} {d : D} {ds : List D} : Rep Z H v d → Reps Z H vs ds → Reps Z H (v :: vs) (d :: ds)
inductive RepT (Z : Addr → Prop) (H : Hp) : List (List Key × V) → List (List Key × D) → Prop
  | nil : RepT Z H [] []
  | cons {k : List Key} {v : V} {vs : List (List Key × V)} {d : D} {ds : List (List Key × D)} : Rep Z H v d → RepT Z H vs ds → RepT Z H ((k, v) :: vs) ((k, d) :: ds)
inductive RepK (Z : Addr → Prop) (H : Hp) : List (Key × V) → List (Key × D) → Prop
  | nil : RepK Z H [] []
  | cons {k : Key} {v : V} {vs : List (Key × V)} {d : D} {ds : List (Key × D)} : Rep Z H v d → RepK Z H vs ds → RepK Z H ((k, v) :: vs) ((k, d) :: ds)
inductive RepN (Z : Addr → Prop) (H : Hp) : NEs → List (NestedKey × D) → Prop
  | nil : RepN Z H [] []
  | cons {k : NestedKey} {b : Addr} {v : V} {es : NEs} {d : D} {ds : List (NestedKey × D)} : Rep Z H (.ref b) (nkD k) → k.depth ≤ 8 → Rep Z H v d → RepN Z H es ds → RepN Z H ((k, b, v) :: es) ((k, d) :: ds)
inductive RepF (Z : Addr → Prop) (H : Hp) : List (Str × V) → List (Str × D) → Prop
  | nil : RepF Z H [] []
  | cons {k : Str} {v : V} {vs : List (Str × V)} {d : D} {ds : List (Str × D)} : Rep Z H v d → RepF Z H vs ds → RepF Z H ((k, v) :: vs) ((k, d) :: ds)
end

/-- a dict may be locked meanwhile -/
def dictO : HO → Bool
  | .dK _ => true
  | .dT _ => true
  | _ => false
/-- what stood in H outside of Z stands in H' -/
def Ext (Z : Addr → Prop) (H H' : Hp) : Prop := ∀ a o, ¬ Z a → H a = some o → H' a = some o
abbrev Z0 : Addr → Prop := fun _ => False
def Ex (H H' : Hp) : Prop := ∀ a o, H a = some o → H' a = some o
theorem Ext.rf {Z : Addr → Prop} (H : Hp) : Ext Z H H := fun _ _ _ h => h
theorem Ext.tr {Z : Addr → Prop} {H H1 H2 : Hp} (x : Ext Z H H1) (y : Ext Z H1 H2) : Ext Z H H2 := fun a o n h => y a o n (x a o n h)
theorem Ext.wk {Z Z' : Addr → Prop} {H H1 : Hp} (x : Ext Z H H1) (h : ∀ a, Z a → Z' a) : Ext Z' H H1 := fun a o n e => x a o (fun z => n (h a z)) e
theorem Ex.to {Z : Addr → Prop} {H H1 : Hp} (x : Ex H H1) : Ext Z H H1 := fun a o _ h => x a o h
theorem Ex.rf (H : Hp) : Ex H H := fun _ _ h => h
theorem Ex.tr {H H1 H2 : Hp} (x : Ex H H1) (y : Ex H1 H2) : Ex H H2 := fun a o h => y a o (x a o h)
theorem Ext.new {Z : Addr → Prop} {H : Hp} {p : Addr} {o : HO} (h : H p = none) : Ext Z H (upd H p o) := fun a u _ e => by
  rw [upd_ne (ne_of_none e h)]
  exact e
theorem Ex.new {H : Hp} {p : Addr} {o : HO} (h : H p = none) : Ex H (upd H p o) := fun a u e => by
  rw [upd_ne (ne_of_none e h)]
  exact e
/-- an address of Z may change -/
theorem Ext.mut {Z : Addr → Prop} {H H1 : Hp} {p : Addr} {o : HO} (x : Ext Z H H1) (h : Z p) : Ext Z H (upd H1 p o) := fun a u n e => by
  have ne : a ≠ p := fun z => n (z ▸ h)
  rw [upd_ne ne]
  exact x a u n e
theorem Ex.exact {H H' : Hp} (x : Ex H H') {a : Addr} {o : HO} (h : H a = some o) : H' a = some o := x a o h
theorem Ext.exact {Z : Addr → Prop} {H H' : Hp} (x : Ext Z H H') {a : Addr} {o : HO} (n : ¬ Z a) (h : H a = some o) : H' a = some o := x a o n h
/-- a locked dict seen as the dict -/
def vw : HO → HO
  | .frz o (.dK k) => .dK k
  | .frz o (.dT k) => .dT k
  | o => o
def ExtW (Z : Addr → Prop) (H H' : Hp) : Prop := ∀ a o, ¬ Z a → H a = some o → ∃ o', H' a = some o' ∧ vw o' = vw o
theorem Ext.w {Z : Addr → Prop} {H H' : Hp} (x : Ext Z H H') : ExtW Z H H' := fun a o n h => ⟨o, x a o n h, rfl⟩
theorem vw_frz {o' : HO} {u : HO} (hd : dictO u = true) (h : vw o' = u) : o' = u ∨ ∃ o, o' = .frz o u := by
  cases o' with
  | frz o v =>
    cases v with
    | dK k => exact .inr ⟨o, by rw [← h]; rfl⟩
    | dT k => exact .inr ⟨o, by rw [← h]; rfl⟩
    | _ => subst h; cases hd
  | _ => exact .inl h
theorem vw_eq {o' o : HO} (hd : dictO o = false) (hf : ∀ p u, o ≠ .frz p u) (h : vw o' = vw o) : o' = o := by
  have e : vw o = o := by
    cases o with
    | frz p u => exact absurd rfl (hf p u)
    | _ => rfl
  rw [e] at h
  cases o' with
  | frz p v =>
    cases v with
    | dK k => rw [← h] at hd; cases hd
    | dT k => rw [← h] at hd; cases hd
    | _ => exact h
  | _ => exact h
theorem ExtW.exact {Z : Addr → Prop} {H H' : Hp} (x : ExtW Z H H') {a : Addr} {o : HO} (n : ¬ Z a) (h : H a = some o) (hd : dictO o = false) (hf : ∀ p u, o ≠ .frz p u) : H' a = some o := by
  obtain ⟨o', e, v⟩ := x a o n h
  rw [e, vw_eq hd hf v]
theorem ExtW.rd {Z : Addr → Prop} {H H' : Hp} (x : ExtW Z H H') {a : Addr} {u : HO} (n : ¬ Z a) (hd : dictO u = true) (h : Rd H a u) : Rd H' a u := by
  have vu : ∀ o, vw (.frz o u) = u := fun o => by cases u <;> first | rfl | cases hd
  have vv : vw u = u := by cases u <;> first | rfl | cases hd
  rcases h with h | ⟨o, h⟩
  · obtain ⟨o', e, v⟩ := x a u n h
    rcases vw_frz hd (v.trans vv) with z | ⟨p, z⟩
    · exact .inl (by rw [e, z])
    · exact .inr ⟨p, by rw [e, z]⟩
  · obtain ⟨o', e, v⟩ := x a _ n h
    rcases vw_frz hd (v.trans (vu o)) with z | ⟨p, z⟩
    · exact .inl (by rw [e, z])
    · exact .inr ⟨p, by rw [e, z]⟩
mutual
theorem Rep.monoW {Z : Addr → Prop} {H H' : Hp} (x : ExtW Z H H') : ∀ {v : V} {d : D}, Rep Z H v d → Rep Z H' v d
  | _, _, .non => .non
  | _, _, .bl b => .bl b
  | _, _, .int i => .int i
  | _, _, .str s => .str s
  | _, _, .lst n h r => .lst n (x.exact n h rfl (fun _ _ z => nomatch z)) (Reps.monoW x r)
  | _, _, .tup n h r => .tup n (x.exact n h rfl (fun _ _ z => nomatch z)) (Reps.monoW x r)
  | _, _, .dT n h r => .dT n (x.rd n rfl h) (RepT.monoW x r)
  | _, _, .dK n h r => .dK n (x.rd n rfl h) (RepK.monoW x r)
  | _, _, .dN n h r => .dN n (x.exact n h rfl (fun _ _ z => nomatch z)) (RepN.monoW x r)
  | _, _, .ins n h r => .ins n (x.exact n h rfl (fun _ _ z => nomatch z)) (RepF.monoW x r)
  | _, _, .err n h m g r => .err n (x.exact n h rfl (fun _ _ z => nomatch z)) m (x.exact m g rfl (fun _ _ z => nomatch z)) (RepF.monoW x r)
  | _, _, .err0 n h => .err0 n (x.exact n h rfl (fun _ _ z => nomatch z))
  | _, _, .ptr a => .ptr a
  | _, _, .ty n => .ty n
theorem Reps.monoW {Z : Addr → Prop} {H H' : Hp} (x : ExtW Z H H') : ∀ {v : List V} {d : List D}, Reps Z H v d → Reps Z H' v d
  | _, _, .nil => .nil
  | _, _, .cons r t => .cons (Rep.monoW x r) (Reps.monoW x t)
theorem RepT.monoW {Z : Addr → Prop} {H H' : Hp} (x : ExtW Z H H') : ∀ {v : List (List Key × V)} {d : List (List Key × D)}, RepT Z H v d → RepT Z H' v d
  | _, _, .nil => .nil
  | _, _, .cons r t => .cons (Rep.monoW x r) (RepT.monoW x t)
theorem RepK.monoW {Z : Addr → Prop} {H H' : Hp} (x : ExtW Z H H') : ∀ {v : List (Key × V)} {d : List (Key × D)}, RepK Z H v d → RepK Z H' v d
  | _, _, .nil => .nil
  | _, _, .cons r t => .cons (Rep.monoW x r) (RepK.monoW x t)
theorem RepN.monoW {Z : Addr → Prop} {H H' : Hp} (x : ExtW Z H H') : ∀ {v : NEs} {d : List (NestedKey × D)}, RepN Z H v d → RepN Z H' v d
  | _, _, .nil => .nil
  | _, _, .cons k kd r t => .cons (Rep.monoW x k) kd (Rep.monoW x r) (RepN.monoW x t)
theorem RepF.monoW {Z : Addr → Prop} {H H' : Hp} (x : ExtW Z H H') : ∀ {v : List (Str × V)} {d : List (Str × D)}, RepF Z H v d → RepF Z H' v d
  | _, _, .nil => .nil
  | _, _, .cons r t => .cons (Rep.monoW x r) (RepF.monoW x t)
end
theorem Rep.mono {Z : Addr → Prop} {H H' : Hp} (x : Ext Z H H') {v : V} {d : D} (r : Rep Z H v d) : Rep Z H' v d := r.monoW x.w
theorem Reps.mono {Z : Addr → Prop} {H H' : Hp} (x : Ext Z H H') {v : List V} {d : List D} (r : Reps Z H v d) : Reps Z H' v d := r.monoW x.w
theorem RepT.mono {Z : Addr → Prop} {H H' : Hp} (x : Ext Z H H') {v : List (List Key × V)} {d : List (List Key × D)} (r : RepT Z H v d) : RepT Z H' v d := r.monoW x.w
theorem RepK.mono {Z : Addr → Prop} {H H' : Hp} (x : Ext Z H H') {v : List (Key × V)} {d : List (Key × D)} (r : RepK Z H v d) : RepK Z H' v d := r.monoW x.w
theorem RepN.mono {Z : Addr → Prop} {H H' : Hp} (x : Ext Z H H') {v : NEs} {d : List (NestedKey × D)} (r : RepN Z H v d) : RepN Z H' v d := r.monoW x.w
theorem RepF.mono {Z : Addr → Prop} {H H' : Hp} (x : Ext Z H H') {v : List (Str × V)} {d : List (Str × D)} (r : RepF Z H v d) : RepF Z H' v d := r.monoW x.w
theorem Rd.some {H : Hp} {a : Addr} {u : HO} (h : Rd H a u) : ∃ o, H a = some o := by
  rcases h with h | ⟨o, h⟩ <;> exact ⟨_, h⟩
/-! other addresses may be forbidden, as long as they are none of the heap -/
mutual
theorem Rep.zs {Z Z' : Addr → Prop} {H : Hp} (x : ∀ a, Z' a → Z a ∨ H a = none) : ∀ {v : V} {d : D}, Rep Z H v d → Rep Z' H v d
  | _, _, .non => .non
  | _, _, .bl b => .bl b
  | _, _, .int i => .int i
  | _, _, .str s => .str s
  | _, _, .lst n h r => .lst (fun z => (x _ z).elim n fun e => by rw [h] at e; cases e) h (Reps.zs x r)
  | _, _, .tup n h r => .tup (fun z => (x _ z).elim n fun e => by rw [h] at e; cases e) h (Reps.zs x r)
  | _, _, .dT n h r => .dT (fun z => (x _ z).elim n fun e => by obtain ⟨o, q⟩ := Rd.some h; rw [q] at e; cases e) h (RepT.zs x r)
  | _, _, .dK n h r => .dK (fun z => (x _ z).elim n fun e => by obtain ⟨o, q⟩ := Rd.some h; rw [q] at e; cases e) h (RepK.zs x r)
  | _, _, .dN n h r => .dN (fun z => (x _ z).elim n fun e => by rw [h] at e; cases e) h (RepN.zs x r)
  | _, _, .ins n h r => .ins (fun z => (x _ z).elim n fun e => by rw [h] at e; cases e) h (RepF.zs x r)
  | _, _, .err n h m g r => .err (fun z => (x _ z).elim n fun e => by rw [h] at e; cases e) h (fun z => (x _ z).elim m fun e => by rw [g] at e; cases e) g (RepF.zs x r)
  | _, _, .err0 n h => .err0 (fun z => (x _ z).elim n fun e => by rw [h] at e; cases e) h
  | _, _, .ptr a => .ptr a
  | _, _, .ty n => .ty n
theorem Reps.zs {Z Z' : Addr → Prop} {H : Hp} (x : ∀ a, Z' a → Z a ∨ H a = none) : ∀ {v : List V} {d : List D}, Reps Z H v d → Reps Z' H v d
  | _, _, .nil => .nil
  | _, _, .cons r t => .cons (Rep.zs x r) (Reps.zs x t)
theorem RepT.zs {Z Z' : Addr → Prop} {H : Hp} (x : ∀ a, Z' a → Z a ∨ H a = none) : ∀ {v : List (List Key × V)} {d : List (List Key × D)}, RepT Z H v d → RepT Z' H v d
  | _, _, .nil => .nil
  | _, _, .cons r t => .cons (Rep.zs x r) (RepT.zs x t)
theorem RepK.zs {Z Z' : Addr → Prop} {H : Hp} (x : ∀ a, Z' a → Z a ∨ H a = none) : ∀ {v : List (Key × V)} {d : List (Key × D)}, RepK Z H v d → RepK Z' H v d
  | _, _, .nil => .nil
  | _, _, .cons r t => .cons (Rep.zs x r) (RepK.zs x t)
theorem RepN.zs {Z Z' : Addr → Prop} {H : Hp} (x : ∀ a, Z' a → Z a ∨ H a = none) : ∀ {v : NEs} {d : List (NestedKey × D)}, RepN Z H v d → RepN Z' H v d
  | _, _, .nil => .nil
  | _, _, .cons k kd r t => .cons (Rep.zs x k) kd (Rep.zs x r) (RepN.zs x t)
theorem RepF.zs {Z Z' : Addr → Prop} {H : Hp} (x : ∀ a, Z' a → Z a ∨ H a = none) : ∀ {v : List (Str × V)} {d : List (Str × D)}, RepF Z H v d → RepF Z' H v d
  | _, _, .nil => .nil
  | _, _, .cons r t => .cons (Rep.zs x r) (RepF.zs x t)
end
theorem Reps.len {Z : Addr → Prop} {H : Hp} : ∀ {vs : List V} {ds : List D}, Reps Z H vs ds → vs.length = ds.length
  | _, _, .nil => rfl
  | _, _, .cons _ t => by simp [Reps.len t]
theorem Reps.app {Z : Addr → Prop} {H : Hp} : ∀ {vs ws : List V} {ds es : List D}, Reps Z H vs ds → Reps Z H ws es → Reps Z H (vs ++ ws) (ds ++ es)
  | _, _, _, _, .nil, s => s
  | _, _, _, _, .cons r t, s => .cons r (Reps.app t s)
theorem Reps.get {Z : Addr → Prop} {H : Hp} : ∀ {vs : List V} {ds : List D} {i : Nat} {d : D}, Reps Z H vs ds → ds[i]? = some d → ∃ v, vs[i]? = some v ∧ Rep Z H v d
  | _, _, _, _, .nil, e => by simp at e
  | _, _, 0, _, .cons r _, e => by simp at e; subst e; exact ⟨_, rfl, r⟩
  | _, _, i + 1, d, .cons _ t, e => by
    obtain ⟨v, h1, h2⟩ := Reps.get (i := i) (d := d) t (by simpa using e)
    exact ⟨v, by simpa using h1, h2⟩
theorem Reps.getV {Z : Addr → Prop} {H : Hp} : ∀ {vs : List V} {ds : List D} {i : Nat} {v : V}, Reps Z H vs ds → vs[i]? = some v → ∃ d, ds[i]? = some d ∧ Rep Z H v d
  | _, _, _, _, .nil, e => by simp at e
  | _, _, 0, _, .cons r _, e => by simp at e; subst e; exact ⟨_, rfl, r⟩
  | _, _, i + 1, v, .cons _ t, e => by
    obtain ⟨d, h1, h2⟩ := Reps.getV (i := i) (v := v) t (by simpa using e)
    exact ⟨d, by simpa using h1, h2⟩
theorem Reps.take {Z : Addr → Prop} {H : Hp} : ∀ {vs : List V} {ds : List D} (n : Nat), Reps Z H vs ds → Reps Z H (vs.take n) (ds.take n)
  | _, _, 0, _ => by simpa using .nil
  | _, _, _ + 1, .nil => by simpa using .nil
  | _, _, n + 1, .cons r t => .cons r (Reps.take n t)
theorem Reps.drop {Z : Addr → Prop} {H : Hp} : ∀ {vs : List V} {ds : List D} (n : Nat), Reps Z H vs ds → Reps Z H (vs.drop n) (ds.drop n)
  | _, _, 0, r => r
  | _, _, _ + 1, .nil => by simpa using .nil
  | _, _, n + 1, .cons _ t => Reps.drop n t
theorem Reps.bls {Z : Addr → Prop} {H : Hp} : ∀ {vs : List V} {ss : List Bool}, Reps Z H vs (ss.map D.bl) → vs = ss.map V.bl
  | _, [], .nil => rfl
  | _, s :: ss, .cons (.bl _) t => by simp [Reps.bls t]
theorem RepF.look {Z : Addr → Prop} {H : Hp} {f : Str} : ∀ {fs : List (Str × V)} {ds : List (Str × D)} {d : D}, RepF Z H fs ds → ds.lookup f = some d → ∃ v, fs.lookup f = some v ∧ Rep Z H v d
  | _, _, _, .nil, e => by simp at e
  | _, _, d, .cons (k := k) r t, e => by
    rw [List.lookup_cons] at e
    by_cases h : f == k
    · rw [h] at e; cases e
      exact ⟨_, by rw [List.lookup_cons, h], r⟩
    · rw [Bool.not_eq_true] at h
      rw [h] at e
      obtain ⟨v, h1, h2⟩ := RepF.look t e
      exact ⟨v, by rw [List.lookup_cons, h]; exact h1, h2⟩
theorem RepF.none {Z : Addr → Prop} {H : Hp} {f : Str} : ∀ {fs : List (Str × V)} {ds : List (Str × D)}, RepF Z H fs ds → ds.lookup f = none → fs.lookup f = none
  | _, _, .nil, e => by simp
  | _, _, .cons (k := k) r t, e => by
    rw [List.lookup_cons] at e ⊢
    by_cases h : f == k
    · rw [h] at e; cases e
    · rw [Bool.not_eq_true] at h
      rw [h] at e ⊢
      exact RepF.none t e

/-! slots -/
abbrev Rho := List (Option D)
def isTup : HO → Bool
  | .tup _ => true
  | _ => false
def okZ (Z : Addr → Prop) (H : Hp) : Prop := ∀ a, Z a → ∃ o, H a = some o ∧ isTup o = false
theorem okZ.no {Z : Addr → Prop} {H : Hp} (k : okZ Z H) {p : Addr} (h : H p = none) : ¬ Z p := fun z => by
  obtain ⟨o, e, _⟩ := k p z
  rw [h] at e; cases e
theorem okZ.ex {Z : Addr → Prop} {H H' : Hp} (k : okZ Z H) (x : Ex H H') : okZ Z H' := fun a z => by
  obtain ⟨o, e, i⟩ := k a z
  exact ⟨o, x a o e, i⟩
theorem okZ.upd {Z : Addr → Prop} {H : Hp} (k : okZ Z H) {p : Addr} {o : HO} (ho : isTup o = false) : okZ Z (L2.upd H p o) := fun a z => by
  by_cases e : a = p
  · subst e; exact ⟨o, upd_same, ho⟩
  · rw [upd_ne e]; exact k a z
theorem okZ.new {Z : Addr → Prop} {H : Hp} (k : okZ Z H) {p : Addr} {o : HO} (hp : H p = none) : okZ Z (L2.upd H p o) := fun a z => by
  have e : a ≠ p := fun e => k.no hp (e ▸ z)
  rw [upd_ne e]; exact k a z
def SRep (Z : Addr → Prop) (H : Hp) (σ : L2.St) (ρ : Rho) : Prop := σ.length = ρ.length ∧ ∀ (i : Nat) (d : D), ρ[i]? = some (some d) → ∃ v, σ[i]? = some (some v) ∧ Rep Z H v d
theorem SRep.mono {Z : Addr → Prop} {H H' : Hp} {σ : L2.St} {ρ : Rho} (s : SRep Z H σ ρ) (x : Ext Z H H') : SRep Z H' σ ρ := ⟨s.1, fun i d e => by
  obtain ⟨v, h1, h2⟩ := s.2 i d e
  exact ⟨v, h1, h2.mono x⟩⟩
theorem SRep.monoW {Z : Addr → Prop} {H H' : Hp} {σ : L2.St} {ρ : Rho} (s : SRep Z H σ ρ) (x : ExtW Z H H') : SRep Z H' σ ρ := ⟨s.1, fun i d e => by
  obtain ⟨v, h1, h2⟩ := s.2 i d e
  exact ⟨v, h1, h2.monoW x⟩⟩
theorem SRep.zs {Z Z' : Addr → Prop} {H : Hp} {σ : L2.St} {ρ : Rho} (s : SRep Z H σ ρ) (x : ∀ a, Z' a → Z a ∨ H a = none) : SRep Z' H σ ρ := ⟨s.1, fun i d e => by
  obtain ⟨v, h1, h2⟩ := s.2 i d e
  exact ⟨v, h1, h2.zs x⟩⟩
theorem SRep.set {Z : Addr → Prop} {H : Hp} {σ : L2.St} {ρ : Rho} {v : V} {d : D} (s : SRep Z H σ ρ) (i : Nat) (r : Rep Z H v d) : SRep Z H (σ.set i (some v)) (ρ.set i (some d)) := ⟨by simp [s.1], fun j e h => by
  by_cases hj : i = j
  · subst hj
    have hl : i < ρ.length := by
      have := (List.getElem?_eq_some_iff.mp h).1
      simpa using this
    rw [List.getElem?_set_self hl] at h
    cases h
    exact ⟨v, List.getElem?_set_self (by rw [s.1]; exact hl), r⟩
  · rw [List.getElem?_set_ne hj] at h
    obtain ⟨w, h1, h2⟩ := s.2 j e h
    exact ⟨w, by rw [List.getElem?_set_ne hj]; exact h1, h2⟩⟩
theorem SRep.unset {Z : Addr → Prop} {H : Hp} {σ : L2.St} {ρ : Rho} (s : SRep Z H σ ρ) (i : Nat) (o : Option V) : SRep Z H (σ.set i o) (ρ.set i none) := ⟨by simp [s.1], fun j e h => by
  by_cases hj : i = j
  · subst hj
    have hl : i < ρ.length := by
      have := (List.getElem?_eq_some_iff.mp h).1
      simpa using this
    rw [List.getElem?_set_self hl] at h
    cases h
  · rw [List.getElem?_set_ne hj] at h
    obtain ⟨w, h1, h2⟩ := s.2 j e h
    exact ⟨w, by rw [List.getElem?_set_ne hj]; exact h1, h2⟩⟩
def wipeR (ρ : Rho) : List Nat → Rho
  | [] => ρ
  | v :: vs => (wipeR ρ vs).set v none
theorem SRep.wipe {Z : Addr → Prop} {H : Hp} {σ : L2.St} {ρ : Rho} (s : SRep Z H σ ρ) : ∀ (vs : List Nat), SRep Z H (L2.wipe σ vs) (wipeR ρ vs)
  | [] => s
  | v :: vs => (SRep.wipe s vs).unset v none
theorem SRep.start {Z : Addr → Prop} {H : Hp} {vs : List V} {ds : List D} (r : Reps Z H vs ds) (n : Nat) : SRep Z H (vs.map some ++ List.replicate n none) (ds.map some ++ List.replicate n none) := ⟨by simp [r.len], fun i d e => by
  by_cases h : i < ds.length
  · rw [List.getElem?_append_left (by simpa using h), List.getElem?_map] at e
    cases q : ds[i]? with
    | none => rw [q] at e; cases e
    | some d' =>
      rw [q] at e; cases e
      obtain ⟨v, h1, h2⟩ := r.get q
      exact ⟨v, by rw [List.getElem?_append_left (by simpa [r.len] using h), List.getElem?_map, h1]; rfl, h2⟩
  · rw [List.getElem?_append_right (by simpa using h), List.getElem?_replicate] at e
    split at e <;> cases e⟩
/-- forgetting slots -/
inductive Lq : Rho → Rho → Prop
  | nil : Lq [] []
  | skip {r' r : Rho} {o : Option D} : Lq r' r → Lq (none :: r') (o :: r)
  | keep {r' r : Rho} {o : Option D} : Lq r' r → Lq (o :: r') (o :: r)
theorem Lq.rf : ∀ r : Rho, Lq r r
  | [] => .nil
  | _ :: r => .keep (Lq.rf r)
theorem Lq.get : ∀ {r' r : Rho} {i : Nat} {d : D}, Lq r' r → r'[i]? = some (some d) → r[i]? = some (some d)
  | _, _, _, _, .nil, h => by simp at h
  | _, _, 0, _, .skip _, h => by simp at h
  | _, _, i + 1, _, .skip l, h => by simpa using Lq.get l (by simpa using h)
  | _, _, 0, _, .keep _, h => by simpa using h
  | _, _, i + 1, _, .keep l, h => by simpa using Lq.get l (by simpa using h)
theorem Lq.len : ∀ {r' r : Rho}, Lq r' r → r'.length = r.length
  | _, _, .nil => rfl
  | _, _, .skip l => by simp [Lq.len l]
  | _, _, .keep l => by simp [Lq.len l]
theorem SRep.lq {Z : Addr → Prop} {H : Hp} {σ : L2.St} {ρ ρ' : Rho} (s : SRep Z H σ ρ) (l : Lq ρ' ρ) : SRep Z H σ ρ' := ⟨s.1.trans l.len.symm, fun i d e => s.2 i d (l.get e)⟩
end Du
namespace Du
open PySem L2

/-! what a reading evaluates to, in data -/
def Ev (te : TE) (ρ : Rho) (d : D) : Prop := ∀ (Z : Addr → Prop) (σ : L2.St) (H : Hp) (Q : VK), okZ Z H → SRep Z H σ ρ → (∀ v H', Ex H H' → Rep Z H' v d → Q v H') → te σ H Q
def EvT (tt : TT) (ρ : Rho) (b : Bool) : Prop := ∀ (Z : Addr → Prop) (σ : L2.St) (H : Hp) (Q : Bool → Hp → Prop), okZ Z H → SRep Z H σ ρ → (∀ H', Ex H H' → Q b H') → tt σ H Q
def EvA (ta : TA) (ρ : Rho) (ds : List D) : Prop := ∀ (Z : Addr → Prop) (σ : L2.St) (H : Hp) (Q : List V → Hp → Prop), okZ Z H → SRep Z H σ ρ → (∀ vs H', Ex H H' → Reps Z H' vs ds → Q vs H') → ta σ H Q
def EvO (to : TO) (ρ : Rho) (o : Option Int) : Prop := ∀ (Z : Addr → Prop) (σ : L2.St) (H : Hp) (Q : Option Int → Hp → Prop), okZ Z H → SRep Z H σ ρ → (∀ H', Ex H H' → Q o H') → to σ H Q
/-- a relation of two values, one value, a list of values, in data -/
def R2D (r : R2) (d e z : D) : Prop := ∀ (Z : Addr → Prop) (H : Hp) (x y : V) (Q : VK), okZ Z H → Rep Z H x d → Rep Z H y e → (∀ v H', Ex H H' → Rep Z H' v z → Q v H') → r x y H Q
def R1D (r : V → Hp → VK → Prop) (d z : D) : Prop := ∀ (Z : Addr → Prop) (H : Hp) (x : V) (Q : VK), okZ Z H → Rep Z H x d → (∀ v H', Ex H H' → Rep Z H' v z → Q v H') → r x H Q
def RLD (r : List V → Hp → VK → Prop) (ds : List D) (z : D) : Prop := ∀ (Z : Addr → Prop) (H : Hp) (xs : List V) (Q : VK), okZ Z H → Reps Z H xs ds → (∀ v H', Ex H H' → Rep Z H' v z → Q v H') → r xs H Q
def RMD (r : V → List V → Hp → VK → Prop) (d : D) (ds : List D) (z : D) : Prop := ∀ (Z : Addr → Prop) (H : Hp) (x : V) (xs : List V) (Q : VK), okZ Z H → Rep Z H x d → Reps Z H xs ds → (∀ v H', Ex H H' → Rep Z H' v z → Q v H') → r x xs H Q

section
variable {ρ : Rho} {te ta tb tc : TE} {tt t u : TT} {d e f z : D} {b c : Bool} {ds es : List D}
theorem ev_var {i : Nat} (h : ρ[i]? = some (some d)) : Ev (tVar i) ρ d := fun Z σ H Q k s q => by
  obtain ⟨v, h1, h2⟩ := s.2 i d h
  exact ⟨v, h1, q v H (Ex.rf H) h2⟩
theorem ev_int {i : Int} : Ev (tC (.int i)) ρ (.int i) := fun _ _ H _ _ _ q => q _ H (Ex.rf H) (.int i)
theorem ev_bl : Ev (tC (.bl b)) ρ (.bl b) := fun _ _ H _ _ _ q => q _ H (Ex.rf H) (.bl b)
theorem ev_str {s : Str} : Ev (tC (.str s)) ρ (.str s) := fun _ _ H _ _ _ q => q _ H (Ex.rf H) (.str s)
theorem ev_non : Ev (tC .non) ρ .non := fun _ _ H _ _ _ q => q _ H (Ex.rf H) .non
theorem ev_op {r : R2} (ha : Ev ta ρ d) (hb : Ev tb ρ e) (hr : R2D r d e z) : Ev (tOp r ta tb) ρ z := fun Z σ H Q k s q =>
  ha Z σ H _ k s fun x H1 x1 r1 => hb Z σ H1 _ (k.ex x1) (s.mono x1.to) fun y H2 x2 r2 =>
    hr Z H2 x y Q ((k.ex x1).ex x2) (r1.mono x2.to) r2 fun v H3 x3 r3 => q v H3 ((x1.tr x2).tr x3) r3
theorem ev_un {r : V → Hp → VK → Prop} (ha : Ev ta ρ d) (hr : R1D r d z) : Ev (tUn r ta) ρ z := fun Z σ H Q k s q =>
  ha Z σ H _ k s fun x H1 x1 r1 => hr Z H1 x Q (k.ex x1) r1 fun v H3 x3 r3 => q v H3 (x1.tr x3) r3
theorem ev_nil : EvA tNil ρ [] := fun _ _ H _ _ _ q => q [] H (Ex.rf H) .nil
theorem ev_cons {tr : TA} (ha : Ev ta ρ d) (hr : EvA tr ρ ds) : EvA (tCons ta tr) ρ (d :: ds) := fun Z σ H Q k s q =>
  ha Z σ H _ k s fun x H1 x1 r1 => hr Z σ H1 _ (k.ex x1) (s.mono x1.to) fun xs H2 x2 r2 => q _ H2 (x1.tr x2) (.cons (r1.mono x2.to) r2)
theorem ev_tup {ta : TA} (ha : EvA ta ρ ds) (hz : ds.length ≤ 100000) : Ev (tTup ta) ρ (.tup ds) := fun Z σ H Q k s q =>
  ha Z σ H _ k s fun vs H1 x1 r1 => ⟨Nat.le_trans (by rw [r1.len]; exact hz) (by decide), fun p hp =>
    q _ _ (x1.tr (Ex.new hp)) (.tup ((k.ex x1).no hp) upd_same (r1.mono (Ext.new hp)))⟩
theorem ev_lst {ta : TA} (ha : EvA ta ρ ds) (hz : ds.length ≤ 100000) : Ev (tLst ta) ρ (.lst ds) := fun Z σ H Q k s q =>
  ha Z σ H _ k s fun vs H1 x1 r1 => ⟨Nat.le_trans (by rw [r1.len]; exact hz) (by decide), fun p hp =>
    q _ _ (x1.tr (Ex.new hp)) (.lst ((k.ex x1).no hp) upd_same (r1.mono (Ext.new hp)))⟩
theorem ev_cb {r : List V → Hp → VK → Prop} {ta : TA} (ha : EvA ta ρ ds) (hr : RLD r ds z) : Ev (tCB r ta) ρ z := fun Z σ H Q k s q =>
  ha Z σ H _ k s fun vs H1 x1 r1 => hr Z H1 vs Q (k.ex x1) r1 fun v H2 x2 r2 => q v H2 (x1.tr x2) r2
theorem et_test (h : Ev te ρ (.bl b)) : EvT (tTest te) ρ b := fun Z σ H Q k s q => h Z σ H _ k s fun v H1 x1 r1 => by cases r1; exact ⟨b, rfl, q H1 x1⟩
theorem et_B (h : Ev te ρ (.bl b)) : EvT (tB te) ρ b := fun Z σ H Q k s q => h Z σ H _ k s fun v H1 x1 r1 => by cases r1; exact ⟨b, rfl, q H1 x1⟩
theorem et_not (h : EvT t ρ b) : EvT (tNot t) ρ (!b) := fun Z σ H Q k s q => h Z σ H _ k s fun H1 x1 => q H1 x1
theorem et_or (h : EvT t ρ b) (g : b = false → EvT u ρ c) : EvT (tOr t u) ρ (b || c) := fun Z σ H Q k s q => h Z σ H _ k s fun H1 x1 => by
  cases b with
  | true => exact iteT (q H1 x1)
  | false => exact iteF (g rfl Z σ H1 _ (k.ex x1) (s.mono x1.to) fun H2 x2 => q H2 (x1.tr x2))
theorem et_yes : EvT tYes ρ true := fun _ _ H _ _ _ q => q H (Ex.rf H)
theorem ev_andV (h : Ev ta ρ (.bl b)) (g : b = true → Ev tb ρ (.bl c)) : Ev (tAndV ta tb) ρ (.bl (b && c)) := fun Z σ H Q k s q => h Z σ H _ k s fun v H1 x1 r1 => by
  cases r1
  refine ⟨b, rfl, ?_⟩
  cases b with
  | true => exact iteT (g rfl Z σ H1 _ (k.ex x1) (s.mono x1.to) fun v H2 x2 r2 => q v H2 (x1.tr x2) r2)
  | false => exact iteF (q _ H1 x1 (.bl false))
/-! calls of defs: the promise in data -/
def spP (R : List D → D → Prop) : Sp := fun vs H Q _ => ∃ (Z : Addr → Prop) (ds : List D) (d : D), okZ Z H ∧ Reps Z H vs ds ∧ R ds d ∧ ∀ v H', Ex H H' → Rep Z H' v d → Q v H'
theorem ev_call {R : List D → D → Prop} {E : XK} {ta : TA} (ha : EvA ta ρ ds) (hr : R ds z) : Ev (tCall (spP R) [] E ta) ρ z := fun Z σ H Q k s q =>
  ha Z σ H _ k s fun vs H1 x1 r1 => ⟨Z, ds, z, k.ex x1, by rw [List.append_nil]; exact r1, hr, fun v H2 x2 r2 => q v H2 (x1.tr x2) r2⟩
/-! statements -/
inductive Out where
  | nx (ρ : Rho)
  | rt (d : D)
def Fin (o : Out) (Z : Addr → Prop) (H : Hp) (E : Ends) : Prop := match o with
  | .nx ρ' => ∀ σ' H', Ex H H' → SRep Z H' σ' ρ' → E.nx σ' H'
  | .rt d => ∀ v H', Ex H H' → Rep Z H' v d → E.rt v H'
def St (ts : TS) (ρ : Rho) (o : Out) : Prop := ∀ (Z : Addr → Prop) (σ : L2.St) (H : Hp) (E : Ends), okZ Z H → SRep Z H σ ρ → Fin o Z H E → ts E σ H
def GA (g : TG) (d : D) (ρ ρ' : Rho) : Prop := ∀ (Z : Addr → Prop) (σ : L2.St) (H : Hp) (v : V) (Q : L2.St → Hp → Prop), okZ Z H → SRep Z H σ ρ → Rep Z H v d → (∀ σ', SRep Z H σ' ρ' → Q σ' H) → g v σ H Q
def GAs (g : TGs) (ds : List D) (ρ ρ' : Rho) : Prop := ∀ (Z : Addr → Prop) (σ : L2.St) (H : Hp) (vs : List V) (Q : L2.St → Hp → Prop), okZ Z H → SRep Z H σ ρ → Reps Z H vs ds → (∀ σ', SRep Z H σ' ρ' → Q σ' H) → g vs σ H Q
theorem ga_name {i : Nat} : GA (gName i) d ρ (ρ.set i (some d)) := fun _ _ _ _ _ _ s r q => q _ (s.set i r)
theorem gas_nil : GAs gNil [] ρ ρ := fun _ _ _ _ _ _ s r q => by cases r; exact ⟨rfl, q _ s⟩
theorem gas_cons {g : TG} {gs : TGs} {ρ' ρ'' : Rho} (h : GA g d ρ ρ') (hs : GAs gs ds ρ' ρ'') : GAs (gCons g gs) (d :: ds) ρ ρ'' := fun Z σ H vs Q k s r q => by
  cases r with
  | cons r rs => exact ⟨_, _, rfl, h Z σ H _ _ k s r fun σ' s' => hs Z σ' H _ Q k s' rs q⟩
theorem ga_tup {K : PySem.W.Frag} {gs : TGs} {ρ' : Rho} {n : Nat} (h : GAs gs ds ρ ρ') (hl : ds.length = n) : GA (gTup K n gs) (.tup ds) ρ ρ' := fun Z σ H v Q k s r q => by
  cases r with
  | tup nz h1 rs => exact ⟨_, _, rfl, .inl (.inl h1), rs.len.trans hl, h Z σ H _ Q k s rs q⟩
theorem st_next : St tNext ρ (.nx ρ) := fun _ σ H _ _ s q => q σ H (Ex.rf H) s
theorem st_asg {g : TG} {ρ' : Rho} (h : Ev te ρ d) (hg : GA g d ρ ρ') : St (tAsg te g) ρ (.nx ρ') := fun Z σ H E k s q =>
  h Z σ H _ k s fun v H1 x1 r1 => hg Z σ H1 v _ (k.ex x1) (s.mono x1.to) r1 fun σ' s' => q σ' H1 x1 s'
theorem st_ret (h : Ev te ρ d) : St (tRet te) ρ (.rt d) := fun Z σ H E k s q => h Z σ H _ k s q
theorem Fin.ex {o : Out} {Z : Addr → Prop} {H H1 : Hp} {E : Ends} (h : Fin o Z H E) (x : Ex H H1) : Fin o Z H1 E := by
  cases o with
  | nx ρ' => exact fun σ' H' x' s' => h σ' H' (x.tr x') s'
  | rt d => exact fun v H' x' r' => h v H' (x.tr x') r'
theorem Fin.sub {o : Out} {Z : Addr → Prop} {H : Hp} {E E' : Ends} (h : Fin o Z H E) (hn : E.nx = E'.nx) (hr : E.rt = E'.rt) : Fin o Z H E' := by
  cases o with
  | nx ρ' => intro σ' H' x' s'; rw [← hn]; exact h σ' H' x' s'
  | rt d => intro v H' x' r'; rw [← hr]; exact h v H' x' r'
theorem st_seq {t u : TS} {ρ' : Rho} {o : Out} (h : St t ρ (.nx ρ')) (g : St u ρ' o) : St (tSeq t u) ρ o := fun Z σ H E k s q =>
  h Z σ H _ k s fun σ' H1 x1 s1 => g Z σ' H1 E (k.ex x1) s1 (q.ex x1)
theorem st_if {c : TT} {t u : TS} {o : Out} (h : EvT c ρ b) (g1 : b = true → St t ρ o) (g2 : b = false → St u ρ o) : St (tIfS c t u) ρ o := fun Z σ H E k s q =>
  h Z σ H _ k s fun H1 x1 => by
    cases b with
    | true => exact iteT (g1 rfl Z σ H1 E (k.ex x1) (s.mono x1.to) (q.ex x1))
    | false => exact iteF (g2 rfl Z σ H1 E (k.ex x1) (s.mono x1.to) (q.ex x1))
/-! what is walked -/
def WG (Z : Addr → Prop) (H1 : Hp) (H : Hp) : Prop := Ext Z H1 H ∧ okZ Z H
def WY (Z : Addr → Prop) (ds : List D) (i : Nat) (H : Hp) (x : V) (H' : Hp) : Prop := Ex H H' ∧ ∃ d, ds[i]? = some d ∧ Rep Z H' x d
def DW (Z : Addr → Prop) (J : It) (H1 : Hp) (ds : List D) : Prop := ∀ Z' : Addr → Prop, (∀ a, Z' a → Z a ∨ H1 a = none) → Walk J ds.length (WG Z' H1) (WY Z' ds)
def EvI (wi : TI) (ρ : Rho) (ds : List D) : Prop := ∀ (Z : Addr → Prop) (σ : L2.St) (H : Hp) (R : It → Hp → Prop), okZ Z H → SRep Z H σ ρ → (∀ J H1, Ex H H1 → DW Z J H1 ds → R J H1) → wi σ H R
theorem ei_list {K : PySem.W.Frag} {tl : TE} (h : Ev tl ρ (.lst ds)) : EvI (iList K tl) ρ ds := fun Z σ H R k s q =>
  h Z σ H _ k s fun x H1 x1 r1 => by
    cases r1 with
    | lst n h1 rs =>
      refine ⟨_, rfl, ⟨_, .inl (.inl h1)⟩, q _ H1 x1 fun Z' hz => ?_⟩
      have nz : ¬ Z' _ := fun z => (hz _ z).elim n fun e => by rw [h1] at e; cases e
      rw [← rs.len]
      refine walk_list.mono (fun H g => .inl (.inl (g.1.exact nz h1))) fun i Hc x H' hi g y => ?_
      obtain ⟨rfl, y⟩ := y
      obtain ⟨d, e1, e2⟩ := (rs.zs hz).getV y
      exact ⟨Ex.rf _, d, e1, e2.mono g.1⟩
/-- a list or a tuple -/
def iSeq (K : PySem.W.Frag) (tl : TE) : TI := fun σ H R => iList K tl σ H R ∨ iTup K tl σ H R
theorem pi_seq {X : Cx} {tg l : Expr} {tl : TE} (h : PE X l tl) : PI X tg l (iSeq X.K tl) := ⟨fun pins s σ H R I q => q.elim (fun q => (pi_list h).run pins s σ H R I q) fun q => (pi_tup h).run pins s σ H R I q⟩
theorem ei_seqL {K : PySem.W.Frag} {tl : TE} (h : Ev tl ρ (.lst ds)) : EvI (iSeq K tl) ρ ds := fun Z σ H R k s q => .inl (ei_list h Z σ H R k s q)
theorem ei_range1 {ta : TA} {n : Nat} (h : EvA ta ρ [.int n]) (hn : n < 1000000) : EvI (iRng1 ta) ρ ((List.range n).map fun (i : Nat) => D.int i) := fun Z σ H R k s q =>
  h Z σ H _ k s fun vs H1 x1 r1 => by
    cases r1 with
    | cons r r1 =>
      cases r; cases r1
      refine ⟨n, rfl, by omega, by omega, q _ H1 x1 fun Z' hz => ?_⟩
      rw [List.length_map, List.length_range]
      refine walk_range.mono (fun _ _ => trivial) fun i Hc x H' hi g y => ?_
      obtain ⟨rfl, rfl⟩ := y
      have hi' : i < n := by simpa using hi
      refine ⟨Ex.rf _, .int i, ?_, by show Rep Z' _ (V.int (0 + (i : Int))) _; rw [Int.zero_add]; exact .int i⟩
      rw [List.getElem?_map, List.getElem?_range hi']; rfl
/-! comprehensions -/
theorem wipe_set {σ : L2.St} {i : Nat} {x : Option V} : ∀ {vs : List Nat}, i ∈ vs → wipe (σ.set i x) vs = wipe σ vs
  | v :: vs, h => by
    unfold wipe
    by_cases hv : i ∈ vs
    · rw [wipe_set hv]
    · have e : i = v := by simpa [hv] using h
      subst e
      have : ∀ ws : List Nat, i ∉ ws → wipe (σ.set i x) ws = (wipe σ ws).set i x := by
        intro ws
        induction ws with
        | nil => intro _; rfl
        | cons w ws ih =>
          intro hw
          unfold wipe
          rw [ih (fun z => hw (List.mem_cons_of_mem _ z)), List.set_comm _ _ (fun z => hw (by rw [z]; exact List.mem_cons_self))]
      rw [this vs hv, List.set_set]
theorem wipe_wipe (σ : L2.St) (vs : List Nat) : wipe (wipe σ vs) vs = wipe σ vs := by
  have : ∀ ws : List Nat, (∀ w ∈ ws, w ∈ vs) → wipe (wipe σ ws) vs = wipe σ vs := by
    intro ws
    induction ws with
    | nil => intro _; rfl
    | cons w ws ih => intro h; show wipe ((wipe σ ws).set w none) vs = _; rw [wipe_set (h w List.mem_cons_self), ih fun z hz => h z (List.mem_cons_of_mem _ hz)]
  exact this vs fun _ h => h
def GW (g : TG) (vs : List Nat) (d : D) (ρ ρ' : Rho) : Prop := ∀ (Z : Addr → Prop) (σ : L2.St) (H : Hp) (v : V) (Q : L2.St → Hp → Prop), okZ Z H → SRep Z H σ ρ → Rep Z H v d → (∀ σ', SRep Z H σ' ρ' → wipe σ' vs = wipe σ vs → Q σ' H) → g v σ H Q
def GWs (g : TGs) (vs : List Nat) (ds : List D) (ρ ρ' : Rho) : Prop := ∀ (Z : Addr → Prop) (σ : L2.St) (H : Hp) (xs : List V) (Q : L2.St → Hp → Prop), okZ Z H → SRep Z H σ ρ → Reps Z H xs ds → (∀ σ', SRep Z H σ' ρ' → wipe σ' vs = wipe σ vs → Q σ' H) → g xs σ H Q
theorem gw_name {i : Nat} {vs : List Nat} (h : i ∈ vs) : GW (gName i) vs d ρ (ρ.set i (some d)) := fun _ _ _ _ _ _ s r q => q _ (s.set i r) (wipe_set h)
theorem gws_nil {vs : List Nat} : GWs gNil vs [] ρ ρ := fun _ _ _ _ _ _ s r q => by cases r; exact ⟨rfl, q _ s rfl⟩
theorem gws_cons {g : TG} {gs : TGs} {vs : List Nat} {ρ' ρ'' : Rho} (h : GW g vs d ρ ρ') (hs : GWs gs vs ds ρ' ρ'') : GWs (gCons g gs) vs (d :: ds) ρ ρ'' := fun Z σ H xs Q k s r q => by
  cases r with
  | cons r rs => exact ⟨_, _, rfl, h Z σ H _ _ k s r fun σ' s' w' => hs Z σ' H _ Q k s' rs fun σ'' s'' w'' => q σ'' s'' (w''.trans w')⟩
theorem gw_tup {K : PySem.W.Frag} {gs : TGs} {vs : List Nat} {ρ' : Rho} {n : Nat} (h : GWs gs vs ds ρ ρ') (hl : ds.length = n) : GW (gTup K n gs) vs (.tup ds) ρ ρ' := fun Z σ H v Q k s r q => by
  cases r with
  | tup nz h1 rs => exact ⟨_, _, rfl, .inl (.inl h1), rs.len.trans hl, h Z σ H _ Q k s rs q⟩
theorem okZ.add {Z : Addr → Prop} {H : Hp} {p : Addr} {o : HO} (k : okZ Z H) (ho : isTup o = false) : okZ (fun a => Z a ∨ a = p) (L2.upd H p o) := fun a z => by
  by_cases e : a = p
  · subst e; exact ⟨o, upd_same, ho⟩
  · rw [upd_ne e]; exact k a (z.resolve_right e)
theorem lc_main {α : Type} {xs : List α} {φ : α → D} {J : It} {g : TG} {vs : List Nat} {pb : α → Bool} {fe : α → D} {Z : Addr → Prop} {σ : L2.St} {H1 : Hp} {Q : VK} (k1 : okZ Z H1) (s0 : SRep Z H1 σ ρ) (w1 : DW Z J H1 (xs.map φ)) (hz : xs.length ≤ 100000)
    (hb : ∀ x ∈ xs, ∃ ρ', GW g vs (φ x) (wipeR ρ vs) ρ' ∧ EvT tt ρ' (pb x) ∧ (pb x = true → Ev te ρ' (fe x)))
    (q : ∀ v H', Ex H1 H' → Rep Z H' v (.lst ((xs.filter pb).map fe)) → Q v H') : ∀ Dd, H1 Dd = none → ∃ W : Nat → Nat → Hp → Prop, (∃ m, W 0 m (upd H1 Dd (.lst []))) ∧ ∀ i m H, W i m H →
    (J.stop i H ∧ Q (.ref Dd) H) ∨ (J.go i H ∧ ∃ Nx : Hp → Prop, (∀ H', Nx H' → ∃ m', m' < m ∧ W (i + 1) m' H') ∧ ∀ x H', J.yld i H x H' → g x (wipe σ vs) H' fun σ2 H2 => wipe σ2 vs = wipe σ vs ∧ tt σ2 H2 fun b H3 =>
      if b = true then te σ2 H3 fun y H4 => ∃ acc, H4 Dd = some (.lst acc) ∧ acc.length < sizeLine ∧ Nx (upd H4 Dd (.lst (acc ++ [y]))) else Nx H3) := by
  intro Dd hD
  have hz' : ∀ a, (Z a ∨ a = Dd) → Z a ∨ H1 a = none := fun a z => z.imp id fun (e : a = Dd) => by rw [e]; exact hD
  have W := w1 (fun a => Z a ∨ a = Dd) hz'
  have s1 : SRep (fun a => Z a ∨ a = Dd) H1 σ ρ := s0.zs hz'
  refine lc_it W (fun i Hc => Ext (fun a => Z a ∨ a = Dd) H1 Hc ∧ okZ (fun a => Z a ∨ a = Dd) Hc ∧ (∀ a o, Z a → H1 a = some o → Hc a = some o) ∧ ∃ acc, Hc Dd = some (.lst acc) ∧ Reps (fun a => Z a ∨ a = Dd) Hc acc (((xs.take i).filter pb).map fe)) ?_ ?_ ?_ ?_
  · refine ⟨Ext.new hD, k1.add rfl, fun a o z h => by rw [upd_ne (ne_of_none h hD)]; exact h, [], upd_same, by simpa using .nil⟩
  · rintro i Hc hi ⟨e1, e2, _⟩
    exact ⟨e1, e2⟩
  · rintro i x Hc H' hi ⟨e1, e2, e3, acc, e4, e5⟩ ⟨y1, d0, y20, y3⟩
    rw [List.getElem?_map] at y20
    obtain ⟨d, y2, rfl⟩ := Option.map_eq_some_iff.mp y20
    have hm : d ∈ xs := List.mem_of_getElem? y2
    obtain ⟨ρ', g1, g2, g3⟩ := hb d hm
    have x' : Ext (fun a => Z a ∨ a = Dd) H1 H' := e1.tr y1.to
    refine g1 _ (wipe σ vs) H' x _ (e2.ex y1) ((s1.wipe vs).mono x') y3 fun σ' s' w' => ⟨w'.trans (wipe_wipe σ vs), ?_⟩
    refine g2 _ σ' H' _ (e2.ex y1) s' fun H3 x3 => ?_
    have y13 := y1.tr x3
    have et : xs.take (i + 1) = xs.take i ++ [d] := by rw [List.take_add_one, y2]; rfl
    have keep : ∀ {Hn : Hp}, Ex Hc Hn → ∀ a o, Z a → H1 a = some o → Hn a = some o := fun xx a o z h => xx a o (e3 a o z h)
    cases hp : pb d with
    | true =>
      refine iteT (g3 hp _ σ' H3 _ (e2.ex y13) (s'.mono x3.to) fun v H4 x4 r4 => ?_)
      have y14 := y13.tr x4
      refine ⟨acc, y14.exact e4, Nat.lt_of_le_of_lt (m := 100000) ?_ (by decide), ?_⟩
      · rw [e5.len, List.length_map]
        exact Nat.le_trans (List.length_filter_le _ _) (Nat.le_trans (by rw [List.length_take]; exact Nat.min_le_right _ _) hz)
      · refine ⟨(e1.tr y14.to).mut (.inr rfl), (e2.ex y14).upd rfl, fun a o z h => ?_, _, upd_same, ?_⟩
        · rw [upd_ne (ne_of_none h hD)]
          exact keep y14 a o z h
        · rw [et, List.filter_append, List.map_append]
          have xm : Ext (fun a => Z a ∨ a = Dd) H4 (upd H4 Dd (.lst (acc ++ [v]))) := (Ext.rf H4).mut (.inr rfl)
          refine ((e5.mono y14.to).mono xm).app ?_
          have ef : [d].filter pb = [d] := by simp [hp]
          rw [ef]
          exact .cons (r4.mono xm) .nil
    | false =>
      refine iteF ⟨e1.tr y13.to, e2.ex y13, keep y13, acc, y13.exact e4, ?_⟩
      rw [et, List.filter_append, List.map_append]
      have ef : [d].filter pb = [] := by simp [hp]
      rw [ef]
      simpa using e5.mono y13.to
  · rintro Hc ⟨e1, e2, e3, acc, e4, e5⟩
    rw [List.length_map, List.take_length] at e5
    have xx : Ex H1 Hc := fun a o h => by
      by_cases z : Z a
      · exact e3 a o z h
      · exact e1 a o (fun y => y.elim z (ne_of_none h hD)) h
    exact q _ Hc xx (.lst (k1.no hD) e4 (e5.zs fun a z => .inl (.inl z)))
theorem ev_lc {α : Type} {xs : List α} {φ : α → D} {wi : TI} {g : TG} {vs : List Nat} {pb : α → Bool} {fe : α → D} (hi : EvI wi ρ (xs.map φ)) (hz : xs.length ≤ 100000)
    (hb : ∀ x ∈ xs, ∃ ρ', GW g vs (φ x) (wipeR ρ vs) ρ' ∧ EvT tt ρ' (pb x) ∧ (pb x = true → Ev te ρ' (fe x))) : Ev (tLc wi g tt te vs) ρ (.lst ((xs.filter pb).map fe)) := fun Z σ H Q k s q =>
  hi Z σ H _ k s fun J H1 x1 w1 => lc_main (k.ex x1) (s.mono x1.to) w1 hz hb fun v H' x' r' => q v H' (x1.tr x') r'
theorem ev_lc1 {α : Type} {xs : List α} {φ : α → D} {wi : TI} {g : TG} {vs : List Nat} {fe : α → D} (hi : EvI wi ρ (xs.map φ)) (hz : xs.length ≤ 100000)
    (hb : ∀ x ∈ xs, ∃ ρ', GW g vs (φ x) (wipeR ρ vs) ρ' ∧ Ev te ρ' (fe x)) : Ev (tLc wi g tYes te vs) ρ (.lst (xs.map fe)) := by
  have h := ev_lc (tt := tYes) (te := te) (g := g) (vs := vs) (pb := fun _ => true) (fe := fe) hi hz fun d hd => let ⟨ρ', h1, h2⟩ := hb d hd; ⟨ρ', h1, et_yes, fun _ => h2⟩
  rwa [List.filter_eq_self.mpr (fun _ _ => rfl)] at h
/-! loops -/
theorem st_for {wi : TI} {g : TG} {tb : TS} (rs : Nat → Rho) (hi : EvI wi ρ ds) (h0 : Lq (rs 0) ρ)
    (hb : ∀ (i : Nat) d, ds[i]? = some d → ∃ ρ' ρ'', GA g d (rs i) ρ' ∧ St tb ρ' (.nx ρ'') ∧ Lq (rs (i + 1)) ρ'') : St (tFor wi g tb) ρ (.nx (rs ds.length)) := fun Z σ H E k s q =>
  hi Z σ H _ k s fun J H1 x1 w1 => by
    refine for_it (w1 Z fun a z => .inl z) (fun i σ Hc => Ex H1 Hc ∧ SRep Z Hc σ (rs i)) ⟨Ex.rf H1, (s.mono x1.to).lq h0⟩ (fun i σ Hc _ h => ⟨h.1.to, (k.ex x1).ex h.1⟩) ?_ fun σ Hc h => q σ Hc (x1.tr h.1) h.2
    rintro i x σ Hc H' hi ⟨e1, e2⟩ ⟨y1, d, y2, y3⟩
    obtain ⟨ρ', ρ'', g1, g2, gl⟩ := hb i d y2
    have k' := (k.ex x1).ex (e1.tr y1)
    refine g1 Z σ H' x _ k' (e2.mono y1.to) y3 fun σ' s' => ?_
    exact g2 Z σ' H' _ k' s' fun σ'' H'' x'' s'' => ⟨e1.tr (y1.tr x''), s''.lq gl⟩
/-! a def whose body is pure -/
def Ret (ts : TS) (ρ : Rho) (d : D) : Prop := St ts ρ (.rt d) ∨ d = .non ∧ ∃ ρ', St ts ρ (.nx ρ')
def rho0 (N : List Str) (ds : List D) : Rho := ds.map some ++ List.replicate (N.length - ds.length) none
theorem pure_ok {P : Program} {w : World} {K : PySem.W.Frag} {mg : Str → Option Value} {base : Heap} {x qual : Str} {stm : Stmt} {fa : Addr} {fd : FuncData} {N ps : List Str} {k : Nat} {R : List D → D → Prop} (F : Fun K x qual stm fa fd) (S : FnScope N ps (defScope stm)) (len : ∀ ds d, R ds d → ds.length = ps.length)
    (hb : ∀ (cdv : Value) (A : Around) (outer : List Env) (s : Shared) (H : Hp) (E : XK), Room k (A.deeper (PyProof.Rows.envOfC qual (defScope stm) s.heap.objs.size fa cdv)) →
      ∃ t, PSs (cxOf CX0 P w K mg base N qual (defScope stm) fa cdv A outer s H E).nox (defBody stm) t ∧ ∀ ds d, R ds d → Ret t (rho0 N ds) d) : FnOk P w K mg base CX0 (k + 1) fa fd ps (spP R) := by
  refine F.ok S (fun vs H Q E h => ?_) (fun cdv A outer s H vs Q E hr h => ?_)
  · obtain ⟨Z, ds, d, _, r, hR, _⟩ := h
    exact r.len.trans (len ds d hR)
  · obtain ⟨Z, ds, d, ok, r, hR, q⟩ := h
    obtain ⟨t, ht, hs⟩ := hb cdv A outer s H E hr
    refine ⟨t, ht, ?_⟩
    have s0 : SRep Z H (L2.start N vs) (rho0 N ds) := by
      unfold L2.start rho0
      rw [r.len]
      exact SRep.start r _
    rcases hs ds d hR with h | ⟨rfl, ρ', h⟩
    · exact h Z _ H _ ok s0 fun v H' x' r' => q v H' x' r'
    · exact h Z _ H _ ok s0 fun σ' H' x' s' => q .non H' x' .non
end
end Du
namespace Du
open PySem L2 PySem.Spec PyProof.Rows

/-! sets of texts: made of a list, sorted -/
def txt (e : Int × Value) : Str := match e.2 with | .str x _ => x | _ => Str.empty
def IsTxt (w : World) (e : Int × Value) : Prop := ∃ x tk, e.2 = Value.str x tk ∧ e.1 = hashStr w x
/-- the set at a holds just the texts of L, which are unlike -/
def TxtSet (w : World) (h : Heap) (a : Addr) (L : List Str) : Prop :=
  ∃ o es ep t, h.get? a = some o ∧ o.ExactSet ∧ o.data = .set es ep t ∧ (∀ e ∈ es.toList, IsTxt w e) ∧ (es.toList.map txt).Perm L ∧ L.Nodup ∧
    es.size < scanBound ∧ t.fits es.size = true ∧ Ris t.place.toList ∧ (w.params.followText "set-order" = true ∨ t.led = true)
section
variable {P : Program} {w : World} {A : Around} {E : Value → Shared → Prop} {s : Shared} {a : Addr} {L : List Str}
theorem TxtSet.at {h h' : Heap} (R : TxtSet w h a L) (k : ∀ o, h.get? a = some o → h'.get? a = some o) : TxtSet w h' a L := by
  obtain ⟨o, es, ep, t, ho, r⟩ := R
  exact ⟨o, es, ep, t, k o ho, r⟩
/-- the texts, a further one among them -/
def addT (L : List Str) (k : Str) : List Str := if k ∈ L then L else k :: L
/-- the texts of the first i -/
def addAll (L : List Str) : List Str → List Str
  | [] => L
  | k :: ks => addAll (addT L k) ks
abbrev freshSet (w : World) : Obj := { cls := .type "set", dict := none, data := .set #[] 0 (.fresh 0 0 (!w.params.followText "set-order")) }
end

/-! the same by the layer's readings -/
def TxtO (w : World) (a : Addr) (L : List Str) : HO := .ext fun h => TxtSet w h a L
section
variable {X : Cx}
def rSetTxt (K : PySem.W.Frag) (w : World) : List V → Hp → VK → Prop := fun xs H Q => ∃ (a : Addr) (ys : List Str), xs = [V.ref a] ∧ SqL K H a (ys.map V.str) ∧ ys.length + 1 < scanBound ∧ ∀ p, H p = none → Q (.ref p) (upd H p (TxtO w p (addAll [] ys)))
def rSortedTxt (w : World) : List V → Hp → VK → Prop := fun vs H Q => ∃ (a : Addr) (L : List Str), vs = [V.ref a] ∧ H a = some (TxtO w a L) ∧ L.length < 64 ∧
  ∀ (ys : List Str) (p : Addr), ys.Perm L → sortedS ys = true → H p = none → Q (.ref p) (upd H p (.lst (ys.map V.str)))
end
end Du
namespace Du
open PySem L2 PySem.Spec PyProof.Rows

/-! a dict comprehension whose keys are tuples of texts and ints -/
/-- one turn's store -/
def PutT (Dd : Addr) (y z : V) (H : Hp) (N : Hp → Prop) : Prop := ∃ (kvs : List (List Key × V)) (k : List Key) (b : Addr), y = .ref b ∧ H b = some (.tup (k.map kV)) ∧ H Dd = some (.dT kvs) ∧ kvs.length < sizeLine ∧ N (upd H Dd (.dT (putK kvs k z)))
def tDcT (wi : TI) (g : TG) (tt : TT) (tk tv : TE) (vs : List Nat) : TE := fun σ H Q => wi σ H fun J H1 => ∀ Dd, H1 Dd = none → ∃ W : Nat → Nat → Hp → Prop, (∃ m, W 0 m (upd H1 Dd (.dT []))) ∧ ∀ i m H, W i m H →
  (J.stop i H ∧ Q (.ref Dd) H) ∨ (J.go i H ∧ ∃ Nx : Hp → Prop, (∀ H', Nx H' → ∃ m', m' < m ∧ W (i + 1) m' H') ∧ ∀ x H', J.yld i H x H' → g x (wipe σ vs) H' fun σ2 H2 => wipe σ2 vs = wipe σ vs ∧ tt σ2 H2 fun b H3 =>
    if b = true then tk σ2 H3 fun y H4 => tv σ2 H4 fun z H5 => PutT Dd y z H5 Nx else Nx H3)
section
variable {X : Cx} {kx vx tg iter : Expr} {ifs : List Expr} {scope : Scope} {own : List (Str × Nat)} {wi : TI} {g : TG} {tt : TT} {tk tv : TE}
end
end Du
namespace Du
open PySem L2 PySem.Spec PyProof.Rows

/-! t[::-1], t a tuple -/
section
variable {prog : Program} {w : World} {A : Around} {E : Value → Shared → Prop} {s : Shared}
end
section
variable {X : Cx}
def tRevT (K : PySem.W.Frag) (te : TE) : TE := fun σ H Q => te σ H fun x H1 => ∃ a xs, x = .ref a ∧ SqT K H1 a xs ∧ ∀ p, H1 p = none → Q (.ref p) (upd H1 p (.tup xs.reverse))
/-- of a list or a tuple -/
def tRev (K : PySem.W.Frag) (te : TE) : TE := fun σ H Q => tRevL K te σ H Q ∨ tRevT K te σ H Q
end
end Du
namespace Du
open PySem L2

/-! plain data, and == of it -/
mutual
def pl : D → Bool
  | .non => true
  | .bl _ => true
  | .int _ => true
  | .str s => PyData.strOk s
  | .lst xs => pls xs
  | .tup xs => pls xs
  | .dT _ => false
  | .dK _ => false
  | .dN _ _ => false
  | .ins _ _ => false
  | .err _ _ => false
  | .ptr _ => false
  | .ty _ => false
def pls : List D → Bool
  | [] => true
  | x :: xs => pl x && pls xs
end
mutual
def toP : D → PyData
  | .non => .none
  | .bl b => .bool b
  | .int i => .int i
  | .str s => .str s
  | .lst xs => .list (toPs xs)
  | .tup xs => .tuple (toPs xs)
  | .dT _ => .none
  | .dK _ => .none
  | .dN _ _ => .none
  | .ins _ _ => .none
  | .err _ _ => .none
  | .ptr _ => .none
  | .ty _ => .none
def toPs : List D → List PyData
  | [] => []
  | x :: xs => toP x :: toPs xs
end
mutual
theorem lay_of : ∀ d : D, pl d = true → (toP d).canLay0 = true
  | .non, _ => by simp [toP, PyData.canLay0]
  | .bl _, _ => by simp [toP, PyData.canLay0]
  | .int _, _ => by simp [toP, PyData.canLay0]
  | .str s, h => by simpa [toP, PyData.canLay0, pl] using h
  | .lst xs, h => by simp only [toP, PyData.canLay0]; exact lays_of xs (by simpa [pl] using h)
  | .tup xs, h => by simp only [toP, PyData.canLay0]; exact lays_of xs (by simpa [pl] using h)
  | .dT _, h => by simp [pl] at h
  | .dK _, h => by simp [pl] at h
  | .dN _ _, h => by simp [pl] at h
  | .ins _ _, h => by simp [pl] at h
  | .err _ _, h => by simp [pl] at h
  | .ptr _, h => by simp [pl] at h
  | .ty _, h => by simp [pl] at h
theorem lays_of : ∀ ds : List D, pls ds = true → PyData.canLayAll0 (toPs ds) = true
  | [], _ => by simp [toPs, PyData.canLayAll0]
  | x :: xs, h => by
    simp only [pls, Bool.and_eq_true] at h
    simp only [toPs, PyData.canLayAll0, Bool.and_eq_true]
    exact ⟨lay_of x h.1, lays_of xs h.2⟩
end
mutual
theorem dp_of {K : PySem.W.Frag} {Z : Addr → Prop} {H : Hp} : ∀ {v : V} {d : D}, Rep Z H v d → pl d = true → Dp K H v (toP d)
  | _, _, .non, _ => by simpa [toP] using .non
  | _, _, .bl b, _ => by simpa [toP] using .bl b
  | _, _, .int i, _ => by simpa [toP] using .int i
  | _, _, .str s, _ => by simpa [toP] using .str s
  | _, _, .lst n h r, p => by simp only [toP]; exact .lst (.inl (.inl h)) (dps_of r (by simpa [pl] using p))
  | _, _, .tup n h r, p => by simp only [toP]; exact .tup (.inl (.inl h)) (dps_of r (by simpa [pl] using p))
  | _, _, .dT _ _ _, p => by simp [pl] at p
  | _, _, .dK _ _ _, p => by simp [pl] at p
  | _, _, .dN _ _ _, p => by simp [pl] at p
  | _, _, .ins _ _ _, p => by simp [pl] at p
  | _, _, .ptr _, p => by simp [pl] at p
  | _, _, .ty _, p => by simp [pl] at p
theorem dps_of {K : PySem.W.Frag} {Z : Addr → Prop} {H : Hp} : ∀ {vs : List V} {ds : List D}, Reps Z H vs ds → pls ds = true → DpAll K H vs (toPs ds)
  | _, _, .nil, _ => by simp only [toPs]; exact .nil
  | _, _, .cons r t, p => by
    simp only [pls, Bool.and_eq_true] at p
    simp only [toPs]
    exact .cons (dp_of r p.1) (dps_of t p.2)
end
/-- data that == takes -/
def okE (d : D) : Prop := pl d = true ∧ (toP d).depth ≤ 64
theorem okE.sh {d : D} (h : okE d) : SeqAt.shaped (toP d) = true := by
  unfold SeqAt.shaped
  rw [lay_of d h.1, decide_eq_true h.2]; rfl
def eqD (d e : D) : Bool := PyData.eqv (toP d) (toP e)
theorem rd_eq {K : PySem.W.Frag} {d e : D} (hd : okE d) (he : okE e) : R2D (rEqD K) d e (.bl (eqD d e)) := fun Z H x y Q k r1 r2 q =>
  ⟨_, _, dp_of r1 hd.1, dp_of r2 he.1, hd.sh, he.sh, q _ H (Ex.rf H) (.bl _)⟩
theorem rd_ne {K : PySem.W.Frag} {d e : D} (hd : okE d) (he : okE e) : R2D (rNeD K) d e (.bl (!eqD d e)) := fun Z H x y Q k r1 r2 q =>
  ⟨_, _, dp_of r1 hd.1, dp_of r2 he.1, hd.sh, he.sh, q _ H (Ex.rf H) (.bl _)⟩
theorem ok_int {i : Int} : okE (.int i) := ⟨by simp [pl], by simp [toP, PyData.depth]⟩
theorem ok_str {s : Str} (h : PyData.strOk s = true) : okE (.str s) := ⟨by simpa [pl] using h, by simp [toP, PyData.depth]⟩
/-- depth at most n -/
def okN (n : Nat) (d : D) : Prop := pl d = true ∧ (toP d).depth ≤ n
theorem okN.e {n : Nat} {d : D} (h : okN n d) (hn : n ≤ 64) : okE d := ⟨h.1, Nat.le_trans h.2 hn⟩
theorem okN.up {n m : Nat} {d : D} (h : okN n d) (hn : n ≤ m) : okN m d := ⟨h.1, Nat.le_trans h.2 hn⟩
theorem depth_all {n : Nat} : ∀ {ds : List D}, (∀ d ∈ ds, okN n d) → pls ds = true ∧ PyData.depthAll (toPs ds) ≤ n
  | [], _ => by simp [pls, toPs, PyData.depthAll]
  | x :: xs, h => by
    obtain ⟨h1, h2⟩ := depth_all (ds := xs) fun d hd => h d (List.mem_cons_of_mem _ hd)
    obtain ⟨h3, h4⟩ := h x List.mem_cons_self
    simp only [pls, toPs, PyData.depthAll, h1, h3, Bool.and_self, true_and]
    omega
theorem okN_lst {n : Nat} {ds : List D} (h : ∀ d ∈ ds, okN n d) : okN (n + 1) (.lst ds) := by
  obtain ⟨h1, h2⟩ := depth_all h
  exact ⟨by simpa [pl] using h1, by simp only [toP, PyData.depth]; omega⟩
theorem okN_bl {b : Bool} : okN 0 (.bl b) := ⟨by simp [pl], by simp [toP, PyData.depth]⟩
theorem okN_int {i : Int} : okN 0 (.int i) := ⟨by simp [pl], by simp [toP, PyData.depth]⟩
theorem eqD_str (a b : Str) : eqD (.str a) (.str b) = decide (a = b) := by
  simp only [eqD, toP, PyData.eqv]
  by_cases h : a = b <;> simp [h]
theorem eqD_int (a b : Int) : eqD (.int a) (.int b) = decide (a = b) := by
  simp only [eqD, toP, PyData.eqv]
  by_cases h : a = b <;> simp [h]
theorem eqD_lst (ss ts : List D) : eqD (.lst ss) (.lst ts) = PyData.eqvAll (toPs ss) (toPs ts) := by simp only [eqD, toP, PyData.eqv]
theorem eqD_lst0 (ss : List D) : eqD (.lst ss) (.lst []) = ss.isEmpty := by
  rw [eqD_lst]; cases ss <;> simp [toPs, PyData.eqvAll]
/-- a tuple of texts -/
abbrev tS (ss : List Str) : D := .tup (ss.map D.str)
/-! operators on ints, lists, tuples, texts, by unions -/
section
variable {X : Cx}
def rAddU (K : PySem.W.Frag) : R2 := fun x y H Q => rI0 (fun i j => .int (i + j)) x y H Q ∨ rCat x y H Q ∨ rCatA K x y H Q
theorem op_addU : OpR X (binaryOp .Add) (rAddU X.K) := OpR.or op_add (OpR.or op_cat op_catA)
theorem rd_addI {K : PySem.W.Frag} {i j : Int} : R2D (rAddU K) (.int i) (.int j) (.int (i + j)) := fun Z H x y Q k r1 r2 q => by
  cases r1; cases r2; exact .inl ⟨i, j, rfl, rfl, q _ H (Ex.rf H) (.int _)⟩
theorem rd_addL {K : PySem.W.Frag} {ds es : List D} (hz : ds.length + es.length ≤ 100000) : R2D (rAddU K) (.lst ds) (.lst es) (.lst (ds ++ es)) := fun Z H x y Q k r1 r2 q => by
  cases r1 with
  | lst n h r => cases r2 with
    | lst n' h' r' => exact .inr (.inl ⟨_, _, _, _, rfl, rfl, h, h', Nat.le_trans (by rw [r.len, r'.len]; exact hz) (by decide), fun p hp =>
        q _ _ (Ex.new hp) (.lst (k.no hp) upd_same ((r.mono (Ext.new hp)).app (r'.mono (Ext.new hp))))⟩)
def rMulU : R2 := fun x y H Q => rI CMul (fun i j => .int (i * j)) x y H Q ∨ rRep x y H Q
theorem op_mulU : OpR X (binaryOp .Mult) rMulU := OpR.or op_mul op_rep
def repD (ds : List D) : Nat → List D
  | 0 => []
  | n + 1 => ds ++ repD ds n
end
end Du
namespace Du
open PySem L2

section
variable {X : Cx}
theorem Reps.rep {Z : Addr → Prop} {H : Hp} {vs : List V} {ds : List D} (r : Reps Z H vs ds) : ∀ n : Nat, Reps Z H (List.replicate n vs).flatten (List.replicate n ds).flatten
  | 0 => by simpa using .nil
  | n + 1 => by
    rw [List.replicate_succ, List.replicate_succ, List.flatten_cons, List.flatten_cons]
    exact r.app (Reps.rep r n)
theorem rd_mulI {i j : Int} (h : CMul i j) : R2D rMulU (.int i) (.int j) (.int (i * j)) := fun Z H x y Q k r1 r2 q => by
  cases r1; cases r2; exact .inl ⟨i, j, rfl, rfl, h, q _ H (Ex.rf H) (.int _)⟩
theorem rd_I0 {g : Int → Int → V} {z : Int → Int → D} {i j : Int} (hg : ∀ Z H, Rep Z H (g i j) (z i j)) : R2D (rI0 g) (.int i) (.int j) (z i j) := fun Z H x y Q k r1 r2 q => by
  cases r1; cases r2; exact ⟨i, j, rfl, rfl, q _ H (Ex.rf H) (hg Z H)⟩
theorem rd_mod {i j : Int} (h : 0 < j) : R2D (rI (fun _ j => 0 < j) fun i j => .int (i % j)) (.int i) (.int j) (.int (i % j)) := fun Z H x y Q k r1 r2 q => by
  cases r1; cases r2; exact ⟨i, j, rfl, rfl, h, q _ H (Ex.rf H) (.int _)⟩
/-! in -/
def rInT (K : PySem.W.Frag) : R2 := fun x y H Q => ∃ d ds, Dp K H x d ∧ Dp K H y (.tuple ds) ∧ SeqAt.shaped d = true ∧ SeqAt.shaped (.tuple ds) = true ∧ Q (.bl (ds.any fun z => PyData.eqv z d)) H
def rNotInT (K : PySem.W.Frag) : R2 := fun x y H Q => ∃ d ds, Dp K H x d ∧ Dp K H y (.tuple ds) ∧ SeqAt.shaped d = true ∧ SeqAt.shaped (.tuple ds) = true ∧ Q (.bl (!ds.any fun z => PyData.eqv z d)) H
/-- in a list, in a tuple -/
def rInU (K : PySem.W.Frag) : R2 := fun x y H Q => rInD K x y H Q ∨ rInT K x y H Q
def rNotInU (K : PySem.W.Frag) : R2 := fun x y H Q => rNotInD K x y H Q ∨ rNotInT K x y H Q
def inD (d : D) (ds : List D) : Bool := ds.any fun z => eqD z d
/-! items, slices -/
theorem rd_ixL {K : PySem.W.Frag} {ds : List D} {i : Nat} {d : D} (h : ds[i]? = some d) : R2D (rIx K) (.lst ds) (.int (i : Int)) d := fun Z H x y Q k r1 r2 q => by
  cases r2
  cases r1 with
  | lst n h1 r =>
    obtain ⟨v, e1, e2⟩ := r.get h
    exact .inl ⟨_, _, _, v, rfl, rfl, .inl (.inl h1), atI_nat e1, q v H (Ex.rf H) e2⟩
/-! built-in calls -/
theorem rl_lenL {K : PySem.W.Frag} {ds : List D} : RLD (fun xs H Q => ∃ x n, xs = [x] ∧ LenV K x H n ∧ Q (.int n) H) [.lst ds] (.int ds.length) := fun Z H xs Q k r q => by
  cases r with
  | cons r r' => cases r'; cases r with
    | lst n h1 r => exact ⟨_, _, rfl, .inl ⟨_, .inl (.inl h1), rfl⟩, by rw [r.len]; exact q _ H (Ex.rf H) (.int _)⟩
theorem rl_all {K : PySem.W.Frag} {bs : List Bool} : RLD (rAll K) [.lst (bs.map D.bl)] (.bl (bs.all id)) := fun Z H xs Q k r q => by
  cases r with
  | cons r r' => cases r'; cases r with
    | lst n h1 r => exact ⟨_, bs, rfl, .inl (.inl (by rw [← r.bls]; exact h1)), q _ H (Ex.rf H) (.bl _)⟩
theorem rl_intI {i : Int} : RLD (fun xs H Q => (∃ i, xs = [.int i] ∧ Q (.int i) H) ∨ ∃ k, xs = [.bl k] ∧ Q (.int (if k then 1 else 0)) H) [.int i] (.int i) := fun Z H xs Q k r q => by
  cases r with
  | cons r r' => cases r'; cases r; exact .inl ⟨_, rfl, q _ H (Ex.rf H) (.int _)⟩
end
/-! sorted texts -/
def leS (a b : Str) : Bool := !decide (b.cps.toList < a.cps.toList)
def srt (ss : List Str) : List Str := ss.mergeSort leS
/-- the texts of a list, each once, in order -/
def uniq (ss : List Str) : List Str := srt (addAll [] ss)
end Du
namespace Du
open PySem L2

/-! dicts whose keys are tuples -/
def kD : Key → D
  | .inl i => .int i
  | .inr s => .str s
/-- a tuple as a key -/
abbrev tK (k : List Key) : D := .tup (k.map kD)
def valD {κ : Type} [DecidableEq κ] (kvs : List (κ × D)) (k : κ) : Option D := (kvs.find? fun e => decide (e.1 = k)).map (·.2)
section
variable {ρ : Rho} {te td ty tk tv : TE} {tt : TT}
theorem RepT.val {Z : Addr → Prop} {H : Hp} {k : List Key} : ∀ {kvs : List (List Key × V)} {ds : List (List Key × D)}, RepT Z H kvs ds → ∀ {d : D}, valD ds k = some d → ∃ v, valV kvs k = some v ∧ Rep Z H v d
  | _, _, .nil, d, h => by simp [valD] at h
  | _, _, .cons (k := k') (v := v) (d := d') r t, d, h => by
    by_cases e : k' = k
    · have : d' = d := by simpa [valD, e] using h
      subst this
      exact ⟨v, by simp [valV, e], r⟩
    · obtain ⟨w, h1, h2⟩ := RepT.val (d := d) (k := k) t (by simpa [valD, e] using h)
      exact ⟨w, by simpa [valV, e] using h1, h2⟩
theorem RepT.len {Z : Addr → Prop} {H : Hp} : ∀ {kvs : List (List Key × V)} {ds : List (List Key × D)}, RepT Z H kvs ds → kvs.length = ds.length
  | _, _, .nil => rfl
  | _, _, .cons _ t => by simp [RepT.len t]
theorem RepT.app {Z : Addr → Prop} {H : Hp} : ∀ {a b : List (List Key × V)} {c d : List (List Key × D)}, RepT Z H a c → RepT Z H b d → RepT Z H (a ++ b) (c ++ d)
  | _, _, _, _, .nil, s => s
  | _, _, _, _, .cons r t, s => .cons r (RepT.app t s)
theorem RepT.keys {Z : Addr → Prop} {H : Hp} : ∀ {kvs : List (List Key × V)} {ds : List (List Key × D)}, RepT Z H kvs ds → kvs.map (·.1) = ds.map (·.1)
  | _, _, .nil => rfl
  | _, _, .cons _ t => by simp [RepT.keys t]
/-! a dict comprehension whose keys are unlike tuples -/
/-! a comprehension over the keys of a dict in a slot -/
def tLk (t : TE) : TE := fun σ H Q => tLockE t σ H Q ∨ t σ H Q
end
end Du
namespace Du
open PySem L2

/-! operators of an own class -/
section
variable {X : Cx} {CX : CXT} {n : Nat} {C g : Addr} {sp : Sp} {E : XK}
/-- x op y, both instances of the class at C -/
def rBin (C : Addr) (sp : Sp) (E : XK) : R2 := fun x y H Q => ∃ a dx fs b dy gs, x = .ref a ∧ y = .ref b ∧ H a = some (.ins C dx fs) ∧ H b = some (.ins C dy gs) ∧ sp [x, y] H Q E
/-- ~x -/
def rInv (C : Addr) (sp : Sp) (E : XK) : V → Hp → VK → Prop := fun x H Q => ∃ a dx fs, x = .ref a ∧ H a = some (.ins C dx fs) ∧ sp [x] H Q E
end

/-! static methods, read off the class -/
structure SMet (K : PySem.W.Frag) (C : Addr) (mc : Value) (m : Str) (p g : Addr) : Prop where
  fc : PySem.W.findCls K (.ref C) mc m = some (.get (.builtin "staticmethod.__get__") (.ref p) .none (.ref C))
  rc : ∃ rest, PySem.W.recIn K p "staticmethod" = some (.ref g :: rest)
  kp : PySem.W.keepIn K (.ref g) = true
def tSMeth (C : Addr) (sp : Sp) (E : XK) (ta : TE) (t : TA) : TE := fun σ H Q => ta σ H fun x H1 => x = .ref C ∧ t σ H1 fun vs H2 => sp vs H2 Q E
section
variable {X : Cx} {CX : CXT} {k : Nat} {C p g : Addr} {mc : Value} {sp : Sp} {E : XK} {o e : Expr} {es : List Expr} {f m : Str} {pos apos : Pos} {ta : TE} {t : TA} {pl : Sem Bool}
end
/-! x op= y where the class has the plain operator alone -/
section
variable {X : Cx} {CX : CXT} {n : Nat} {C g : Addr} {sp : Sp} {E : XK}
/-- no class of the line above C has the name -/
def noneUp (K : PySem.W.Frag) (C : Addr) (nm : Str) : Bool := (PySem.W.clsIn K C).any fun cd => cd.mro.all fun c => match c with
  | .type _ => PySem.W.findIn K c nm == some none
  | .ref _ => PySem.W.findIn K c nm == some none
  | _ => false
end
end Du
namespace Du
open PySem L2
/-! the rules with the written part named (within a comprehension it must be) -/
section
variable {X : Cx} {K : PySem.W.Frag} {w : World} {k : Nat} {a b e o : Expr} {ta tb te : TE} {pos : Pos}
theorem k_addU (hK : X.K = K) : OpR X (binaryOp .Add) (rAddU K) := hK ▸ op_addU
theorem k_eq (hK : X.K = K) (hr : Room k X.A) : OpR X (compareOp .Eq) (rEqD K) := hK ▸ op_eqD hr.units
theorem k_ne (hK : X.K = K) (hr : Room k X.A) : OpR X (compareOp .NotEq) (rNeD K) := hK ▸ op_neD hr.units
theorem k_ix (hK : X.K = K) : IxR X (rIx K) := hK ▸ ix_seq
theorem k_seq {tg : Expr} (hK : X.K = K) (h : PE X e te) : PI X tg e (iSeq K te) := hK ▸ pi_seq h
theorem k_len (hK : X.K = K) : CallR X (.builtin "len") (fun xs H Q => ∃ x n, xs = [x] ∧ LenV K x H n ∧ Q (.int n) H) := hK ▸ call_len
theorem k_all (hK : X.K = K) (hc : X.calm = true) : CallR X (.builtin "all") (rAll K) := hK ▸ cr_all hc
theorem k_listOf (hK : X.K = K) : CallR X (.type "list") (fun xs H Q => ∃ p ys, xs = [.ref p] ∧ (SqL K H p ys ∨ SqT K H p ys) ∧ ∀ l, H l = none → Q (.ref l) (upd H l (.lst ys))) := hK ▸ call_list_of
theorem k_pgt {es : List Expr} {kk n : Nat} {t : TGs} (hK : X.K = K) (hc : X.calm = true) (h : PGs X es t) (hn : (assignEach es X.env).length = n := by rfl) (hst : (assignEach es X.env).findIdx? (·.1) = none := by rfl) : PG X (.Tuple es kk pos) (gTup K n t) := hK ▸ pg_tup hc h hn hst
theorem k_bm {es : List Expr} {to : TE} {t : TA} {name : Str} {apos cpos : Pos} {T id : String} {r : V → List V → Hp → VK → Prop} (hK : X.K = K) (pa : PlainAttrs T) (slot : Slot T name id) (hty : typeOf (.builtin id) = pure (.type "method_descriptor")) (hm : MtR X id r) (ho : PE X o to) (ha : PA X (e :: es) t)
    (hbase : attributeBase o name X.env (eval o X.env) = eval o X.env := by rfl)
    (hfew : ((backTo cpos (starEach (e :: es) X.env)).all (fun x => !x.1) && (backToKw cpos (keywordEach [] X.env)).all (fun x => x.1.isSome)
      && decide ((e :: es).length + ([] : List Keyword).length + (if ([] : List Keyword).isEmpty then 0 else 1) < 30)) = true := by rfl)
    (hline : (apos.endLine == cpos.line) = true := by rfl) (hs : starEach (e :: es) X.env = (false, eval e X.env) :: starEach es X.env := by rfl) (hplain : (backTo cpos (starEach es X.env)).any (·.1) = false := by rfl) :
    PE X (.Call (.Attribute o name apos) (e :: es) [] cpos) (tBM K T r to t) := hK ▸ pe_bm pa slot hty hm ho ha hbase hfew hline hs hplain
end
end Du
namespace Du
open PySem L2
/-! cells that are owned: their contents in data, tracked -/
abbrev Mu := List (Addr × D)
def dom (μ : Mu) (a : Addr) : Prop := a ∈ μ.map (·.1)
inductive Cont (Z : Addr → Prop) (H : Hp) : Addr → D → Prop
  | lst {a : Addr} {vs : List V} {ds : List D} : H a = some (.lst vs) → Reps Z H vs ds → Cont Z H a (.lst ds)
  | ins {a C dx : Addr} {fs : List (Str × V)} {ds : List (Str × D)} : H a = some (.ins C dx fs) → RepF Z H fs ds → Cont Z H a (.ins C ds)
  | dK {a : Addr} {fs : List (Key × V)} {ds : List (Key × D)} : H a = some (.dK fs) → RepK Z H fs ds → Cont Z H a (.dK ds)
  | dT {a : Addr} {fs : List (List Key × V)} {ds : List (List Key × D)} : H a = some (.dT fs) → RepT Z H fs ds → Cont Z H a (.dT ds)
  | dN {a : Addr} {hf : NestedKey → Int} {es : NEs} {ob : Obj} {ds : List (NestedKey × D)} : H a = some (NDO hf a es ob) → RepN Z H es ds → Cont Z H a (.dN hf ds)
  /-- a table of code objects, all of them of the name q -/
  | tbl {a : Addr} {q : Str} {ps : Array Value} : H a = some (.tbl ps) → TriplesOk ps.toList → (∀ (pos : Pos) (cv : Value), codeAmong pos ps.toList = some cv → ∃ c, cv = .ref c ∧ ¬ Z c ∧ H c = some (LamX.CodeO c q)) → Cont Z H a (.str q)
structure Mem (Z : Addr → Prop) (H : Hp) (μ : Mu) : Prop where
  cs : ∀ p ∈ μ, Z p.1 ∧ Cont Z H p.1 p.2
  nd : (μ.map (·.1)).Nodup
theorem Cont.ex {Z : Addr → Prop} {H H' : Hp} {a : Addr} {d : D} (c : Cont Z H a d) (x : Ext Z H H') (e : ∀ o, H a = some o → H' a = some o) : Cont Z H' a d := by
  cases c with
  | lst h r => exact .lst (e _ h) (r.mono x)
  | ins h r => exact .ins (e _ h) (r.mono x)
  | dK h r => exact .dK (e _ h) (r.mono x)
  | dT h r => exact .dT (e _ h) (r.mono x)
  | dN h r => exact .dN (e _ h) (r.mono x)
  | tbl h t r => exact .tbl (e _ h) t fun p v hv => let ⟨c, e1, n, e2⟩ := r p v hv; ⟨c, e1, n, x c _ n e2⟩
theorem Cont.zs {Z Z' : Addr → Prop} {H : Hp} {a : Addr} {d : D} (c : Cont Z H a d) (x : ∀ a, Z' a → Z a) : Cont Z' H a d := by
  cases c with
  | lst h r => exact .lst h (r.zs fun a z => .inl (x a z))
  | ins h r => exact .ins h (r.zs fun a z => .inl (x a z))
  | dK h r => exact .dK h (r.zs fun a z => .inl (x a z))
  | dT h r => exact .dT h (r.zs fun a z => .inl (x a z))
  | dN h r => exact .dN h (r.zs fun a z => .inl (x a z))
  | tbl h t r => exact .tbl h t fun p v hv => let ⟨c, e1, n, e2⟩ := r p v hv; ⟨c, e1, fun z => n (x c z), e2⟩
theorem Cont.is {Z : Addr → Prop} {H : Hp} {a : Addr} {d : D} (c : Cont Z H a d) : ∃ o, H a = some o ∧ isTup o = false := by
  cases c with
  | lst h r => exact ⟨_, h, rfl⟩
  | ins h r => exact ⟨_, h, rfl⟩
  | dK h r => exact ⟨_, h, rfl⟩
  | dT h r => exact ⟨_, h, rfl⟩
  | dN h r => exact ⟨_, h, rfl⟩
  | tbl h t r => exact ⟨_, h, rfl⟩
theorem Mem.nil {Z : Addr → Prop} {H : Hp} : Mem Z H [] := ⟨fun _ h => absurd h (by simp), by simp⟩
theorem Mem.dz {Z : Addr → Prop} {H : Hp} {μ : Mu} (m : Mem Z H μ) {a : Addr} (h : dom μ a) : Z a := by
  obtain ⟨p, hp, rfl⟩ := List.mem_map.mp h
  exact (m.cs p hp).1
theorem Mem.is {Z : Addr → Prop} {H : Hp} {μ : Mu} (m : Mem Z H μ) {a : Addr} (h : dom μ a) : ∃ o, H a = some o ∧ isTup o = false := by
  obtain ⟨p, hp, rfl⟩ := List.mem_map.mp h
  exact (m.cs p hp).2.is
theorem Mem.ex {Z : Addr → Prop} {H H' : Hp} {μ : Mu} (m : Mem Z H μ) (x : Ex H H') : Mem Z H' μ := ⟨fun p hp => ⟨(m.cs p hp).1, (m.cs p hp).2.ex x.to fun o h => x _ o h⟩, m.nd⟩
theorem Mem.get {Z : Addr → Prop} {H : Hp} {μ : Mu} (m : Mem Z H μ) {k : Nat} {a : Addr} {d : D} (h : μ[k]? = some (a, d)) : Z a ∧ Cont Z H a d := m.cs (a, d) (List.mem_of_getElem? h)
theorem Mem.lst {Z : Addr → Prop} {H : Hp} {μ : Mu} (m : Mem Z H μ) {k : Nat} {a : Addr} {ds : List D} (h : μ[k]? = some (a, .lst ds)) : Z a ∧ ∃ vs, H a = some (.lst vs) ∧ Reps Z H vs ds := by
  obtain ⟨z, c⟩ := m.get h
  cases c with
  | lst h r => exact ⟨z, _, h, r⟩
theorem Mem.ins {Z : Addr → Prop} {H : Hp} {μ : Mu} (m : Mem Z H μ) {k : Nat} {a C : Addr} {ds : List (Str × D)} (h : μ[k]? = some (a, .ins C ds)) : Z a ∧ ∃ dx fs, H a = some (.ins C dx fs) ∧ RepF Z H fs ds := by
  obtain ⟨z, c⟩ := m.get h
  cases c with
  | ins h r => exact ⟨z, _, _, h, r⟩
theorem set_fst {μ : Mu} {k : Nat} {a : Addr} {d d' : D} (h : μ[k]? = some (a, d)) : (μ.set k (a, d')).map (·.1) = μ.map (·.1) := by
  apply List.ext_getElem?
  intro i
  rw [List.getElem?_map, List.getElem?_map, List.getElem?_set]
  by_cases e : k = i
  · subst e
    rw [if_pos rfl, h]
    have := (List.getElem?_eq_some_iff.mp h).1
    rw [if_pos this]; rfl
  · rw [if_neg e]
theorem Mem.putC {Z : Addr → Prop} {H : Hp} {μ : Mu} (m : Mem Z H μ) {k : Nat} {a : Addr} {d d' : D} {o : HO} (h : μ[k]? = some (a, d)) (r : Cont Z (upd H a o) a d') : Mem Z (upd H a o) (μ.set k (a, d')) := by
  have za := (m.get h).1
  have x : Ext Z H (upd H a o) := (Ext.rf H).mut za
  refine ⟨fun p hp => ?_, by rw [set_fst h]; exact m.nd⟩
  obtain ⟨j, hj⟩ := List.getElem?_of_mem hp
  rw [List.getElem?_set] at hj
  by_cases e : k = j
  · subst e
    have := (List.getElem?_eq_some_iff.mp h).1
    rw [if_pos rfl, if_pos this] at hj
    cases hj
    exact ⟨za, r⟩
  · rw [if_neg e] at hj
    have hm := m.cs p (List.mem_of_getElem? hj)
    have ne : p.1 ≠ a := fun z => by
      have h1 : (μ.map (·.1))[j]? = some a := by rw [List.getElem?_map, hj, ← z]; rfl
      have h2 : (μ.map (·.1))[k]? = some a := by rw [List.getElem?_map, h]; rfl
      have hjl : j < (μ.map (·.1)).length := (List.getElem?_eq_some_iff.mp h1).1
      exact e ((List.getElem?_inj (i := j) (j := k) hjl m.nd).mp (h1.trans h2.symm)).symm
    exact ⟨hm.1, hm.2.ex x fun o ho => by rw [upd_ne ne]; exact ho⟩
theorem Mem.put {Z : Addr → Prop} {H : Hp} {μ : Mu} (m : Mem Z H μ) {k : Nat} {a : Addr} {d : D} {ds : List D} {vs : List V} (h : μ[k]? = some (a, d)) (r : Reps Z H vs ds) : Mem Z (upd H a (.lst vs)) (μ.set k (a, .lst ds)) :=
  m.putC h (.lst upd_same (r.mono ((Ext.rf H).mut (m.get h).1)))
/-! from a heap to a later one -/
structure Nxt (Z : Addr → Prop) (H : Hp) (μ : Mu) (H' : Hp) (μ' : Mu) : Prop where
  ext : Ext (dom μ) H H'
  dm : μ'.map (·.1) = μ.map (·.1)
  mem : Mem Z H' μ'
section
variable {Z : Addr → Prop} {H H1 H' : Hp} {μ μ1 μ' : Mu}
theorem Nxt.rf (m : Mem Z H μ) : Nxt Z H μ H μ := ⟨Ext.rf H, rfl, m⟩
theorem Nxt.exs (m : Mem Z H μ) (x : Ex H H') : Nxt Z H μ H' μ := ⟨x.to, rfl, m.ex x⟩
theorem Nxt.tr (x : Nxt Z H μ H1 μ1) (y : Nxt Z H1 μ1 H' μ') : Nxt Z H μ H' μ' := ⟨x.ext.tr (y.ext.wk fun a h => by unfold dom at h ⊢; rw [← x.dm]; exact h), y.dm.trans x.dm, y.mem⟩
theorem Nxt.to (x : Nxt Z H μ H' μ') (m : Mem Z H μ) : Ext Z H H' := x.ext.wk fun a h => m.dz h
theorem Nxt.ok (x : Nxt Z H μ H' μ') (k : okZ Z H) : okZ Z H' := fun a z => by
  by_cases h : dom μ a
  · refine x.mem.is (a := a) ?_
    unfold dom; rw [x.dm]; exact h
  · obtain ⟨o, h1, h2⟩ := k a z
    exact ⟨o, x.ext a o h h1, h2⟩
theorem Nxt.putC {k : Nat} {a : Addr} {d d' : D} {o : HO} (m : Mem Z H μ) (h : μ[k]? = some (a, d)) (r : Cont Z (upd H a o) a d') : Nxt Z H μ (upd H a o) (μ.set k (a, d')) :=
  ⟨(Ext.rf H).mut (List.mem_map.mpr ⟨_, List.mem_of_getElem? h, rfl⟩), set_fst h, m.putC h r⟩
theorem Nxt.put {k : Nat} {a : Addr} {d : D} {ds : List D} {vs : List V} (m : Mem Z H μ) (h : μ[k]? = some (a, d)) (r : Reps Z H vs ds) : Nxt Z H μ (upd H a (.lst vs)) (μ.set k (a, .lst ds)) :=
  ⟨(Ext.rf H).mut (List.mem_map.mpr ⟨_, List.mem_of_getElem? h, rfl⟩), set_fst h, m.put h r⟩
end
/-! readings with effects -/
def GE (te : TE) (ρ : Rho) (μ : Mu) (Φ : D → Mu → Prop) : Prop := ∀ (Z : Addr → Prop) (σ : L2.St) (H : Hp) (Q : VK), okZ Z H → SRep Z H σ ρ → Mem Z H μ → (∀ v H' d μ', Φ d μ' → Nxt Z H μ H' μ' → Rep Z H' v d → Q v H') → te σ H Q
def GEA (ta : TA) (ρ : Rho) (μ : Mu) (Φ : List D → Mu → Prop) : Prop := ∀ (Z : Addr → Prop) (σ : L2.St) (H : Hp) (Q : List V → Hp → Prop), okZ Z H → SRep Z H σ ρ → Mem Z H μ → (∀ vs H' ds μ', Φ ds μ' → Nxt Z H μ H' μ' → Reps Z H' vs ds → Q vs H') → ta σ H Q
def GT (tt : TT) (ρ : Rho) (μ : Mu) (Φ : Bool → Mu → Prop) : Prop := ∀ (Z : Addr → Prop) (σ : L2.St) (H : Hp) (Q : Bool → Hp → Prop), okZ Z H → SRep Z H σ ρ → Mem Z H μ → (∀ b H' μ', Φ b μ' → Nxt Z H μ H' μ' → Q b H') → tt σ H Q
section
variable {ρ : Rho} {μ : Mu} {te ta tb : TE} {tt t u : TT} {d e z : D} {b : Bool} {Φ : D → Mu → Prop} {ΦA : List D → Mu → Prop} {ΦT : Bool → Mu → Prop}
theorem ge_ev (h : Ev te ρ d) (q : Φ d μ) : GE te ρ μ Φ := fun Z σ H Q k s m c => h Z σ H Q k s fun v H' x r => c v H' d μ q (.exs m x) r
theorem gea_ev {ta : TA} {ds : List D} (h : EvA ta ρ ds) (q : ΦA ds μ) : GEA ta ρ μ ΦA := fun Z σ H Q k s m c => h Z σ H Q k s fun v H' x r => c v H' ds μ q (.exs m x) r
theorem GE.mono {Φ' : D → Mu → Prop} (h : GE te ρ μ Φ) (g : ∀ d μ', Φ d μ' → Φ' d μ') : GE te ρ μ Φ' := fun Z σ H Q k s m c => h Z σ H Q k s m fun v H' d μ' q n r => c v H' d μ' (g d μ' q) n r
theorem gea_nil (q : ΦA [] μ) : GEA tNil ρ μ ΦA := gea_ev ev_nil q
theorem gea_cons {tr : TA} (h : GE ta ρ μ fun d μ1 => GEA tr ρ μ1 fun ds μ2 => ΦA (d :: ds) μ2) : GEA (tCons ta tr) ρ μ ΦA := fun Z σ H Q k s m c =>
  h Z σ H _ k s m fun x H1 d μ1 g n1 r1 => g Z σ H1 _ (n1.ok k) (s.mono (n1.to m)) n1.mem fun xs H2 ds μ2 q n2 r2 => c _ H2 _ μ2 q (n1.tr n2) (.cons (r1.mono (n2.to n1.mem)) r2)
theorem ge_op {r : R2} (h : GE ta ρ μ fun d μ1 => GE tb ρ μ1 fun e μ2 => ∃ z, R2D r d e z ∧ Φ z μ2) : GE (tOp r ta tb) ρ μ Φ := fun Z σ H Q k s m c =>
  h Z σ H _ k s m fun x H1 d μ1 g n1 r1 => g Z σ H1 _ (n1.ok k) (s.mono (n1.to m)) n1.mem fun y H2 e μ2 q n2 r2 => by
    obtain ⟨z, hr, q⟩ := q
    exact hr Z H2 x y Q (n2.ok (n1.ok k)) (r1.mono (n2.to n1.mem)) r2 fun v H3 x3 r3 => c v H3 z μ2 q ((n1.tr n2).tr (.exs n2.mem x3)) r3
theorem ge_cb {r : List V → Hp → VK → Prop} {ta : TA} (h : GEA ta ρ μ fun ds μ1 => ∃ z, RLD r ds z ∧ Φ z μ1) : GE (tCB r ta) ρ μ Φ := fun Z σ H Q k s m c =>
  h Z σ H _ k s m fun x H1 d μ1 ⟨z, hr, q⟩ n1 r1 => hr Z H1 x Q (n1.ok k) r1 fun v H3 x3 r3 => c v H3 z μ1 q (n1.tr (.exs n1.mem x3)) r3
theorem gt_test (h : GE te ρ μ fun d μ1 => ∃ b, d = .bl b ∧ ΦT b μ1) : GT (tTest te) ρ μ ΦT := fun Z σ H Q k s m c => h Z σ H _ k s m fun v H1 d μ1 ⟨b, e, q⟩ n1 r1 => by subst e; cases r1; exact ⟨b, rfl, c b H1 μ1 q n1⟩
theorem gt_and (h : GT t ρ μ fun b μ1 => if b = true then GT u ρ μ1 ΦT else ΦT false μ1) : GT (tAnd t u) ρ μ ΦT := fun Z σ H Q k s m c => h Z σ H _ k s m fun b H1 μ1 q n1 => by
  cases b with
  | true => exact iteT (q Z σ H1 _ (n1.ok k) (s.mono (n1.to m)) n1.mem fun b2 H2 μ2 q2 n2 => c b2 H2 μ2 q2 (n1.tr n2))
  | false => exact iteF (c false H1 μ1 q n1)
/-! owned lists -/
theorem ge_ixO {K : PySem.W.Frag} (h : GE ta ρ μ fun d μ1 => GE tb ρ μ1 fun e μ2 => ∃ (a : Addr) (k : Nat) (ds : List D) (i : Nat) (z : D), d = .ptr a ∧ e = .int ((i : Nat) : Int) ∧ μ2[k]? = some (a, .lst ds) ∧ ds[i]? = some z ∧ Φ z μ2) : GE (tOp (rIx K) ta tb) ρ μ Φ := fun Z σ H Q k s m c =>
  h Z σ H _ k s m fun x H1 d μ1 g n1 r1 => g Z σ H1 _ (n1.ok k) (s.mono (n1.to m)) n1.mem fun y H2 e μ2 q n2 r2 => by
    obtain ⟨a, kk, ds, i, z, rfl, rfl, hk, hi, q⟩ := q
    cases r1; cases r2
    obtain ⟨za, vs, hv, rs⟩ := n2.mem.lst hk
    obtain ⟨v, hv1, hv2⟩ := rs.get hi
    refine .inl ⟨a, vs, (i : Int), v, rfl, rfl, .inl (.inl hv), ?_, c v H2 z μ2 q (n1.tr n2) hv2⟩
    have hl : i < vs.length := (List.getElem?_eq_some_iff.mp hv1).1
    unfold atI ixN
    rw [if_pos (by omega), if_pos (by omega)]
    simpa using hv1
theorem ge_append {K : PySem.W.Frag} {ta : TA} (h : GE te ρ μ fun d μ1 => ∃ (a : Addr) (k : Nat) (x : List D), d = .ptr a ∧ μ1[k]? = some (a, .lst x) ∧ GEA ta ρ μ1 fun es μ2 => ∃ (ds : List D) (z : D), es = [z] ∧ μ2[k]? = some (a, .lst ds) ∧ ds.length < 100000 ∧ Φ .non (μ2.set k (a, .lst (ds ++ [z])))) : GE (tBM K "list" rAppend te ta) ρ μ Φ := fun Z σ H Q k s m c =>
  h Z σ H _ k s m fun x H1 d μ1 g n1 r1 => by
    obtain ⟨a, k0, x0, rfl, hk0, g⟩ := g
    obtain ⟨za, ws, hv, rs⟩ := n1.mem.lst hk0
    cases r1
    refine ⟨.inl ⟨rfl, ws, .inl (.inl hv)⟩, g Z σ H1 _ (n1.ok k) (s.mono (n1.to m)) n1.mem fun xs H2 es μ2 q n2 r2 => ?_⟩
    obtain ⟨ds, z, rfl, hk, hz, q⟩ := q
    cases r2 with
    | cons r2 r3 =>
      cases r3
      obtain ⟨_, vs2, hv2, rs2⟩ := n2.mem.lst hk
      refine ⟨a, vs2, _, rfl, rfl, hv2, Nat.lt_of_lt_of_le (by rw [rs2.len]; exact hz) (by decide), c _ _ _ _ q ((n1.tr n2).tr (.put n2.mem hk (rs2.app (.cons r2 .nil)))) .non⟩
theorem Reps.erase {Z : Addr → Prop} {H : Hp} : ∀ {vs : List V} {ds : List D} (i : Nat), Reps Z H vs ds → Reps Z H (vs.eraseIdx i) (ds.eraseIdx i)
  | _, _, _, .nil => by simpa using Reps.nil
  | _, _, 0, .cons _ r => r
  | _, _, i + 1, .cons h r => .cons h (r.erase i)
theorem ge_popO {K : PySem.W.Frag} {ta : TA} (h : GE te ρ μ fun d μ1 => ∃ (a : Addr) (k : Nat) (x : List D), d = .ptr a ∧ μ1[k]? = some (a, .lst x) ∧ GEA ta ρ μ1 fun es μ2 => ∃ (ds : List D) (i : Nat) (z : D), es = [.int ((i : Nat) : Int)] ∧ μ2[k]? = some (a, .lst ds) ∧ i < 100000 ∧ ds[i]? = some z ∧ Φ z (μ2.set k (a, .lst (ds.eraseIdx i)))) : GE (tBM K "list" rPopAt te ta) ρ μ Φ := fun Z σ H Q k s m c =>
  h Z σ H _ k s m fun x H1 d μ1 g n1 r1 => by
    obtain ⟨a, k0, x0, rfl, hk0, g⟩ := g
    obtain ⟨za, ws, hv, rs⟩ := n1.mem.lst hk0
    cases r1
    refine ⟨.inl ⟨rfl, ws, .inl (.inl hv)⟩, g Z σ H1 _ (n1.ok k) (s.mono (n1.to m)) n1.mem fun xs H2 es μ2 q n2 r2 => ?_⟩
    obtain ⟨ds, i, z, rfl, hk, hz, hi, q⟩ := q
    cases r2 with
    | cons r2 r3 =>
      cases r2; cases r3
      obtain ⟨_, vs2, hv2, rs2⟩ := n2.mem.lst hk
      obtain ⟨v, hv3, hv4⟩ := rs2.get hi
      have hl : i < vs2.length := (List.getElem?_eq_some_iff.mp hv3).1
      have n3 : Nxt Z H2 μ2 (upd H2 a (.lst (vs2.eraseIdx i))) (μ2.set k0 (a, .lst (ds.eraseIdx i))) := .put n2.mem hk (rs2.erase i)
      refine ⟨a, vs2, i, i, v, rfl, rfl, hv2, by omega, by omega, ?_, hv3, c _ _ _ _ q ((n1.tr n2).tr n3) (hv4.mono (n3.to n2.mem))⟩
      unfold seqIndex?
      simp only [show ¬ ((i : Int) < 0) from by omega]
      simp [hl]
/-! calls -/
def spM (R : List D → Mu → (D → Mu → Prop) → Prop) : Sp := fun vs H Q _ => ∃ (Z : Addr → Prop) (ds : List D) (μ : Mu) (Φ : D → Mu → Prop), okZ Z H ∧ Reps Z H vs ds ∧ Mem Z H μ ∧ R ds μ Φ ∧ ∀ v H' d μ', Φ d μ' → Nxt Z H μ H' μ' → Rep Z H' v d → Q v H'
theorem Mem.left {Z : Addr → Prop} {H : Hp} {μ ν : Mu} (m : Mem Z H (μ ++ ν)) : Mem Z H μ := ⟨fun p hp => m.cs p (List.mem_append_left _ hp), (by have := m.nd; rw [List.map_append] at this; exact (List.nodup_append.mp this).1)⟩
theorem Mem.right {Z : Addr → Prop} {H : Hp} {μ ν : Mu} (m : Mem Z H (ν ++ μ)) : Mem Z H μ := ⟨fun p hp => m.cs p (List.mem_append_right _ hp), (by have := m.nd; rw [List.map_append] at this; exact (List.nodup_append.mp this).2.1)⟩
/-- all of it is the callee's -/
theorem ge_callA {R : List D → Mu → (D → Mu → Prop) → Prop} {E : XK} {ta : TA} (h : GEA ta ρ μ fun ds μ1 => R ds μ1 Φ) : GE (tCall (spM R) [] E ta) ρ μ Φ := fun Z σ H Q k s m c =>
  h Z σ H _ k s m fun vs H1 ds μ1 g n1 r1 =>
    ⟨Z, ds, μ1, _, n1.ok k, by rw [List.append_nil]; exact r1, n1.mem, g, fun v H' d μ' q n2 r2 => c v H' d _ q (n1.tr n2) r2⟩
/-! statements -/
structure Nz (Z : Addr → Prop) (H : Hp) (μ : Mu) (Z' : Addr → Prop) (H' : Hp) (μ' : Mu) : Prop where
  ext : Ext (dom μ) H H'
  dm : ∀ a, dom μ' a → dom μ a
  mem : Mem Z' H' μ'
  ok : okZ Z' H'
  ok0 : okZ Z H'
  zs : ∀ a, Z' a → Z a
  zk : ∀ a, Z a → Z' a ∨ (dom μ a ∧ ¬ dom μ' a)
theorem Nxt.nz {Z : Addr → Prop} {H H' : Hp} {μ μ' : Mu} (n : Nxt Z H μ H' μ') (k : okZ Z H) : Nz Z H μ Z H' μ' := ⟨n.ext, fun a h => by unfold dom at h ⊢; rw [← n.dm]; exact h, n.mem, n.ok k, n.ok k, fun _ z => z, fun _ z => .inl z⟩
theorem Nz.tr {Z Z1 Z' : Addr → Prop} {H H1 H' : Hp} {μ μ1 μ' : Mu} (x : Nz Z H μ Z1 H1 μ1) (y : Nz Z1 H1 μ1 Z' H' μ') : Nz Z H μ Z' H' μ' :=
  ⟨x.ext.tr (y.ext.wk x.dm), fun a h => x.dm a (y.dm a h), y.mem, y.ok, fun a z => by
    rcases x.zk a z with h | ⟨h1, h2⟩
    · exact y.ok0 a h
    · obtain ⟨o, ho, hi⟩ := x.ok0 a z
      exact ⟨o, y.ext a o h2 ho, hi⟩, fun a z => x.zs a (y.zs a z), fun a z => by
    rcases x.zk a z with h | ⟨h1, h2⟩
    · rcases y.zk a h with h | ⟨h1, h2⟩
      · exact .inl h
      · exact .inr ⟨x.dm a h1, h2⟩
    · exact .inr ⟨h1, fun z => h2 (y.dm a z)⟩⟩
theorem Nz.to {Z Z' : Addr → Prop} {H H' : Hp} {μ μ' : Mu} (n : Nz Z H μ Z' H' μ') (m : Mem Z H μ) : Ext Z H H' := n.ext.wk fun a h => m.dz h
theorem Nz.srep {Z Z' : Addr → Prop} {H H' : Hp} {μ μ' : Mu} {σ : L2.St} {ρ : Rho} (n : Nz Z H μ Z' H' μ') (m : Mem Z H μ) (s : SRep Z H σ ρ) : SRep Z' H' σ ρ := (s.mono (n.to m)).zs fun a z => .inl (n.zs a z)
def GS (ts : TS) (ρ : Rho) (μ : Mu) (N : Rho → Mu → Prop) (R : D → Mu → Prop) : Prop := ∀ (Z : Addr → Prop) (σ : L2.St) (H : Hp) (E : Ends), okZ Z H → SRep Z H σ ρ → Mem Z H μ →
  (∀ σ' H' ρ' μ' Z', N ρ' μ' → Nz Z H μ Z' H' μ' → SRep Z' H' σ' ρ' → E.nx σ' H') → (∀ v H' d μ' Z', R d μ' → Nz Z H μ Z' H' μ' → Rep Z' H' v d → E.rt v H') → ts E σ H
variable {N : Rho → Mu → Prop} {R : D → Mu → Prop} {ts us : TS}
theorem gs_next (q : N ρ μ) : GS tNext ρ μ N R := fun Z σ H E k s m n r => n σ H ρ μ Z q ((Nxt.rf m).nz k) s
theorem gs_seq (h : GS ts ρ μ (fun ρ' μ' => GS us ρ' μ' N R) R) : GS (tSeq ts us) ρ μ N R := fun Z σ H E k s m n r =>
  h Z σ H _ k s m (fun σ' H' ρ' μ' Z' g z s' => g Z' σ' H' E z.ok s' z.mem (fun σ2 H2 ρ2 μ2 Z2 q z2 s2 => n σ2 H2 ρ2 μ2 Z2 q (z.tr z2) s2) fun v H2 d μ2 Z2 q z2 r2 => r v H2 d μ2 Z2 q (z.tr z2) r2) r
theorem gs_ret (h : GE te ρ μ R) : GS (tRet te) ρ μ N R := fun Z σ H E k s m n r => h Z σ H _ k s m fun v H' d μ' q nx rp => r v H' d μ' Z q (nx.nz k) rp
theorem gs_asg {i : Nat} (h : GE te ρ μ fun d μ' => N (ρ.set i (some d)) μ') : GS (tAsg te (gName i)) ρ μ N R := fun Z σ H E k s m n r =>
  h Z σ H _ k s m fun v H' d μ' q nx rp => n _ H' _ μ' Z q (nx.nz k) ((s.mono (nx.to m)).set i rp)
theorem gs_drop (h : GE te ρ μ fun d μ' => N ρ μ') : GS (tDrop te) ρ μ N R := fun Z σ H E k s m n r =>
  h Z σ H _ k s m fun v H' d μ' q nx rp => n _ H' _ μ' Z q (nx.nz k) (s.mono (nx.to m))
theorem gs_if {c : TT} (h : GT c ρ μ fun b μ' => if b = true then GS ts ρ μ' N R else GS us ρ μ' N R) : GS (tIfS c ts us) ρ μ N R := fun Z σ H E k s m n r =>
  h Z σ H _ k s m fun b H1 μ1 g n1 => by
    have z1 := n1.nz k
    cases b with
    | true => exact iteT (g Z σ H1 E (n1.ok k) (s.mono (n1.to m)) n1.mem (fun σ2 H2 ρ2 μ2 Z2 q z2 s2 => n σ2 H2 ρ2 μ2 Z2 q (z1.tr z2) s2) fun v H2 d μ2 Z2 q z2 r2 => r v H2 d μ2 Z2 q (z1.tr z2) r2)
    | false => exact iteF (g Z σ H1 E (n1.ok k) (s.mono (n1.to m)) n1.mem (fun σ2 H2 ρ2 μ2 Z2 q z2 s2 => n σ2 H2 ρ2 μ2 Z2 q (z1.tr z2) s2) fun v H2 d μ2 Z2 q z2 r2 => r v H2 d μ2 Z2 q (z1.tr z2) r2)
theorem gs_st {ρ' : Rho} (h : St ts ρ (.nx ρ')) (q : N ρ' μ) : GS ts ρ μ N R := fun Z σ H E k s m n r => h Z σ H E k s fun σ' H' x s' => n σ' H' ρ' μ Z q ((Nxt.exs m x).nz k) s'
theorem GS.mono {N' : Rho → Mu → Prop} {R' : D → Mu → Prop} (h : GS ts ρ μ N R) (hn : ∀ ρ μ, N ρ μ → N' ρ μ) (hr : ∀ d μ, R d μ → R' d μ) : GS ts ρ μ N' R' := fun Z σ H E k s m n r => h Z σ H E k s m (fun σ' H' ρ' μ' Z' q => n σ' H' ρ' μ' Z' (hn _ _ q)) fun v H' d μ' Z' q => r v H' d μ' Z' (hr _ _ q)
theorem Reps.setV {Z : Addr → Prop} {H : Hp} {v : V} {d : D} : ∀ {vs : List V} {ds : List D} (i : Nat), Reps Z H vs ds → Rep Z H v d → Reps Z H (vs.set i v) (ds.set i d)
  | _, _, _, .nil, _ => .nil
  | _, _, 0, .cons _ r, h => .cons h r
  | _, _, i + 1, .cons g r, h => .cons g (r.setV i h)
/-- x[i] = v of an owned list -/
theorem gs_setO {to ti : TE} (h : GE te ρ μ fun v μ1 => GE to ρ μ1 fun d μ2 => GE ti ρ μ2 fun e μ3 => ∃ (a : Addr) (k : Nat) (ds : List D) (i : Nat), d = .ptr a ∧ e = .int ((i : Nat) : Int) ∧ μ3[k]? = some (a, .lst ds) ∧ i < ds.length ∧ N ρ (μ3.set k (a, .lst (ds.set i v)))) : GS (tAsg te (gSub to ti rSetL)) ρ μ N R := fun Z σ H E k s m n r =>
  h Z σ H _ k s m fun v H1 d μ1 g n1 r1 => g Z σ H1 _ (n1.ok k) (s.mono (n1.to m)) n1.mem fun o H2 od μ2 g n2 r2 => g Z σ H2 _ (n2.ok (n1.ok k)) ((s.mono (n1.to m)).mono (n2.to n1.mem)) n2.mem fun iv H3 e μ3 g n3 r3 => by
    obtain ⟨a, kk, ds, i, rfl, rfl, hk, hi, q⟩ := g
    cases r2; cases r3
    obtain ⟨_, vs, hv, rs⟩ := n3.mem.lst hk
    have nn := (n1.tr n2).tr n3
    have r1' := (r1.mono (n2.to n1.mem)).mono (n3.to n2.mem)
    have n4 : Nxt Z H3 μ3 (upd H3 a (.lst (vs.set i v))) (μ3.set kk (a, .lst (ds.set i d))) := .put n3.mem hk (rs.setV i r1')
    refine ⟨a, vs, i, i, rfl, rfl, hv, ?_, n _ _ ρ _ Z q ((nn.tr n4).nz k) ((s.mono (nn.to m)).mono (n4.to n3.mem))⟩
    have hl : i < vs.length := by rw [rs.len]; exact hi
    unfold ixN
    rw [if_pos (by omega), if_pos (by omega)]; rfl
/-! a new cell that is owned -/
def DropA (a : Addr) (μ' μ : Mu) : Prop := (μ' = μ ∧ ¬ dom μ a) ∨ ∃ c, μ' = (a, c) :: μ
theorem Cont.own {Z : Addr → Prop} {H : Hp} {a b : Addr} {d : D} {o : HO} (c : Cont Z H b d) (ha : H a = none) : Cont (fun b => Z b ∨ b = a) (upd H a o) b d := by
  have hz : ∀ b, (Z b ∨ b = a) → Z b ∨ H b = none := fun b z => z.imp id fun (e : b = a) => by rw [e]; exact ha
  cases c with
  | lst h r => exact .lst (by rw [upd_ne (ne_of_none h ha)]; exact h) ((r.zs hz).mono (Ext.new ha))
  | ins h r => exact .ins (by rw [upd_ne (ne_of_none h ha)]; exact h) ((r.zs hz).mono (Ext.new ha))
  | dK h r => exact .dK (by rw [upd_ne (ne_of_none h ha)]; exact h) ((r.zs hz).mono (Ext.new ha))
  | dT h r => exact .dT (by rw [upd_ne (ne_of_none h ha)]; exact h) ((r.zs hz).mono (Ext.new ha))
  | dN h r => exact .dN (by rw [upd_ne (ne_of_none h ha)]; exact h) ((r.zs hz).mono (Ext.new ha))
  | tbl h t r => exact .tbl (by rw [upd_ne (ne_of_none h ha)]; exact h) t fun p v hv => let ⟨c, e1, n, e2⟩ := r p v hv; ⟨c, e1, fun z => Or.elim z n fun (e : c = _) => absurd e2 (by rw [e, ha]; intro h; cases h), by rw [upd_ne (ne_of_none e2 ha)]; exact e2⟩
theorem Mem.ownC {Z : Addr → Prop} {H : Hp} {μ : Mu} {a : Addr} {d : D} {o : HO} (m : Mem Z H μ) (ha : H a = none) (r : Cont (fun b => Z b ∨ b = a) (upd H a o) a d) : Mem (fun b => Z b ∨ b = a) (upd H a o) ((a, d) :: μ) := by
  have nd : ¬ dom μ a := fun h => by obtain ⟨o, ho, _⟩ := m.is h; rw [ha] at ho; cases ho
  refine ⟨fun p hp => ?_, by rw [List.map_cons]; exact List.nodup_cons.mpr ⟨nd, m.nd⟩⟩
  rcases List.mem_cons.mp hp with rfl | hp
  · exact ⟨.inr rfl, r⟩
  · obtain ⟨z, c⟩ := m.cs p hp
    exact ⟨.inl z, c.own ha⟩
theorem Mem.own {Z : Addr → Prop} {H : Hp} {μ : Mu} {a : Addr} {vs : List V} {ds : List D} (m : Mem Z H μ) (ha : H a = none) (r : Reps Z H vs ds) : Mem (fun b => Z b ∨ b = a) (upd H a (.lst vs)) ((a, .lst ds) :: μ) :=
  m.ownC ha (.lst upd_same ((r.zs fun b z => z.imp id fun (e : b = a) => by rw [e]; exact ha).mono (Ext.new ha)))
theorem Nz.own {Z Z' : Addr → Prop} {H1 H' : Hp} {μ1 μ' μ'' : Mu} {a : Addr} {o : HO} {c0 : D} (ha : H1 a = none) (nz : ¬ Z a) (m1 : Mem Z H1 μ1) (z : Nz (fun b => Z b ∨ b = a) (upd H1 a o) ((a, c0) :: μ1) Z' H' μ') (d : DropA a μ' μ'') : Nz Z H1 μ1 (fun b => Z' b ∧ b ≠ a) H' μ'' := by
  have nd : ¬ dom μ1 a := fun h => nz (m1.dz h)
  have hd : ∀ b, dom μ'' b → dom μ' b ∧ b ≠ a := by
    intro b h
    rcases d with ⟨rfl, n⟩ | ⟨c, rfl⟩
    · exact ⟨h, fun e => n (e ▸ h)⟩
    · refine ⟨List.mem_cons_of_mem _ h, fun e => ?_⟩
      have := z.mem.nd
      rw [List.map_cons] at this
      exact (List.nodup_cons.mp this).1 (e ▸ h)
  have hd' : ∀ b, dom μ' b → dom μ'' b ∨ b = a := by
    intro b h
    rcases d with ⟨rfl, n⟩ | ⟨c, rfl⟩
    · exact .inl h
    · rcases List.mem_cons.mp h with h | h
      · exact .inr h
      · exact .inl h
  refine ⟨fun b u hn hb => ?_, fun b h => ?_, ⟨fun p hp => ?_, ?_⟩, fun b h => z.ok b h.1, fun b h => z.ok0 b (.inl h), fun b h => ?_, fun b h => ?_⟩
  · have ne : b ≠ a := fun e => by rw [e, ha] at hb; cases hb
    exact z.ext b u (fun h => by rcases List.mem_cons.mp h with h | h; exact ne h; exact hn h) (by rw [upd_ne ne]; exact hb)
  · obtain ⟨h1, h2⟩ := hd b h
    rcases List.mem_cons.mp (z.dm b h1) with h | h
    · exact absurd h h2
    · exact h
  · have hp' : p ∈ μ' := by
      rcases d with ⟨rfl, n⟩ | ⟨c, rfl⟩
      · exact hp
      · exact List.mem_cons_of_mem _ hp
    obtain ⟨z1, c1⟩ := z.mem.cs p hp'
    exact ⟨⟨z1, (hd p.1 (List.mem_map.mpr ⟨p, hp, rfl⟩)).2⟩, c1.zs fun b h => h.1⟩
  · have := z.mem.nd
    rcases d with ⟨rfl, n⟩ | ⟨c, rfl⟩
    · exact this
    · rw [List.map_cons] at this
      exact (List.nodup_cons.mp this).2
  · exact (z.zs b h.1).resolve_right h.2
  · have ne : b ≠ a := fun e => nz (e ▸ h)
    rcases z.zk b (.inl h) with h | ⟨h1, h2⟩
    · exact .inl ⟨h, ne⟩
    · refine .inr ⟨?_, fun h => h2 (hd b h).1⟩
      rcases List.mem_cons.mp h1 with h | h
      · exact absurd h ne
      · exact h
theorem gs_own {i : Nat} {ta : TA} (h : GEA ta ρ μ fun ds μ1 => ds.length ≤ 100000 ∧ ∀ a, ¬ dom μ1 a → GS us (ρ.set i (some (.ptr a))) ((a, .lst ds) :: μ1) (fun ρ' μ' => ∃ μ'', DropA a μ' μ'' ∧ N ρ' μ'') (fun d μ' => ∃ μ'', DropA a μ' μ'' ∧ R d μ'')) : GS (tSeq (tAsg (tLst ta) (gName i)) us) ρ μ N R := fun Z σ H E k s m n r =>
  h Z σ H _ k s m fun vs H1 ds μ1 g n1 r1 => ⟨Nat.le_trans (by rw [r1.len]; exact g.1) (by decide), fun a ha => by
    have k1 := n1.ok k
    have nz : ¬ Z a := k1.no ha
    have hz : ∀ b, (Z b ∨ b = a) → Z b ∨ H1 b = none := fun b z => z.imp id fun (e : b = a) => by rw [e]; exact ha
    refine g.2 a (fun h => nz (n1.mem.dz h)) (fun b => Z b ∨ b = a) _ _ E (k1.add rfl) ((((s.mono (n1.to m)).zs hz).mono (Ext.new ha)).set i (.ptr a)) (n1.mem.own ha r1) (fun σ' H' ρ' μ' Z' q z s' => ?_) fun v H' d μ' Z' q z r' => ?_
    · obtain ⟨μ'', hd, q⟩ := q
      exact n σ' H' ρ' μ'' _ q ((n1.nz k).tr (Nz.own ha nz n1.mem z hd)) (s'.zs fun b h => .inl h.1)
    · obtain ⟨μ'', hd, q⟩ := q
      exact r v H' d μ'' _ q ((n1.nz k).tr (Nz.own ha nz n1.mem z hd)) (r'.zs fun b h => .inl h.1)⟩
/-- an owned list is data from now on -/
theorem gs_freeze {i : Nat} {a : Addr} {ds : List D} (hi : ρ[i]? = some (some (.ptr a))) (h : GS ts (ρ.set i (some (.lst ds))) μ N R) : GS ts ρ ((a, .lst ds) :: μ) N R := fun Z σ H E k s m n r => by
  have nd : ¬ dom μ a := by have := m.nd; rw [List.map_cons] at this; exact (List.nodup_cons.mp this).1
  obtain ⟨za, vs, hv, rs⟩ := m.lst (k := 0) rfl
  have hz : ∀ b, (Z b ∧ b ≠ a) → Z b ∨ H b = none := fun b h => .inl h.1
  obtain ⟨v, hs, hr⟩ := s.2 i _ hi
  cases hr
  have s' : SRep (fun b => Z b ∧ b ≠ a) H σ (ρ.set i (some (.lst ds))) := by
    have := (s.zs hz).set i (Rep.lst (a := a) (fun h => h.2 rfl) hv (rs.zs hz))
    have e : σ.set i (some (.ref a)) = σ := by
      apply List.ext_getElem?
      intro j
      rw [List.getElem?_set]
      by_cases hj : i = j
      · subst hj
        rw [if_pos rfl, hs]
        have := (List.getElem?_eq_some_iff.mp hs).1
        rw [if_pos this]
      · rw [if_neg hj]
    rwa [e] at this
  have m' : Mem (fun b => Z b ∧ b ≠ a) H μ := ⟨fun p hp => by
    obtain ⟨z1, c1⟩ := m.cs p (List.mem_cons_of_mem _ hp)
    exact ⟨⟨z1, fun e => nd (e ▸ List.mem_map.mpr ⟨p, hp, rfl⟩)⟩, c1.zs fun b h => h.1⟩, by have := m.nd; rw [List.map_cons] at this; exact (List.nodup_cons.mp this).2⟩
  have up : ∀ {Z' : Addr → Prop} {H' : Hp} {μ' : Mu}, Nz (fun b => Z b ∧ b ≠ a) H μ Z' H' μ' → Nz Z H ((a, .lst ds) :: μ) Z' H' μ' := fun z => ⟨z.ext.wk fun b h => List.mem_cons_of_mem _ h, fun b h => List.mem_cons_of_mem _ (z.dm b h), z.mem, z.ok, fun b h => by
    by_cases e : b = a
    · subst e; exact ⟨_, z.ext b _ nd hv, rfl⟩
    · exact z.ok0 b ⟨h, e⟩, fun b h => (z.zs b h).1, fun b h => by
    by_cases e : b = a
    · subst e; exact .inr ⟨List.mem_cons_self, fun h => nd (z.dm b h)⟩
    · rcases z.zk b ⟨h, e⟩ with h | ⟨h1, h2⟩
      · exact .inl h
      · exact .inr ⟨List.mem_cons_of_mem _ h1, h2⟩⟩
  exact h _ σ H E (fun b h => k b h.1) s' m' (fun σ' H' ρ' μ' Z' q z s' => n σ' H' ρ' μ' Z' q (up z) s') fun v H' d μ' Z' q z r' => r v H' d μ' Z' q (up z) r'
/-! loops and comprehensions -/
theorem gs_for {wi : TI} {g : TG} {ds : List D} (I : Nat → Rho → Mu → Prop) (hi : EvI wi ρ ds) {ρ0 : Rho} (hl : Lq ρ0 ρ) (h0 : I 0 ρ0 μ)
    (hb : ∀ i d ρi μi, ds[i]? = some d → I i ρi μi → ∃ ρ', GA g d ρi ρ' ∧ GS ts ρ' μi (fun ρ'' μ'' => ∃ ρ1, Lq ρ1 ρ'' ∧ I (i + 1) ρ1 μ'') R) (hn : ∀ ρ' μ', I ds.length ρ' μ' → N ρ' μ') : GS (tFor wi g ts) ρ μ N R := fun Z σ H E k s m n r =>
  hi Z σ H _ k s fun J H1 x1 w1 => by
    have m1 := m.ex x1
    have k1 := k.ex x1
    refine for_it (w1 Z fun a z => .inl z) (fun i σ Hc => ∃ ρi μi Zi, I i ρi μi ∧ Nz Z H1 μ Zi Hc μi ∧ SRep Zi Hc σ ρi) ⟨ρ0, μ, Z, h0, (Nxt.rf m1).nz k1, (s.mono x1.to).lq hl⟩ (fun i σ Hc _ ⟨ρi, μi, Zi, _, z, _⟩ => ⟨z.to m1, z.ok0⟩) ?_ fun σ Hc ⟨ρi, μi, Zi, hI, z, si⟩ => n σ Hc ρi μi Zi (hn _ _ hI) (((Nxt.exs m x1).nz k).tr z) si
    rintro i x σ Hc H' hi ⟨ρi, μi, Zi, hI, z, si⟩ ⟨y1, d, y2, y3⟩
    obtain ⟨ρ', g1, g2⟩ := hb i d ρi μi y2 hI
    have z' : Nz Z H1 μ Zi H' μi := z.tr ((Nxt.exs z.mem y1).nz z.ok)
    refine g1 Zi σ H' x _ z'.ok (si.mono y1.to) (y3.zs fun a h => .inl (z.zs a h)) fun σ' s' => ?_
    refine g2 Zi σ' H' _ z'.ok s' z'.mem (fun σ2 H2 ρ2 μ2 Z2 q z2 s2 => ?_) fun v H2 d μ2 Z2 q z2 r2 => r v H2 d μ2 Z2 q (((Nxt.exs m x1).nz k).tr (z'.tr z2)) r2
    obtain ⟨ρ1, l1, q⟩ := q
    exact ⟨ρ1, μ2, Z2, q, z'.tr z2, s2.lq l1⟩
/-! defs -/
theorem eff_ok {P : Program} {w : World} {K : PySem.W.Frag} {mg : Str → Option Value} {base : Heap} {x qual : Str} {stm : Stmt} {fa : Addr} {fd : FuncData} {N0 ps : List Str} {k : Nat} {R : List D → Mu → (D → Mu → Prop) → Prop} (F : Fun K x qual stm fa fd) (S : FnScope N0 ps (defScope stm)) (len : ∀ ds μ Φ, R ds μ Φ → ds.length = ps.length)
    (hb : ∀ (cdv : Value) (A : Around) (outer : List Env) (s : Shared) (H : Hp) (E : XK), Room k (A.deeper (PyProof.Rows.envOfC qual (defScope stm) s.heap.objs.size fa cdv)) →
      ∃ t, PSs (cxOf CX0 P w K mg base N0 qual (defScope stm) fa cdv A outer s H E).nox (defBody stm) t ∧ ∀ ds μ Φ, R ds μ Φ → GS t (rho0 N0 ds) μ (fun _ μ' => μ'.map (·.1) = μ.map (·.1) ∧ Φ .non μ') (fun d μ' => μ'.map (·.1) = μ.map (·.1) ∧ Φ d μ')) : FnOk P w K mg base CX0 (k + 1) fa fd ps (spM R) := by
  have fin : ∀ {Z Z' : Addr → Prop} {H H' : Hp} {μ μ' : Mu}, Mem Z H μ → μ'.map (·.1) = μ.map (·.1) → Nz Z H μ Z' H' μ' → Nxt Z H μ H' μ' ∧ ∀ a, Z a → Z' a := fun m e z => by
    have zz : ∀ a, _ → _ := fun a h => (z.zk a h).resolve_right fun h => h.2 (by have := h.1; unfold dom at this ⊢; rw [e]; exact this)
    exact ⟨⟨z.ext, e, ⟨fun p hp => by
      obtain ⟨z1, c1⟩ := z.mem.cs p hp
      exact ⟨z.zs _ z1, c1.zs zz⟩, z.mem.nd⟩⟩, zz⟩
  refine F.ok S (fun vs H Q E h => ?_) (fun cdv A outer s H vs Q E hr h => ?_)
  · obtain ⟨Z, ds, μ, Φ, _, r, _, hR, _⟩ := h
    exact r.len.trans (len ds μ Φ hR)
  · obtain ⟨Z, ds, μ, Φ, ok, r, m, hR, q⟩ := h
    obtain ⟨t, ht, hs⟩ := hb cdv A outer s H E hr
    refine ⟨t, ht, ?_⟩
    have s0 : SRep Z H (L2.start N0 vs) (rho0 N0 ds) := by
      unfold L2.start rho0
      rw [r.len]
      exact SRep.start r _
    refine hs ds μ Φ hR Z _ H _ ok s0 m (fun σ' H' ρ' μ' Z' ⟨e, p⟩ z s' => ?_) fun v H' d μ' Z' ⟨e, p⟩ z r' => ?_
    · exact q _ H' _ μ' p (fin m e z).1 .non
    · exact q _ H' _ μ' p (fin m e z).1 (r'.zs fun a h => .inl ((fin m e z).2 a h))
theorem st_gs {d : D} (h : GS ts ρ [] (fun _ _ => False) (fun d' μ' => d' = d)) : St ts ρ (.rt d) := fun Z σ H E k s q =>
  h Z σ H E k s .nil (fun _ _ _ _ _ f => f.elim) fun v H' d' μ' Z' e z r => by
    subst e
    exact q v H' (fun a o ho => z.ext a o (by simp [dom]) ho) (r.zs fun a h => .inl ((z.zk a h).resolve_right fun h => by simp [dom] at h))
end
section
variable {ρ : Rho} {μ : Mu} {ta tb : TE} {Φ : D → Mu → Prop} {N : Rho → Mu → Prop} {R : D → Mu → Prop} {ts us : TS}
theorem gs_mid (M : Rho → Mu → Prop) (h : GS ts ρ μ M R) (g : ∀ ρ' μ', M ρ' μ' → GS us ρ' μ' N R) : GS (tSeq ts us) ρ μ N R := gs_seq (h.mono g fun _ _ h => h)
def flatD : D → Bool
  | .non => true
  | .bl _ => true
  | .int _ => true
  | .str _ => true
  | _ => false
theorem Rep.flat {Z Z' : Addr → Prop} {H : Hp} {v : V} {d : D} (r : Rep Z H v d) (h : flatD d = true) : Rep Z' H v d := by
  cases r with
  | non => exact .non
  | bl b => exact .bl b
  | int i => exact .int i
  | str s => exact .str s
  | _ => cases h
/-- an operator at an owned list as data -/
theorem ge_opO {r : R2} (h : GE ta ρ μ fun d μ1 => GE tb ρ μ1 fun e μ2 => ∃ (a : Addr) (k : Nat) (ds : List D) (z : D), d = .ptr a ∧ μ2[k]? = some (a, .lst ds) ∧ R2D r (.lst ds) e z ∧ flatD z = true ∧ Φ z μ2) : GE (tOp r ta tb) ρ μ Φ := fun Z σ H Q k s m c =>
  h Z σ H _ k s m fun x H1 d μ1 g n1 r1 => g Z σ H1 _ (n1.ok k) (s.mono (n1.to m)) n1.mem fun y H2 e μ2 q n2 r2 => by
    obtain ⟨a, kk, ds, z, rfl, hk, hr, hf, q⟩ := q
    cases r1
    obtain ⟨za, vs, hv, rs⟩ := n2.mem.lst hk
    have hz : ∀ b, (Z b ∧ b ≠ a) → Z b ∨ H2 b = none := fun b h => .inl h.1
    exact hr (fun b => Z b ∧ b ≠ a) H2 _ y Q (fun b h => n2.ok (n1.ok k) b h.1) (.lst (fun h => h.2 rfl) hv (rs.zs hz)) (r2.zs hz) fun v H3 x3 r3 => c v H3 z μ2 q ((n1.tr n2).tr (.exs n2.mem x3)) (r3.flat hf)
/-! instances -/
def putD (f : Str) (d : D) : List (Str × D) → List (Str × D)
  | [] => [(f, d)]
  | (g, x) :: r => if g = f then (g, d) :: r else (g, x) :: putD f d r
theorem RepF.put {Z : Addr → Prop} {H : Hp} {f : Str} {v : V} {d : D} (h : Rep Z H v d) : ∀ {fs : List (Str × V)} {ds : List (Str × D)}, RepF Z H fs ds → RepF Z H (putF f v fs) (putD f d ds)
  | _, _, .nil => .cons h .nil
  | (g, x) :: r, (_, y) :: q, .cons hx hr => by
    unfold putF putD
    by_cases e : g = f
    · rw [if_pos e, if_pos e]; exact .cons h hr
    · rw [if_neg e, if_neg e]; exact .cons hx (hr.put h)
theorem RepF.len {Z : Addr → Prop} {H : Hp} : ∀ {fs : List (Str × V)} {ds : List (Str × D)}, RepF Z H fs ds → fs.length = ds.length
  | _, _, .nil => rfl
  | _, _, .cons _ r => by simp [r.len]
end
end Du
namespace Du
open PySem L2
/-! isinstance -/
def tyD : D → Option String
  | .non => some "NoneType"
  | .bl _ => some "bool"
  | .int _ => some "int"
  | .str _ => some "str"
  | .lst _ => some "list"
  | .tup _ => some "tuple"
  | .dT _ => none
  | .dK _ => some "dict"
  | .dN _ _ => none
  | .ins _ _ => none
  | .err _ _ => none
  | .ptr _ => none
  | .ty _ => none
end Du
namespace Du
open PySem L2
/-! a class's own operators and static methods, as it stands among the names -/
section
variable (P : Program) (w : World) (K : PySem.W.Frag) (mg : Str → Option Value) (base : Heap) (k : Nat) (C : Addr)
structure OBin (op : Operator) (sp : Sp) : Prop where
  ex : ∃ g, PySem.W.selfFirst K C = true ∧ PySem.W.findIn K (.ref C) (PySem.dunder op.info.2) = some (some (.ref g)) ∧ PySem.W.isFn K (.ref g) = true ∧ FnR P w K mg base CX0 k g sp
structure OIp (op : Operator) (sp : Sp) : Prop where
  ex : ∃ g, noneUp K C (dunderI op.info.2) = true ∧ PySem.W.selfFirst K C = true ∧ PySem.W.findIn K (.ref C) (PySem.dunder op.info.2) = some (some (.ref g)) ∧ PySem.W.isFn K (.ref g) = true ∧ FnR P w K mg base CX0 k g sp
structure OInv (sp : Sp) : Prop where
  ex : ∃ g, PySem.W.findIn K (.ref C) "__invert__" = some (some (.ref g)) ∧ PySem.W.isFn K (.ref g) = true ∧ FnR P w K mg base CX0 k g sp
structure OCmp (op : CmpOp) (sp : Sp) : Prop where
  ex : ∃ g, PySem.W.notFirst K C (.ref C) = true ∧ PySem.W.findIn K (.ref C) (cmpInfo op).2.1 = some (some (.ref g)) ∧ PySem.W.isFn K (.ref g) = true ∧ FnR P w K mg base CX0 k g sp
structure ONe (sp : Sp) : Prop where
  ex : ∃ g, PySem.W.notFirst K C (.ref C) = true ∧ PySem.W.findIn K (.ref C) "__ne__" = some (some (.builtin "object.__ne__")) ∧ PySem.W.findIn K (.ref C) "__eq__" = some (some (.ref g)) ∧ PySem.W.isFn K (.ref g) = true ∧ PySem.W.subIn K (.ref C) (.type "object") = some true ∧ FnR P w K mg base CX0 k g sp
structure OSm (m : Str) (sp : Sp) : Prop where
  ex : ∃ mc p g, ClX.CRead K C mc ∧ SMet K C mc m p g ∧ FnR P w K mg base CX0 k g sp
end
section
variable {X : Cx} {k j : Nat} {C : Addr} {sp : Sp} {o e : Expr} {es : List Expr} {m : Str} {pos apos : Pos} {ta : TE} {t : TA} {pl : Sem Bool}
def spNot (sp : Sp) : Sp := fun vs H Q E => sp vs H (fun v H' => ∃ b, v = .bl b ∧ Q (.bl (!b)) H') E
end
/-! in data -/
section
variable {C : Addr} {R : List D → D → Prop} {E : XK} {fs gs : List (Str × D)} {z : D} {b : Bool} {ρ : Rho}
end
end Du
namespace Du
open PySem L2
section
variable {ρ : Rho} {μ : Mu} {ta tb te : TE} {Φ : D → Mu → Prop} {N : Rho → Mu → Prop} {R : D → Mu → Prop} {ts us : TS}
/-! while -/
/-! two new lists at once -/
/-! a statement while a dict is locked -/
def tLkS (t : TS) : TS := fun E σ H => tLock t E σ H ∨ t E σ H
theorem Cont.monoW {Z : Addr → Prop} {H H' : Hp} {a : Addr} {d : D} (c : Cont Z H a d) (x : ExtW Z H H') (e : ∀ o, H a = some o → H' a = some o) : Cont Z H' a d := by
  cases c with
  | lst h r => exact .lst (e _ h) (r.monoW x)
  | ins h r => exact .ins (e _ h) (r.monoW x)
  | dK h r => exact .dK (e _ h) (r.monoW x)
  | dT h r => exact .dT (e _ h) (r.monoW x)
  | dN h r => exact .dN (e _ h) (r.monoW x)
  | tbl h t r => exact .tbl (e _ h) t fun p v hv => let ⟨c, e1, n, e2⟩ := r p v hv; ⟨c, e1, n, by
      obtain ⟨o', h1, h2⟩ := x c _ n e2
      rw [h1]
      unfold LamX.CodeO at h2 ⊢
      cases o' with
      | frz o u => cases u <;> cases h2
      | ext f => exact congrArg some h2
      | _ => cases h2⟩
theorem Mem.monoW {Z : Addr → Prop} {H H' : Hp} {μ : Mu} (m : Mem Z H μ) (x : ExtW Z H H') (e : ∀ a o, Z a → H a = some o → H' a = some o) : Mem Z H' μ := ⟨fun p hp => ⟨(m.cs p hp).1, (m.cs p hp).2.monoW x (e _ · (m.cs p hp).1)⟩, m.nd⟩
end
end Du
namespace Du
open PySem L2 PySem.Spec PyProof.Rows
/-! dict(xs), xs a list of pairs whose first parts are unlike tuples -/
def rDictPT (K : PySem.W.Frag) : List V → Hp → VK → Prop := fun xs H Q => ∃ (a : Addr) (ps : List Addr) (kvs : List (List Key × V)), xs = [.ref a] ∧ SqL K H a (ps.map V.ref) ∧
  Paired (fun p kv => ∃ b, SqT K H p [.ref b, kv.2] ∧ H b = some (.tup (kv.1.map kV))) ps kvs ∧ (kvs.map (·.1)).Nodup ∧ ∀ p, H p = none → Q (.ref p) (upd H p (.dT kvs))
section
variable {X : Cx}
end
end Du
namespace Du
open PySem L2 PySem.Spec PyProof.Rows
/-! == of dicts whose keys are objects -/
section
variable {prog : Program} {w : World} {κ : Type} [DecidableEq κ] {kd : HeapKind prog w κ} {A : Around} {E : Value → Shared → Prop} {s : Shared}
inductive HitsH (prog : Program) (w : World) (A : Around) (s : Shared) (yb : List (κ × Addr × Value)) : List (κ × Addr × Value) → Bool → Prop
  | nil : HitsH prog w A s yb [] true
  | miss {x : κ × Addr × Value} {r : List (κ × Addr × Value)} : atKey yb x.1 = none → HitsH prog w A s yb (x :: r) false
  | hit {x : κ × Addr × Value} {p : Addr × Value} {r : List (κ × Addr × Value)} {e b : Bool} : atKey yb x.1 = some p → SeqAt.EqP prog w A s x.2.2 p.2 e → HitsH prog w A s yb r b → HitsH prog w A s yb (x :: r) (e && b)
end
section
variable {X : Cx}
/-- d == e of dicts with tuple keys, their values plain -/
def rEqT (K : PySem.W.Frag) : R2 := fun x y H Q => ∃ (a b : Addr) (ks ls : List (List Key × V)) (f g : List Key → PyData), x = .ref a ∧ y = .ref b ∧ Rd H a (.dT ks) ∧ Rd H b (.dT ls) ∧
  (∀ p ∈ ks, Dp K H p.2 (f p.1) ∧ SeqAt.shaped (f p.1) = true) ∧ (∀ p ∈ ls, Dp K H p.2 (g p.1) ∧ SeqAt.shaped (g p.1) = true) ∧
  Q (.bl (ks.length == ls.length && ks.all fun p => ls.any (fun q => decide (q.1 = p.1)) && PyData.eqv (f p.1) (g p.1))) H
end
section
variable {K : PySem.W.Frag} {ρ : Rho}
/-! in data -/
theorem RepT.pl {Z : Addr → Prop} {H : Hp} {f : List Key → D} : ∀ {kvs : List (List Key × V)} {ds : List (List Key × D)}, RepT Z H kvs ds → (∀ p ∈ ds, p.2 = f p.1 ∧ okE (f p.1)) → ∀ p ∈ kvs, Dp K H p.2 (toP (f p.1)) ∧ SeqAt.shaped (toP (f p.1)) = true
  | _, _, .nil, _, p, hp => nomatch hp
  | _, _, .cons (k := k) (v := v) (d := d) r t, hf, p, hp => by
    rcases List.mem_cons.mp hp with rfl | hp
    · have := hf _ List.mem_cons_self
      dsimp only at this ⊢
      rw [← this.1]
      have h2 : okE d := this.1 ▸ this.2
      exact ⟨dp_of r h2.1, h2.sh⟩
    · exact RepT.pl t (fun q hq => hf q (List.mem_cons_of_mem _ hq)) p hp
def eqT (ds es : List (List Key × D)) : Bool := ds.length == es.length && ds.all fun p => match valD es p.1 with | some z => eqD p.2 z | none => false
end
end Du
namespace Du
open PySem L2 PySem.Spec PyProof.Rows
/-! the type of a thing, a locked dict too -/
def TyY (K : PySem.W.Frag) (H : Hp) (y : V) (t : Value) : Prop := TyX K H y t ∨ ∃ (a : Addr) (o : Obj) (kvs : List (List Key × V)), y = .ref a ∧ t = .type "dict" ∧ H a = some (.frz o (.dT kvs))
section
variable {X : Cx} {pins : List (Addr × Obj)} {σ : L2.St} {H : Hp} {s : Shared}
end
def rIsiY (K : PySem.W.Frag) : List V → Hp → VK → Prop := fun xs H Q => ∃ (x c : V) (t u : Value) (b : Bool), xs = [x, c] ∧ ClsV c u ∧ TyY K H x t ∧ PySem.W.kitOne K t u = some b ∧ Q (.bl b) H
def rCmpY (K : PySem.W.Frag) (C : Addr) (sp : Sp) (E : XK) : R2 := fun x y H Q => ∃ a dx fs t, x = .ref a ∧ H a = some (.ins C dx fs) ∧ TyY K H y t ∧ PySem.W.notFirst K C t = true ∧ sp [x, y] H Q E
section
variable {X : Cx} {K : PySem.W.Frag} {CX : CXT} {n : Nat} {C g : Addr} {sp : Sp} {E : XK}
end
def tyE : D → Option String
  | .dT _ => some "dict"
  | .dK _ => some "dict"
  | d => tyD d
section
variable {K : PySem.W.Frag} {C : Addr} {R : List D → D → Prop} {E : XK} {fs : List (Str × D)} {e z : D} {t : String}
end
/-! own == with a thing of another type, as a rule among the names -/
section
variable {X : Cx} {K : PySem.W.Frag} {P : Program} {w : World} {mg : Str → Option Value} {base : Heap} {C : Addr} {k j : Nat} {sp : Sp}
end
/-! slices with an effect in the bound, fresh lists -/
section
variable {ρ : Rho} {μ : Mu} {ta tb te : TE} {Φ : D → Mu → Prop} {N : Rho → Mu → Prop} {R : D → Mu → Prop} {ts us : TS}
/-- a def that hands back a new list -/
def spNw (R : List D → List D → Prop) : Sp := fun vs H Q _ => ∃ (Z : Addr → Prop) (ds es : List D), okZ Z H ∧ Reps Z H vs ds ∧ R ds es ∧ ∀ a H' xs, H a = none → Ex H H' → H' a = some (.lst xs) → Reps Z H' xs es → Q (.ref a) H'
end
end Du
namespace Du
open PySem L2 PySem.Spec PyProof.Rows
section
variable {X : Cx} {K : PySem.W.Frag} {k : Nat}
def relab (sc sc0 : Scope) : Scope := relabel sc { scope := sc0, locals := 0, globals := 0, cells := [] }
end
end Du
namespace Du
open PySem L2 PySem.Spec PyProof.Rows
/-! dicts whose keys are texts or ints: list(d), d.update(e), dict(pairs); dict(zip(xs, ys)) -/
def rListDK : List V → Hp → VK → Prop := fun xs H Q => ∃ (a : Addr) (kvs : List (Key × V)), xs = [.ref a] ∧ Rd H a (.dK kvs) ∧ ∀ l, H l = none → Q (.ref l) (upd H l (.lst (kvs.map fun e => kV e.1)))
def rUpdK : V → List V → Hp → VK → Prop := fun x xs H Q => ∃ (a b : Addr) (kvs more : List (Key × V)), x = .ref a ∧ xs = [.ref b] ∧ a ≠ b ∧ H a = some (.dK kvs) ∧ Rd H b (.dK more) ∧ kvs.length + more.length ≤ 100000 ∧ Q .non (upd H a (.dK (mergeK kvs more)))
def rDictPK (K : PySem.W.Frag) : List V → Hp → VK → Prop := fun xs H Q => ∃ (a : Addr) (ps : List Addr) (kvs : List (Key × V)), xs = [.ref a] ∧ SqL K H a (ps.map V.ref) ∧ Paired (fun p kv => SqT K H p [kV kv.1, kv.2]) ps kvs ∧ ∀ p, H p = none → Q (.ref p) (upd H p (.dK (mergeK [] kvs)))
section
variable {X : Cx}
/-- dict(zip(xs, ys)), xs a list of unlike tuples -/
def tDZ (K : PySem.W.Frag) (ta : TA) : TE := fun σ H Q => ta σ H fun vs H1 => ∃ (a b : Addr) (ps : List Addr) (kvs : List (List Key × V)), vs = [.ref a, .ref b] ∧ SqL K H1 a (ps.map V.ref) ∧ SqL K H1 b (kvs.map (·.2)) ∧
  Paired (fun p kv => H1 p = some (.tup (kv.1.map kV))) ps kvs ∧ (kvs.map (·.1)).Nodup ∧ ∀ p, H1 p = none → Q (.ref p) (upd H1 p (.dT kvs))
end
/-! in data -/
section
variable {K : PySem.W.Frag} {ρ : Rho}
theorem RepK.keys {Z : Addr → Prop} {H : Hp} : ∀ {kvs : List (Key × V)} {ds : List (Key × D)}, RepK Z H kvs ds → kvs.map (·.1) = ds.map (·.1)
  | _, _, .nil => rfl
  | _, _, .cons _ t => by simp [RepK.keys t]
theorem RepK.len {Z : Addr → Prop} {H : Hp} {kvs : List (Key × V)} {ds : List (Key × D)} (r : RepK Z H kvs ds) : kvs.length = ds.length := by
  have := congrArg List.length r.keys; simpa using this
theorem RepK.app {Z : Addr → Prop} {H : Hp} : ∀ {a b : List (Key × V)} {c d : List (Key × D)}, RepK Z H a c → RepK Z H b d → RepK Z H (a ++ b) (c ++ d)
  | _, _, _, _, .nil, s => s
  | _, _, _, _, .cons r t, s => .cons r (RepK.app t s)
def putKD (kvs : List (Key × D)) (k : Key) (v : D) : List (Key × D) :=
  if (kvs.any fun kv => decide (kv.1 = k)) = true then kvs.map (fun kv => if kv.1 = k then (kv.1, v) else kv) else kvs ++ [(k, v)]
def mergeD (kvs more : List (Key × D)) : List (Key × D) := more.foldl (fun acc kv => putKD acc kv.1 kv.2) kvs
theorem RepK.repl {Z : Addr → Prop} {H : Hp} {k : Key} {v : V} {d : D} (h : Rep Z H v d) : ∀ {kvs : List (Key × V)} {ds : List (Key × D)}, RepK Z H kvs ds → RepK Z H (kvs.map fun kv => if kv.1 = k then (kv.1, v) else kv) (ds.map fun kv => if kv.1 = k then (kv.1, d) else kv)
  | _, _, .nil => .nil
  | _, _, .cons (k := k') r t => by
    rw [List.map_cons, List.map_cons]
    by_cases e : k' = k
    · rw [if_pos e, if_pos e]; exact .cons h (RepK.repl h t)
    · rw [if_neg e, if_neg e]; exact .cons r (RepK.repl h t)
theorem RepK.put {Z : Addr → Prop} {H : Hp} {k : Key} {v : V} {d : D} {kvs : List (Key × V)} {ds : List (Key × D)} (r : RepK Z H kvs ds) (h : Rep Z H v d) : RepK Z H (putK kvs k v) (putKD ds k d) := by
  have e : (kvs.any fun kv => decide (kv.1 = k)) = ds.any fun kv => decide (kv.1 = k) := by
    have := congrArg (fun l => l.any fun z => decide (z = k)) r.keys
    simp only [List.any_map, Function.comp_def] at this
    exact this
  unfold putK putKD
  rw [e]
  split
  · exact r.repl h
  · exact r.app (.cons h .nil)
end
/-! owned dicts with text keys -/
section
variable {ρ : Rho} {μ : Mu} {ta tb te : TE} {Φ : D → Mu → Prop} {N : Rho → Mu → Prop} {R : D → Mu → Prop} {ts us : TS}
theorem Mem.dKs {Z : Addr → Prop} {H : Hp} {μ : Mu} (m : Mem Z H μ) {k : Nat} {a : Addr} {ds : List (Key × D)} (h : μ[k]? = some (a, .dK ds)) : Z a ∧ ∃ fs, H a = some (.dK fs) ∧ RepK Z H fs ds := by
  obtain ⟨z, c⟩ := m.get h
  cases c with
  | dK h r => exact ⟨z, _, h, r⟩
end
end Du
namespace Du
open PySem L2
/-! dicts whose keys are tuples of tuples, in data -/
abbrev hN (w : World) : NestedKey → Int := fun k => k.hash w
mutual
theorem nkV_of {Z : Addr → Prop} {H : Hp} : ∀ (k : NestedKey) {v : V}, Rep Z H v (nkD k) → NkV H k v
  | .none, _, r => by unfold nkD at r; cases r; exact .non
  | .num i, _, r => by unfold nkD at r; cases r; exact .int i
  | .text s, _, r => by unfold nkD at r; cases r; exact .str s
  | .tup ks, _, r => by
    unfold nkD at r
    cases r with
    | tup n h rs => exact .tup h (nkVs_of ks rs)
theorem nkVs_of {Z : Addr → Prop} {H : Hp} : ∀ (ks : List NestedKey) {vs : List V}, Reps Z H vs (nkDs ks) → NkVs H ks vs
  | [], _, r => by unfold nkDs at r; cases r; exact .nil
  | k :: ks, _, r => by
    unfold nkDs at r
    cases r with
    | cons r rs => exact .cons (nkV_of k r) (nkVs_of ks rs)
end
theorem RepN.val {Z : Addr → Prop} {H : Hp} {k : NestedKey} : ∀ {es : NEs} {ds : List (NestedKey × D)}, RepN Z H es ds → (∀ {d : D}, valD ds k = some d → ∃ v, nval es k = some v ∧ Rep Z H v d) ∧ (valD ds k = none → nval es k = none)
  | _, _, .nil => ⟨fun h => by simp [valD] at h, fun _ => rfl⟩
  | _, _, .cons (k := k') (v := v) (d := d') hk hd r t => by
    obtain ⟨h1, h2⟩ := RepN.val (k := k) t
    by_cases e : k' = k
    · refine ⟨fun {d} h => ?_, fun h => ?_⟩
      · have : d' = d := by simpa [valD, e] using h
        subst this
        exact ⟨v, by simp [nval, e], r⟩
      · simp [valD, e] at h
    · refine ⟨fun {d} h => ?_, fun h => ?_⟩
      · obtain ⟨w, h3, h4⟩ := h1 (d := d) (by simpa [valD, e] using h)
        exact ⟨w, by simpa [nval, e] using h3, h4⟩
      · have := h2 (by simpa [valD, e] using h)
        simpa [nval, e] using this
theorem RepN.isSome {Z : Addr → Prop} {H : Hp} {es : NEs} {ds : List (NestedKey × D)} (r : RepN Z H es ds) (k : NestedKey) : (nval es k).isSome = (valD ds k).isSome := by
  obtain ⟨h1, h2⟩ := r.val (k := k)
  cases h : valD ds k with
  | none => rw [h2 h]; rfl
  | some d => obtain ⟨v, e, _⟩ := h1 h; rw [e]; rfl
theorem RepN.len {Z : Addr → Prop} {H : Hp} : ∀ {es : NEs} {ds : List (NestedKey × D)}, RepN Z H es ds → es.length = ds.length
  | _, _, .nil => rfl
  | _, _, .cons _ _ _ t => by simp [RepN.len t]
theorem RepN.any {Z : Addr → Prop} {H : Hp} {k : NestedKey} : ∀ {es : NEs} {ds : List (NestedKey × D)}, RepN Z H es ds → (es.any fun e => decide (e.1 = k)) = ds.any fun e => decide (e.1 = k)
  | _, _, .nil => rfl
  | _, _, .cons _ _ _ t => by rw [List.any_cons, List.any_cons, RepN.any t]
def putG {κ : Type} [DecidableEq κ] (kvs : List (κ × D)) (k : κ) (v : D) : List (κ × D) :=
  if (kvs.any fun kv => decide (kv.1 = k)) = true then kvs.map (fun kv => if kv.1 = k then (kv.1, v) else kv) else kvs ++ [(k, v)]
theorem RepN.repl {Z : Addr → Prop} {H : Hp} {k : NestedKey} {v : V} {d : D} (h : Rep Z H v d) : ∀ {es : NEs} {ds : List (NestedKey × D)}, RepN Z H es ds → RepN Z H (es.map fun e => if e.1 = k then (e.1, e.2.1, v) else e) (ds.map fun kv => if kv.1 = k then (kv.1, d) else kv)
  | _, _, .nil => .nil
  | _, _, .cons (k := k') hk hd r t => by
    rw [List.map_cons, List.map_cons]
    by_cases e : k' = k
    · rw [if_pos e, if_pos e]; exact .cons hk hd h (RepN.repl h t)
    · rw [if_neg e, if_neg e]; exact .cons hk hd r (RepN.repl h t)
theorem RepN.app {Z : Addr → Prop} {H : Hp} : ∀ {a b : NEs} {c d : List (NestedKey × D)}, RepN Z H a c → RepN Z H b d → RepN Z H (a ++ b) (c ++ d)
  | _, _, _, _, .nil, s => s
  | _, _, _, _, .cons hk hd r t, s => .cons hk hd r (RepN.app t s)
theorem RepN.put {Z : Addr → Prop} {H : Hp} {k : NestedKey} {b : Addr} {v : V} {d : D} {es : NEs} {ds : List (NestedKey × D)} (r : RepN Z H es ds) (hk : Rep Z H (.ref b) (nkD k)) (hd : k.depth ≤ 8) (h : Rep Z H v d) : RepN Z H (nput es k b v) (putG ds k d) := by
  unfold nput putG
  rw [r.any]
  split
  · exact r.repl h
  · exact r.app (.cons hk hd h .nil)
theorem RepT.repl {Z : Addr → Prop} {H : Hp} {k : List Key} {v : V} {d : D} (h : Rep Z H v d) : ∀ {es : List (List Key × V)} {ds : List (List Key × D)}, RepT Z H es ds → RepT Z H (es.map fun e => if e.1 = k then (e.1, v) else e) (ds.map fun kv => if kv.1 = k then (kv.1, d) else kv)
  | _, _, .nil => .nil
  | _, _, .cons (k := k') r t => by
    rw [List.map_cons, List.map_cons]
    by_cases e : k' = k
    · rw [if_pos e, if_pos e]; exact .cons h (RepT.repl h t)
    · rw [if_neg e, if_neg e]; exact .cons r (RepT.repl h t)
theorem RepT.put {Z : Addr → Prop} {H : Hp} {k : List Key} {v : V} {d : D} {es : List (List Key × V)} {ds : List (List Key × D)} (r : RepT Z H es ds) (h : Rep Z H v d) : RepT Z H (putK es k v) (putG ds k d) := by
  have e : (es.any fun kv => decide (kv.1 = k)) = ds.any fun kv => decide (kv.1 = k) := by
    have := congrArg (fun l => l.any fun z => decide (z = k)) r.keys
    simp only [List.any_map, Function.comp_def] at this
    exact this
  unfold putK putG
  rw [e]
  split
  · exact r.repl h
  · exact r.app (.cons h .nil)
section
variable {ρ : Rho} {μ : Mu} {w : World} {ta tb te td ty tv : TE} {Φ : D → Mu → Prop} {N : Rho → Mu → Prop} {R : D → Mu → Prop} {ts us : TS} {kvs : List (NestedKey × D)} {k : NestedKey} {ks : List NestedKey} {z c c1 c2 : D}
/-! new things, owned -/
def EvF (te : TE) (ρ : Rho) (c : D) : Prop := ∀ (Z : Addr → Prop) (σ : L2.St) (H : Hp) (Q : VK), okZ Z H → SRep Z H σ ρ → (∀ a H1 o, Ex H H1 → H1 a = none → isTup o = false → Cont (fun b => Z b ∨ b = a) (upd H1 a o) a c → Q (.ref a) (upd H1 a o)) → te σ H Q
theorem ef_lst {ta : TA} {ds : List D} (h : EvA ta ρ ds) (hz : ds.length ≤ 100000) : EvF (tLst ta) ρ (.lst ds) := fun Z σ H Q k s q =>
  h Z σ H _ k s fun vs H1 x1 r1 => ⟨Nat.le_trans (by rw [r1.len]; exact hz) (by decide), fun p hp => q p H1 _ x1 hp rfl (.lst upd_same ((r1.zs fun b z => z.imp id fun (e : b = p) => by rw [e]; exact hp).mono (Ext.new hp)))⟩
theorem gs_ownF {i : Nat} (h : EvF te ρ c) (hs : ∀ a, ¬ dom μ a → GS us (ρ.set i (some (.ptr a))) ((a, c) :: μ) (fun ρ' μ' => ∃ μ'', DropA a μ' μ'' ∧ N ρ' μ'') (fun d μ' => ∃ μ'', DropA a μ' μ'' ∧ R d μ'')) : GS (tSeq (tAsg te (gName i)) us) ρ μ N R := fun Z σ H E k s m n r =>
  h Z σ H _ k s fun a H1 o x1 ha ho hc => by
    have k1 := k.ex x1
    have m1 := m.ex x1
    have nz : ¬ Z a := k1.no ha
    have hz : ∀ b, (Z b ∨ b = a) → Z b ∨ H1 b = none := fun b z => z.imp id fun (e : b = a) => by rw [e]; exact ha
    refine hs a (fun h => nz (m1.dz h)) (fun b => Z b ∨ b = a) _ _ E (k1.add ho) ((((s.mono (x1.to (Z := Z))).zs hz).mono (Ext.new ha)).set i (.ptr a)) (m1.ownC ha hc) (fun σ' H' ρ' μ' Z' q z s' => ?_) fun v H' d μ' Z' q z r' => ?_
    · obtain ⟨μ'', hd, q⟩ := q
      exact n σ' H' ρ' μ'' _ q (((Nxt.exs m x1).nz k).tr (Nz.own ha nz m1 z hd)) (s'.zs fun b h => .inl h.1)
    · obtain ⟨μ'', hd, q⟩ := q
      exact r v H' d μ'' _ q (((Nxt.exs m x1).nz k).tr (Nz.own ha nz m1 z hd)) (r'.zs fun b h => .inl h.1)
def isTab : D → Bool
  | .str _ => true
  | _ => false
theorem Cont.rep {Z Z' : Addr → Prop} {H : Hp} {a : Addr} {c : D} (h : Cont Z H a c) (ht : isTab c = false) (na : ¬ Z' a) (hz : ∀ b, Z' b → Z b) : Rep Z' H (.ref a) c := by
  cases h with
  | lst h r => exact .lst na h (r.zs fun b z => .inl (hz b z))
  | ins h r => exact .ins na h (r.zs fun b z => .inl (hz b z))
  | dK h r => exact .dK na (.inl h) (r.zs fun b z => .inl (hz b z))
  | dT h r => exact .dT na (.inl h) (r.zs fun b z => .inl (hz b z))
  | dN h r => exact .dN na h (r.zs fun b z => .inl (hz b z))
  | tbl h t r => cases ht
end
end Du
namespace Du
open PySem L2 PySem.Spec PyProof.Rows
section
variable {P : Program} {w : World} {A : Around} {E : Value → Shared → Prop} {s : Shared} {a : Addr} {L : List Str}
end
section
variable {X : Cx} {K : PySem.W.Frag} {w : World}
def rSetTxtT (K : PySem.W.Frag) (w : World) : List V → Hp → VK → Prop := fun xs H Q => ∃ (a : Addr) (ys : List Str), xs = [V.ref a] ∧ SqT K H a (ys.map V.str) ∧ ys.length + 1 < scanBound ∧ ∀ p, H p = none → Q (.ref p) (upd H p (TxtO w p (addAll [] ys)))
/-- set(xs), a list or a tuple -/
def rSetTxtU (K : PySem.W.Frag) (w : World) : List V → Hp → VK → Prop := fun xs H Q => rSetTxt K w xs H Q ∨ rSetTxtT K w xs H Q
def rLenTxt (w : World) : List V → Hp → VK → Prop := fun vs H Q => ∃ (a : Addr) (L : List Str), vs = [V.ref a] ∧ H a = some (TxtO w a L) ∧ Q (.int (L.length : Nat)) H
end
end Du
namespace Du
open PySem L2 PySem.Spec PyProof.Rows
/-! enumerate(t), t a tuple -/
abbrev tupIt (t : Addr) : Obj := { cls := .type "tuple_iterator", data := .fields #[.ref t, .int 0 0] }
abbrev enmOb (it : Addr) : Obj := { cls := .type "enumerate", data := .fields #[.none, .bool false, .ref it, rawInt 0, .none, .none] }
theorem meets_enumT (t : Addr) (items : Array Value) (m : Nat) (dct : Option Addr) (sl : Array (Option Value)) :
    Meets (Builtin.«enumerate.__new__» ⟨[.type "enumerate", .ref t], []⟩) (fun _ R s => s.heap.get? t = some { cls := .type "tuple", dict := dct, data := .seq items m, slots := sl } ∧
      R (.ok (.ret (.ref (s.heap.push (tupIt t)).objs.size))) { s with heap := (s.heap.push (tupIt t)).push (enmOb s.heap.objs.size) }) :=
  .of_wp fun prog w A R s hh => by
    obtain ⟨hp, g, d, tk, os⟩ := s
    obtain ⟨hl, h⟩ := hh
    have hsub := sub_enumerate
    have hL : Heap.IsTuple (Shared.heap ⟨hp, g, d, tk, os⟩) t items := ⟨_, hl, rfl, m, rfl⟩
    wp_walk
    refine wpAny_stack_any fun st => wpAny_pure ?_
    split
    · rename_i c _ _ _ _ _
      cases (c == Value.type "enumerate")
      · wp_walk using wpAny_pyIter_tuple hL
        exact ⟨_, rfl, h⟩
      · wp_walk using wpAny_pyIter_tuple hL
        exact ⟨_, rfl, h⟩
    · wp_walk using wpAny_pyIter_tuple hL
      exact ⟨_, rfl, h⟩
section
variable {prog : Program} {w : World} {A : Around} {E : Value → Shared → Prop} {s : Shared}
theorem call_enumT {t : Addr} {items : Array Value} {Q : Value → Shared → Prop} (hL : s.heap.IsTuple t items)
    (h : ∀ h', IsEnum h' (s.heap.objs.size + 1) s.heap.objs.size 0 .none → h'.IsTupleIter s.heap.objs.size t 0 → h'.objs.size = s.heap.objs.size + 2 → (∀ b o, s.heap.get? b = some o → h'.get? b = some o) → Q (.ref (s.heap.objs.size + 1)) { s with heap := h' }) :
    wpAny (model prog w) A (call (.type "enumerate") [.ref t]) Q E s := by
  obtain ⟨⟨c, dct, dt, sl⟩, hl, hc, m, hd⟩ := hL
  replace hc : c = .type "tuple" := hc
  replace hd : dt = .seq items m := hd
  subst hc hd
  refine callType_new F.called_enumerate (by decide) (F.typeCall_enumerate_1 _) (F.newCall_enumerate_1 _) (fun obj => F.args_object_init_2 obj _) F.entry_enumerate_new (meets_enumT t items m dct sl) ⟨hl, ?_⟩
  have hz : (s.heap.push (tupIt t)).objs.size = s.heap.objs.size + 1 := Heap.size_push ..
  show _ ∧ _
  rw [hz]
  have he : IsEnum ((s.heap.push (tupIt t)).push (enmOb s.heap.objs.size)) (s.heap.objs.size + 1) s.heap.objs.size 0 .none := by
    have := Heap.get?_push_size (s.heap.push (tupIt t)) (o := enmOb s.heap.objs.size) rfl
    rw [hz] at this; exact this
  exact ⟨⟨_, he, rfl⟩, h _ he ⟨_, Heap.get?_push_of_some _ (Heap.get?_push_size _ rfl), rfl, rfl⟩ (by rw [Heap.size_push, hz]) fun b o x => Heap.get?_push_of_some _ (Heap.get?_push_of_some _ x)⟩
theorem enumT_end {e it l : Addr} {i : Nat} {items : Array Value} {old : Value} {Q : Option Value → Shared → Prop} (hh : A.handled = none) (he : IsEnum s.heap e it i old) (hit : s.heap.IsTupleIter it l i) (hl : s.heap.IsTuple l items) (hx : items[i]? = none)
    (hQ : ∀ h', Heap.ExtBut it s.heap h' → Q none { s with heap := h' }) : wpAny (model prog w) A (pyNext (.ref e)) Q E s := by
  have ty : s.TypeIs (.ref e) "enumerate" := ⟨_, he, rfl⟩
  unfold pyNext
  refine wpAny_bind (wpAny_attempt (wpAny_callSpecial?_slot (name := Str.ofString "__next__") ty F.slot_enumerate_next (wpAny_call_entry F.slot_enumerate_next ty F.entry_enumerate_next ?_ (F.args_enumerate_next_1 _))))
  show wpAny _ _ (field (.ref e) 2 >>= _) _ _ _
  refine wpAny_bind (wpAny_field he rfl (x := .ref it) rfl (wpAny_bind (wpAny_nextOf_tuple_end hh hit hl hx fun h' x he' hx' => ?_)))
  obtain ⟨o, ho, hc⟩ := hx'
  exact wpAny_bind (wpAny_isInstance (T := "StopIteration") (b := true) ⟨o, ho, hc⟩ isSubtype_stop (wpAny_pure (hQ _ he')))
end
/-- the tuple at a, each item in a new pair -/
def IteT (K : PySem.W.Frag) (a : Addr) : It :=
  ⟨fun i H => ∃ (xs : List V) (x : V), SqT K H a xs ∧ xs[i]? = some x, fun i H v H' => ∃ T x, v = .ref T ∧ H T = none ∧ H' = upd H T (.tup [.int (i : Nat), x]) ∧ ∀ xs, SqT K H a xs → xs[i]? = some x, fun i H => ∃ xs : List V, SqT K H a xs ∧ xs.length ≤ i⟩
theorem turn_enumT {P : Program} {w : World} {K : PySem.W.Frag} {elts : List Expr} {kk : Nat} {tpos : Pos} (a e it : Addr) :
    Turn P w K (.Tuple elts kk tpos) (IteT K a) [e, it] e (fun i h => (∃ old, IsEnum h e it ((i : Nat) : Int) old) ∧ h.IsTupleIter it a i ∧ e ≠ it ∧ a ≠ it ∧ e ≠ a) where
  mem := by simp
  obj := fun i h st b hb => by
    obtain ⟨⟨old, he⟩, ⟨o, ho, hc, hd⟩, _⟩ := st
    have e' : b = e ∨ b = it := by simpa using hb
    rcases e' with z | z
    · rw [z]; exact ⟨_, he, fun v q => nomatch q⟩
    · rw [z]; exact ⟨o, ho, fun v q => by rw [hd] at q; cases q⟩
  keep := fun i h h' st k => let ⟨⟨old, he⟩, hi, hne⟩ := st; ⟨⟨old, k e (by simp) _ he⟩, hi.at fun o q => k it (by simp) o q, hne⟩
  item := by
    intro X hP hw hK hc i pins s σ H E I hf st hg
    subst hP hw hK
    obtain ⟨⟨old, he⟩, hit, hne, hai, hea⟩ := st
    obtain ⟨xs, x, hq, hx⟩ := hg
    obtain ⟨its, rv, p, hz⟩ := I.tuple hq
    obtain ⟨u, hu, ru⟩ := rv.get hx
    have hel : e < s.heap.objs.size := Heap.lt_size he
    have hil : it < s.heap.objs.size := by obtain ⟨_, q, _⟩ := hit; exact Heap.lt_size q
    have hlt : i < its.toArray.size := by
      have := (List.getElem?_eq_some_iff.mp hu).1
      simpa using this
    refine wpAny_pyNext_enum_itemC (Draws.tuple (A := X.A.in1) (I.ok.hd hc) it a hai its.toArray) he ⟨hit, p⟩ hlt hne (by simp [hne, hea]) fun y h' tk hy ho hst hT hsz hk => ?_
    have ey : y = u := by
      have : its[i]? = some y := by simpa using hy
      rw [hu] at this; exact (Option.some.inj this).symm
    subst ey
    refine ⟨_, rfl, wpAny_letOwnedTupleGo_enum (s := { s with heap := h', toks := tk + 1 }) ho fun h'' he' sb => ?_⟩
    have hT2 : h''.get? s.heap.objs.size = some { cls := .type "tuple", data := .seq #[.int i tk, y] } := (sb.2 _ (Nat.ne_of_gt hel)).trans hT
    have new : ObjOk X.prog X.w (upd H s.heap.objs.size (.tup [.int (i : Nat), x])) h'' s.heap.objs.size (.tup [.int (i : Nat), x]) :=
      ⟨by show 2 ≤ sizeLine; decide, [.int i tk, y], .cons ⟨_, rfl⟩ (.cons ru .nil), ⟨_, hT2, rfl, _, rfl⟩⟩
    have I1 : Inv X pins σ (upd H s.heap.objs.size (.tup [.int (i : Nat), x])) { s with heap := h'', toks := tk + 1 } :=
      I.turnedNew (ch := [e, it]) (fun b ob hb q => (sb.2 b (fun z => hb (by simp [z]))).trans (hk b ob (fun z => hb (by simp [z])) (fun z => hb (by simp [z])) q)) hf (Nat.le_refl _) new
    refine ⟨.ref s.heap.objs.size, _, I1, rfl, ⟨_, x, rfl, I.hok.fresh (Nat.le_refl _), rfl, fun ys hy => by rw [I.tuple_inj hy hq]; exact hx⟩, ⟨⟨y, ?_⟩, hst.1.at fun o q => (sb.2 it (Ne.symm hne)).trans q, hne, hai, hea⟩, fun b hb => ?_⟩
    · have e1 : ((i + 1 : Nat) : Int) = (i : Int) + 1 := by omega
      rw [e1]; exact he'
    · have hb' : b < s.heap.objs.size := by
        have e' : b = e ∨ b = it := by simpa using hb
        rcases e' with z | z
        · rw [z]; exact hel
        · rw [z]; exact hil
      rw [upd_ne (Nat.ne_of_lt hb')]
      exact (hf b hb).1
  done := by
    intro X hP hw hK hc i pins s σ H E I hf st hg
    subst hP hw hK
    obtain ⟨⟨old, he⟩, hit, hne, hai, hea⟩ := st
    obtain ⟨xs, hq, hx⟩ := hg
    obtain ⟨its, rv, p, hz⟩ := I.tuple hq
    obtain ⟨f0, f1, f2, f3, f4, f5⟩ := hf it (by simp)
    have hl := rv.length
    refine enumT_end (I.ok.hd hc) he hit p (by simp; omega) fun h' eb => ⟨rfl, I.turned (t' := s.toks) (fun b o hb q => eb b o hb q) f0 f1 f3 f4 f5⟩
  self := fun A i s Q E st h => let ⟨⟨_, he⟩, _⟩ := st; wpAny_pyIter_enum he h
def iEnumA (K : PySem.W.Frag) (ta : TA) : TI := fun σ H R => ta σ H fun vs H1 => ∃ a xs, vs = [.ref a] ∧ ((SqL K H1 a xs ∧ R (Ite K a) H1) ∨ (SqT K H1 a xs ∧ R (IteT K a) H1))
theorem pi_enumA {X : Cx} {K : PySem.W.Frag} {e : Expr} {ta : TA} {p pos tpos : Pos} {elts : List Expr} {kk : Nat} (hK : X.K = K) (hg : Gl X "enumerate") (hm : X.mg "enumerate" = none) (ha : PA X [e] ta) (hs : starEach [e] X.env = [(false, eval e X.env)] := by rfl) :
    PI X (.Tuple elts kk tpos) (.Call (.Name "enumerate" p) [e] [] pos) (iEnumA K ta) := by
  subst hK
  refine ⟨fun pins s σ H R I h => ?_⟩
  refine Call_ (ld_blt I hg hm boot_enumerate (PyProof.Rows.callWith_type1 (thn (ha.run pos pins s σ H _ I h) fun us s1 z => ?_) hs rfl))
  obtain ⟨vs, H1, I1, r1, q1⟩ := z
  obtain ⟨a, xs, ex, q⟩ := q1
  subst ex
  cases r1 with
  | cons r rr =>
    cases rr
    cases r
    have fp : ∀ b, b ∈ [s1.heap.objs.size + 1, s1.heap.objs.size] → FpOk X pins H1 b := fun b hb => by
      have e' : b = s1.heap.objs.size + 1 ∨ b = s1.heap.objs.size := by simpa using hb
      have hle : s1.heap.objs.size ≤ b := by
        rcases e' with z | z
        · rw [z]; exact Nat.le_add_right _ _
        · rw [z]; exact Nat.le_refl _
      exact I1.fpOk hle (I1.hok.fresh hle)
    rcases q with ⟨hq, q⟩ | ⟨hq, q⟩
    · obtain ⟨its, rv, p', hz⟩ := I1.list hq
      refine call_enumerate_list p'.isList fun h' he hit hsz hk => wpAny_pyIter_enum he ?_
      have I2 : Inv X pins σ H1 { s1 with heap := h' } := I1.kept (t' := s1.toks) hk
      exact ⟨s1.heap.objs.size + 1, [s1.heap.objs.size + 1, s1.heap.objs.size], _, _, H1, rfl, I2, turn_enum a (s1.heap.objs.size + 1) s1.heap.objs.size, ⟨⟨.none, he⟩, hit, Nat.succ_ne_self _⟩, fp, q⟩
    · obtain ⟨its, rv, p', hz⟩ := I1.tuple hq
      refine call_enumT p' fun h' he hit hsz hk => wpAny_pyIter_enum he ?_
      have I2 : Inv X pins σ H1 { s1 with heap := h' } := I1.kept (t' := s1.toks) hk
      have la : @LT.lt Nat _ a s1.heap.objs.size := by obtain ⟨o, ho, _⟩ := p'; exact Heap.lt_size ho
      exact ⟨s1.heap.objs.size + 1, [s1.heap.objs.size + 1, s1.heap.objs.size], _, _, H1, rfl, I2, turn_enumT a (s1.heap.objs.size + 1) s1.heap.objs.size, ⟨⟨.none, he⟩, hit, Nat.succ_ne_self _, Nat.ne_of_lt la, Nat.ne_of_gt (Nat.lt_succ_of_lt la)⟩, fp, q⟩
section
variable {ρ : Rho} {ds : List D}
theorem ei_enumL {K : PySem.W.Frag} {ta : TA} (h : EvA ta ρ [.lst ds]) : EvI (iEnumA K ta) ρ (ds.zipIdx.map fun p => D.tup [.int p.2, p.1]) := fun Z σ H R k s q =>
  h Z σ H _ k s fun vs H1 x1 r1 => by
    cases r1 with
    | cons r r1 =>
      cases r1
      cases r with
      | lst n h1 rs =>
        refine ⟨_, _, rfl, .inl ⟨.inl (.inl h1), q _ H1 x1 fun Z' hz => ?_⟩⟩
        have nz : ¬ Z' _ := fun z => (hz _ z).elim n fun e => by rw [h1] at e; cases e
        rw [List.length_map, List.length_zipIdx, ← rs.len]
        refine walk_enum.mono (fun H g => .inl (.inl (g.1.exact nz h1))) fun i Hc x H' hi g y => ?_
        obtain ⟨T, a, b, rfl, hT, rfl, e1, e2⟩ := y
        cases e1
        obtain ⟨d, e3, e4⟩ := (rs.zs hz).getV e2
        refine ⟨Ex.new hT, .tup [.int i, d], ?_, .tup (g.2.no hT) upd_same (.cons (.int _) (.cons (e4.mono (g.1.tr (Ext.new hT))) .nil))⟩
        rw [List.getElem?_map, List.getElem?_zipIdx, e3]
        simp
end
end Du
namespace Du
open PySem L2
section
variable {ρ : Rho} {μ : Mu} {w : World} {ta tb te td ty tv : TE} {Φ : D → Mu → Prop} {N : Rho → Mu → Prop} {R : D → Mu → Prop} {ts us : TS} {d z c : D} {ds es : List D}
/-! extend -/
theorem ge_extend {K : PySem.W.Frag} {ta : TA} (h : GE te ρ μ fun d μ1 => ∃ (a : Addr) (k : Nat) (x : List D), d = .ptr a ∧ μ1[k]? = some (a, .lst x) ∧ GEA ta ρ μ1 fun es μ2 => ∃ (ds zs : List D), es = [.lst zs] ∧ μ2[k]? = some (a, .lst ds) ∧ ds.length + zs.length ≤ 100000 ∧ Φ .non (μ2.set k (a, .lst (ds ++ zs)))) : GE (tBM K "list" rExtend te ta) ρ μ Φ := fun Z σ H Q k s m c =>
  h Z σ H _ k s m fun x H1 d μ1 g n1 r1 => by
    obtain ⟨a, k0, x0, rfl, hk0, g⟩ := g
    obtain ⟨za, ws, hv, rs⟩ := n1.mem.lst hk0
    cases r1
    refine ⟨.inl ⟨rfl, ws, .inl (.inl hv)⟩, g Z σ H1 _ (n1.ok k) (s.mono (n1.to m)) n1.mem fun xs H2 es μ2 q n2 r2 => ?_⟩
    obtain ⟨ds, zs, rfl, hk, hz, q⟩ := q
    cases r2 with
    | cons r2 r3 =>
      cases r3
      obtain ⟨_, vs2, hv2, rs2⟩ := n2.mem.lst hk
      cases r2 with
      | lst nb hb rb =>
        exact ⟨a, _, vs2, _, rfl, rfl, hv2, hb, Nat.le_trans (by rw [rs2.len, rb.len]; exact hz) (by decide), c _ _ _ _ q ((n1.tr n2).tr (.put n2.mem hk (rs2.app rb))) .non⟩
/-! zip of tuples -/
/-! things that are owned from now on, in rows of assignments -/
def Grow (Zb : Addr → Prop) (Hb : Hp) (μb : Mu) (Z : Addr → Prop) (H : Hp) (μ : Mu) (D : Mu → Mu → Prop) : Prop := ∀ (Z' : Addr → Prop) (H' : Hp) (μ' μ'' : Mu), Nz Z H μ Z' H' μ' → D μ' μ'' → ∃ Z'' : Addr → Prop, (∀ b, Z'' b → Z' b) ∧ Nz Zb Hb μb Z'' H' μ''
def GO (te : TE) (ρ : Rho) (μ : Mu) (D0 : Mu → Mu → Prop) (Φ : D → Mu → (Mu → Mu → Prop) → Prop) : Prop := ∀ (Zb : Addr → Prop) (Hb : Hp) (μb : Mu) (Z : Addr → Prop) (σ : L2.St) (H : Hp) (Q : VK), Grow Zb Hb μb Z H μ D0 → okZ Z H → SRep Z H σ ρ → Mem Z H μ →
  (∀ v Z1 H1 d μ1 D1, Φ d μ1 D1 → Grow Zb Hb μb Z1 H1 μ1 D1 → (∀ v d, Rep Z H v d → Rep Z1 H1 v d) → okZ Z1 H1 → Mem Z1 H1 μ1 → Rep Z1 H1 v d → Q v H1) → te σ H Q
def GOA (ta : TA) (ρ : Rho) (μ : Mu) (D0 : Mu → Mu → Prop) (Φ : List D → Mu → (Mu → Mu → Prop) → Prop) : Prop := ∀ (Zb : Addr → Prop) (Hb : Hp) (μb : Mu) (Z : Addr → Prop) (σ : L2.St) (H : Hp) (Q : List V → Hp → Prop), Grow Zb Hb μb Z H μ D0 → okZ Z H → SRep Z H σ ρ → Mem Z H μ →
  (∀ vs Z1 H1 ds μ1 D1, Φ ds μ1 D1 → Grow Zb Hb μb Z1 H1 μ1 D1 → (∀ v d, Rep Z H v d → Rep Z1 H1 v d) → okZ Z1 H1 → Mem Z1 H1 μ1 → Reps Z1 H1 vs ds → Q vs H1) → ta σ H Q
variable {D0 : Mu → Mu → Prop} {Φo : D → Mu → (Mu → Mu → Prop) → Prop} {Φl : List D → Mu → (Mu → Mu → Prop) → Prop}
theorem SRep.byRep {Z Z1 : Addr → Prop} {H H1 : Hp} {σ : L2.St} (s : SRep Z H σ ρ) (h : ∀ v d, Rep Z H v d → Rep Z1 H1 v d) : SRep Z1 H1 σ ρ := ⟨s.1, fun i d hi => let ⟨v, e, r⟩ := s.2 i d hi; ⟨v, e, h v d r⟩⟩
theorem Reps.byRep {Z Z1 : Addr → Prop} {H H1 : Hp} (h : ∀ v d, Rep Z H v d → Rep Z1 H1 v d) : ∀ {vs : List V} {ds : List D}, Reps Z H vs ds → Reps Z1 H1 vs ds
  | _, _, .nil => .nil
  | _, _, .cons r rs => .cons (h _ _ r) (rs.byRep h)
theorem Grow.ex {Zb Z : Addr → Prop} {Hb H H1 : Hp} {μb : Mu} (g : Grow Zb Hb μb Z H μ D0) (k : okZ Z H) (m : Mem Z H μ) (x : Ex H H1) : Grow Zb Hb μb Z H1 μ D0 := fun Z' H' μ' μ'' z d => g Z' H' μ' μ'' (((Nxt.exs m x).nz k).tr z) d
end
end Du
namespace Du
open PySem L2 PySem.Spec PyProof.Rows
/-! repr of plain data, where nothing is being shown -/
def rRepr (K : PySem.W.Frag) : List V → Hp → VK → Prop := fun vs H Q => ∃ (a : Addr) (d : PyData), vs = [.ref a] ∧ Dp K H (.ref a) d ∧ d.showable = true ∧ d.hasDict = false ∧ d.depth ≤ 20 ∧ d.shown.length ≤ sizeLine ∧ Q (.str d.shown) H
mutual
/-- texts alone, in lists and tuples -/
def tx : D → Bool
  | .str s => PyData.strOk s
  | .lst xs => txs xs
  | .tup xs => txs xs
  | _ => false
def txs : List D → Bool
  | [] => true
  | x :: xs => tx x && txs xs
end
mutual
theorem show_of : ∀ d : D, tx d = true → (toP d).showable = true ∧ (toP d).hasDict = false ∧ pl d = true ∧ (toP d).intsShort 8 = true
  | .str s, h => ⟨by simp [toP, PyData.showable], by simp [toP, PyData.hasDict], by simpa [pl, tx] using h, by simp [toP, PyData.intsShort]⟩
  | .lst xs, h => by simp only [toP, PyData.showable, PyData.hasDict, pl, PyData.intsShort]; exact shows_of xs (by simpa [tx] using h)
  | .tup xs, h => by simp only [toP, PyData.showable, PyData.hasDict, pl, PyData.intsShort]; exact shows_of xs (by simpa [tx] using h)
  | .non, h => by simp [tx] at h
  | .bl _, h => by simp [tx] at h
  | .int _, h => by simp [tx] at h
  | .dT _, h => by simp [tx] at h
  | .dK _, h => by simp [tx] at h
  | .dN _ _, h => by simp [tx] at h
  | .ins _ _, h => by simp [tx] at h
  | .err _ _, h => by simp [tx] at h
  | .ptr _, h => by simp [tx] at h
  | .ty _, h => by simp [tx] at h
theorem shows_of : ∀ xs : List D, txs xs = true → PyData.showableAll (toPs xs) = true ∧ PyData.hasDictAll (toPs xs) = false ∧ pls xs = true ∧ PyData.intsShortAll 8 (toPs xs) = true
  | [], _ => by simp [toPs, PyData.showableAll, PyData.hasDictAll, pls, PyData.intsShortAll]
  | x :: xs, h => by
    have h' : tx x = true ∧ txs xs = true := by simpa [txs] using h
    have := show_of x h'.1
    have := shows_of xs h'.2
    simp_all [toPs, PyData.showableAll, PyData.hasDictAll, pls, PyData.intsShortAll]
end
theorem rd_neS {s t : Str} : R2D rNe (.str s) (.str t) (.bl (!decide (s = t))) := fun Z H x y Q k r1 r2 q => by
  cases r1; cases r2
  refine ⟨rfl, ?_⟩
  have e : decide (V.str s = V.str t) = decide (s = t) := by simp
  rw [e]
  exact q _ H (Ex.rf H) (.bl _)
/-! a law's def at the call from outside, where nothing is being shown -/
structure FnG (P : Program) (w : World) (K : PySem.W.Frag) (mg : Str → Option Value) (base : Heap) (k : Nat) (f : Addr) (fd : FuncData) (ps : List Str) (sp : Sp) : Prop where
  run : ∀ (s : Shared) (H : Hp) (args : Args) (us : List Value) (vs : List V) (Q : VK) (E : XK), Room k callerA → Env0 P w K mg base callerA [] s H → BindsTo s fd args (ps.zip us) → Vals vs us → sp vs H Q E →
    codeAny (model P w) callerA (.call (.ref f) args) (CR CX0 [] P w H s Q E) s
section
variable {P : Program} {w : World} {K : PySem.W.Frag} {mg : Str → Option Value} {base : Heap}
theorem Fun.okG {x qual : Str} {st : Stmt} {f : Addr} {fd : FuncData} {N ps : List Str} {k : Nat} {sp : Sp} (F : Fun K x qual st f fd) (S : FnScope N ps (defScope st)) (len : ∀ vs H Q E, sp vs H Q E → vs.length = ps.length)
    (hbody : ∀ (cdv : Value) (s : Shared) (H : Hp) (vs : List V) (Q : VK) (E : XK), Room k (callerA.deeper (envOfC qual (defScope st) s.heap.objs.size f cdv)) → sp vs H Q E →
      ∃ t, PSs (cxOf CX0 P w K mg base N qual (defScope st) f cdv callerA [] s H E).nox (defBody st) t ∧ t { nx := fun _ H' => Q .non H', rt := Q } (start N vs) H) : FnG P w K mg base (k + 1) f fd ps sp := by
  obtain ⟨oc, od, kV, doc, pm, an, cdv, ct, osl, rfl, lk, hcd⟩ := F.ex
  refine ⟨fun s H args us vs Q E hr e0 hb r hsp => ?_⟩
  have hl := len _ _ _ _ hsp
  have KX : K.In s.heap := e0.mod.kin.keeps fun b o e => (e0.bs b o e).1
  have lim : s.heap.NoLimit := e0.mod.nolimit.keeps fun b o e => (e0.bs b o e).1
  have hkind : ∀ y ∈ ps.zip us, (defScope st).names.lookup y.1 = some .local ∨ ((defScope st).names.lookup y.1 = some .cell ∧ ((cellsFrom (s.heap.objs.size + 1) (defScope st).names []).lookup y.1).isSome = true) := fun ⟨n, v⟩ hy => by
    rcases S.par n (List.of_mem_zip hy).1 with q | q
    · exact .inl q
    · exact .inr ⟨q, PySem.W.cellsFrom_some _ _ _ (.inl q)⟩
  refine codeAny_call_function hr.depth (KX _ _ lk) rfl S.co S.gen rfl (PySem.W.codeRec_of KX hcd) (hb _ _ _ _ ?_)
  refine wpAny_newFunctionEnv_cells S.kind hkind fun env he s1 x => ?_
  subst he
  refine ⟨lim.keeps x.toInCall.keep, codeAny_func ?_⟩
  obtain ⟨t, ht, hq⟩ := hbody cdv s H vs Q E (hr.deeper _) hsp
  have I : Inv (cxOf CX0 P w K mg base N qual (defScope st) f cdv callerA [] s H E) [] (start N vs) H s1 := inv_start S hr.hd e0 hl r x
  refine wpAny_mono (ht.nox.run [] s1 (start N vs) H _ I hq) (fun fl s' hs => ?_) fun e s' hs => hs
  have fin : ∀ {σ' : L2.St} {H' : Hp} {v : V} {u : Value}, Inv (cxOf CX0 P w K mg base N qual (defScope st) f cdv callerA [] s H E) [] σ' H' s' → RelV v u → Q v H' → CE [] P w H s Q u s' :=
    fun {σ' H' v u} J rv q => ⟨v, H', J.os, J.bare, J.base, J.hok, rv, q⟩
  cases fl with
  | ret u =>
    obtain ⟨v, σ', H', J, rv, q⟩ := hs
    exact fin J rv q
  | next =>
    obtain ⟨σ', H', J, q⟩ := hs
    exact fin (v := V.non) (u := Value.none) J rfl q
  | brk => obtain ⟨_, _, _, q⟩ := hs; exact False.elim q
  | cont => obtain ⟨_, _, _, q⟩ := hs; exact False.elim q
theorem law_callG {mb : Str → Option Value} {k : Nat} {fa a : Addr} {fd : FuncData} {x : Str} {sp : Sp} {s₁ : Shared} {vs : List Value} {ns : List Int}
    (KX : K.In s₁.heap) (hns : s₁.heap.Ns mainGlobals mg) (hb : s₁.heap.Ns builtinsNs mb) (hbb : ∀ x : Str, x ≠ "__name__" → mb x = bootBuiltins x) (hlim : s₁.heap.NoLimit) (hg : s₁.gens = #[])
    (ha : s₁.heap.get? a = some { cls := .type "list", data := .seq vs.toArray }) (hi : IntsAre vs ns) (hl : ns.length ≤ sizeLine) (hr : Room k callerA)
    (F : ∀ base : Heap, K.In base → base.Ns mainGlobals mg → FnG P w K mg base k fa fd [x] sp) (hbind : ∀ (s : Shared) (u : Value), BindsTo s fd ⟨[u], []⟩ [(x, u)])
    (hsp : ∀ H : Hp, SqL K H a (ns.map V.int) → sp [.ref a] H (fun v _ => v = .bl true) fun _ _ _ => False) :
    codeAny (model P w) callerA (.call (.ref fa) ⟨[.ref a], []⟩) (fun r s' => r = .ok (.ret (.bool true)) ∧ OldK s₁.heap s'.heap ∧ s'.os = s₁.os ∧ AllBare s'.gens) s₁ := by
  have rv := vals_ints hi
  have lenV := hi.length
  have core : ∀ H : Hp, Only H → SqL K H a (ns.map V.int) → HOk P w H s₁.heap → (∀ b, H b ≠ none → b = a) → (H a ≠ none → K.lookup a = none) →
      codeAny (model P w) callerA (.call (.ref fa) ⟨[.ref a], []⟩) (fun r s' => r = .ok (.ret (.bool true)) ∧ OldK s₁.heap s'.heap ∧ s'.os = s₁.os ∧ AllBare s'.gens) s₁ := by
    intro H hO hS hok hA hK
    have out : ∀ {b : Addr} {o : Obj}, s₁.heap.get? b = some o → (b = a → H b = none) → (hidT s₁.heap H).get? b = some o := fun {b o} e n => hidT_get e (by
      cases q : H b with
      | none => rfl
      | some u => have := n (hA b (by rw [q]; simp)); rw [q] at this; cases this)
    have nsK : ∀ {b : Addr} {m : Str → Option Value}, s₁.heap.Ns b m → (hidT s₁.heap H).Ns b m := fun {b m} ⟨o, es, ep, e, d, r⟩ => ⟨o, es, ep, out e (fun z => by
      subst z; rw [ha] at e; cases e
      have d' : Data.seq vs.toArray _ = Data.dict es ep := d
      cases d'), d, r⟩
    have hKb : K.In (hidT s₁.heap H) := fun b o e => out (KX b o e) fun z => by
      subst z
      cases q : H b with
      | none => rfl
      | some u => rw [hK (by rw [q]; simp)] at e; cases e
    have hM : Mod K mg (hidT s₁.heap H) := ⟨hKb, nsK hns, ⟨mb, nsK hb, hbb⟩, let ⟨mc, h1, h2⟩ := hlim; ⟨mc, nsK h1, h2⟩⟩
    have e0 : Env0 P w K mg (hidT s₁.heap H) callerA [] s₁ H := ⟨rfl, hM, fun b o e => of_hidT e, Nat.le_of_eq (hidT_size _ _), trivial, fun b hb => absurd (show b ∈ ([] : List Addr) from hb) (by simp), hok, .of_eq hg⟩
    refine codeAny_mono ((F _ hKb (nsK hns)).run s₁ H ⟨[.ref a], []⟩ [.ref a] [.ref a] _ _ hr e0 (hbind s₁ (.ref a)) (.cons rfl .nil) (hsp H hS)) fun r s' h => ?_
    cases r with
    | error e => exact False.elim h
    | ok fl =>
      cases fl with
      | next => exact False.elim h
      | brk => exact False.elim h
      | cont => exact False.elim h
      | ret u =>
        obtain ⟨v, H', os, bare, un, hok', r', q⟩ := h
        have q' : v = .bl true := q
        subst q'
        obtain rfl : u = Value.bool true := r'
        refine ⟨rfl, OldK.of_keep fun b o e => ?_, os, bare⟩
        cases q : H b with
        | none => exact un.keep b o e q (by intro z; exact absurd (show b ∈ ([] : List Addr) from z) (by simp)) (by simp)
        | some u =>
          rcases hO b with z | ⟨ob, xs, z⟩
          · rw [q] at z; cases z
          · have z2 := un.frzs b ob _ z
            obtain ⟨e1, _⟩ := hok b _ z
            obtain ⟨e2, _⟩ := hok' b _ z2
            rw [e] at e1; cases e1
            exact e2
  cases hk : K.lookup a with
  | some o =>
    have e := KX a o hk
    rw [ha] at e
    cases e
    exact core (fun _ => none) (fun _ => .inl rfl) (.inr ⟨_, vs.toArray, _, hk, rfl, rfl, rfl, by rw [List.size_toArray, lenV]; exact hl, by simpa using rv⟩) (fun b u z => by have z' : (none : Option HO) = some u := z; cases z') (fun b z => absurd rfl z) fun z => absurd rfl z
  | none =>
    refine core (fun b => if b = a then some (.frz { cls := .type "list", data := .seq vs.toArray } (.lst (ns.map V.int))) else none) (fun b => ?_) (.inl (.inr ⟨{ cls := .type "list", data := .seq vs.toArray }, if_pos rfl⟩)) (fun b u z => ?_) (fun b z => ?_) fun _ => hk
    · by_cases hb : b = a
      · exact .inr ⟨_, _, if_pos hb⟩
      · exact .inl (if_neg hb)
    · by_cases hb : b = a
      · have z' := (if_pos hb).symm.trans z
        cases z'
        subst hb
        exact ⟨ha, by rw [List.length_map]; exact hl, vs, _, rv, ha⟩
      · have z' := (if_neg hb).symm.trans z
        cases z'
    · by_cases hb : b = a
      · exact hb
      · exact absurd (if_neg hb) z
end
end Du
namespace Du
open PySem L2
end Du
namespace Du
open PySem L2
section
variable {ρ : Rho} {te td ty tk tv : TE} {tt : TT}
theorem RepK.val {Z : Addr → Prop} {H : Hp} {k : Key} : ∀ {kvs : List (Key × V)} {ds : List (Key × D)}, RepK Z H kvs ds → ∀ {d : D}, valD ds k = some d → ∃ v, valV kvs k = some v ∧ Rep Z H v d
  | _, _, .nil, d, h => by simp [valD] at h
  | _, _, .cons (k := k') (v := v) (d := d') r t, d, h => by
    by_cases e : k' = k
    · have : d' = d := by simpa [valD, e] using h
      subst this
      exact ⟨v, by simp [valV, e], r⟩
    · obtain ⟨w, h1, h2⟩ := RepK.val (d := d) (k := k) t (by simpa [valD, e] using h)
      exact ⟨w, by simpa [valV, e] using h1, h2⟩
/-! a dict comprehension whose keys are unlike texts -/
/-! an owned instance, read as data for a while -/
mutual
def noIns : D → Bool
  | .ins _ _ => false
  | .err _ _ => false
  | .lst xs => noInss xs
  | .tup xs => noInss xs
  | .dT kvs => noInsT kvs
  | .dK kvs => noInsK kvs
  | .dN _ _ => false
  | _ => true
def noInss : List D → Bool
  | [] => true
  | x :: xs => noIns x && noInss xs
def noInsT : List (List Key × D) → Bool
  | [] => true
  | (_, x) :: xs => noIns x && noInsT xs
def noInsK : List (Key × D) → Bool
  | [] => true
  | (_, x) :: xs => noIns x && noInsK xs
end
mutual
theorem Rep.back {Z : Addr → Prop} {H : Hp} {a C dx : Addr} {fs : List (Str × V)} (ha : H a = some (.ins C dx fs)) : ∀ {v : V} {d : D}, Rep (fun b => Z b ∧ b ≠ a) H v d → noIns d = true → Rep Z H v d
  | _, _, .non, _ => .non
  | _, _, .bl b, _ => .bl b
  | _, _, .int i, _ => .int i
  | _, _, .str s, _ => .str s
  | _, _, .lst n h r, q => .lst (fun z => n ⟨z, fun e => by rw [e, ha] at h; cases h⟩) h (Reps.back ha r (by simpa [noIns] using q))
  | _, _, .tup n h r, q => .tup (fun z => n ⟨z, fun e => by rw [e, ha] at h; cases h⟩) h (Reps.back ha r (by simpa [noIns] using q))
  | _, _, .dT n h r, q => .dT (fun z => n ⟨z, fun e => by rcases h with h | ⟨o, h⟩ <;> (rw [e, ha] at h; cases h)⟩) h (RepT.back ha r (by simpa [noIns] using q))
  | _, _, .dK n h r, q => .dK (fun z => n ⟨z, fun e => by rcases h with h | ⟨o, h⟩ <;> (rw [e, ha] at h; cases h)⟩) h (RepK.back ha r (by simpa [noIns] using q))
  | _, _, .dN n h r, q => by simp [noIns] at q
  | _, _, .ins n h r, q => by simp [noIns] at q
  | _, _, .err n h m g r, q => by simp [noIns] at q
  | _, _, .err0 n h, q => by simp [noIns] at q
  | _, _, .ptr b, _ => .ptr b
  | _, _, .ty n, _ => .ty n
theorem Reps.back {Z : Addr → Prop} {H : Hp} {a C dx : Addr} {fs : List (Str × V)} (ha : H a = some (.ins C dx fs)) : ∀ {v : List V} {d : List D}, Reps (fun b => Z b ∧ b ≠ a) H v d → noInss d = true → Reps Z H v d
  | _, _, .nil, _ => .nil
  | _, _, .cons r t, q => by
    rw [noInss, Bool.and_eq_true] at q
    exact .cons (Rep.back ha r q.1) (Reps.back ha t q.2)
theorem RepT.back {Z : Addr → Prop} {H : Hp} {a C dx : Addr} {fs : List (Str × V)} (ha : H a = some (.ins C dx fs)) : ∀ {v : List (List Key × V)} {d : List (List Key × D)}, RepT (fun b => Z b ∧ b ≠ a) H v d → noInsT d = true → RepT Z H v d
  | _, _, .nil, _ => .nil
  | _, _, .cons r t, q => by
    rw [noInsT, Bool.and_eq_true] at q
    exact .cons (Rep.back ha r q.1) (RepT.back ha t q.2)
theorem RepK.back {Z : Addr → Prop} {H : Hp} {a C dx : Addr} {fs : List (Str × V)} (ha : H a = some (.ins C dx fs)) : ∀ {v : List (Key × V)} {d : List (Key × D)}, RepK (fun b => Z b ∧ b ≠ a) H v d → noInsK d = true → RepK Z H v d
  | _, _, .nil, _ => .nil
  | _, _, .cons r t, q => by
    rw [noInsK, Bool.and_eq_true] at q
    exact .cons (Rep.back ha r q.1) (RepK.back ha t q.2)
end
end
end Du
namespace Du
open PySem L2 PySem.Spec PyProof.Rows
/-! == of dicts, entry by entry: what each key's look-up finds, and how its values compare -/
section
variable {prog : Program} {w : World} {A : Around} {E : Value → Shared → Prop} {s : Shared}
inductive HitsI (prog : Program) (w : World) (A : Around) (s : Shared) (b : Addr) (e2 : Array DictEntry) : List DictEntry → Bool → Prop
  | nil : HitsI prog w A s b e2 [] true
  | miss {x : DictEntry} {r : List DictEntry} : (∀ (E : Value → Shared → Prop) (Q : Option Nat → Shared → Prop), Q none s → wpAny (model prog w) A (dictFind b x.key x.hash) Q E s) → HitsI prog w A s b e2 (x :: r) false
  | hit {x y : DictEntry} {j : Nat} {r : List DictEntry} {e c : Bool} : (∀ (E : Value → Shared → Prop) (Q : Option Nat → Shared → Prop), Q (some j) s → wpAny (model prog w) A (dictFind b x.key x.hash) Q E s) → e2[j]? = some y → SeqAt.EqP prog w A s x.val y.val e → HitsI prog w A s b e2 r c → HitsI prog w A s b e2 (x :: r) (e && c)
end
end Du
namespace Du
open PySem L2 PySem.Spec PyProof.Rows
/-! == of dicts by texts whose values are plain, or dicts with tuple keys -/
def eqTr (ks ls : List (List Key × V)) (f g : List Key → PyData) : Bool := ks.length == ls.length && ks.all fun p => ls.any (fun q => decide (q.1 = p.1)) && PyData.eqv (f p.1) (g p.1)
inductive EqV (K : PySem.W.Frag) (H : Hp) : V → V → Bool → Prop
  | plain {x y : V} {d e : PyData} : Dp K H x d → Dp K H y e → SeqAt.shaped d = true → SeqAt.shaped e = true → EqV K H x y (PyData.eqv d e)
  | dT {a b : Addr} {ks ls : List (List Key × V)} {f g : List Key → PyData} : Rd H a (.dT ks) → Rd H b (.dT ls) → (∀ p ∈ ks, Dp K H p.2 (f p.1) ∧ SeqAt.shaped (f p.1) = true) → (∀ p ∈ ls, Dp K H p.2 (g p.1) ∧ SeqAt.shaped (g p.1) = true) → EqV K H (.ref a) (.ref b) (eqTr ks ls f g)
section
variable {X : Cx} {pins : List (Addr × Obj)} {σ : L2.St} {H : Hp} {s : Shared} {A : Around}
/-- d == e, their keys texts or numbers -/
def rEqKV (K : PySem.W.Frag) : R2 := fun x y H Q => ∃ (a b : Addr) (ks ls : List (Key × V)) (rr : Key → Bool), x = .ref a ∧ y = .ref b ∧ Rd H a (.dK ks) ∧ Rd H b (.dK ls) ∧ (∀ p ∈ ks, ∀ z, valV ls p.1 = some z → EqV K H p.2 z (rr p.1)) ∧
  Q (.bl (ks.length == ls.length && ks.all fun p => (valV ls p.1).isSome && rr p.1)) H
end
end Du
namespace Du
open PySem L2 PySem.Spec PyProof.Rows
/-! == of dicts whose keys are tuples of tuples, their values plain -/
section
variable {X : Cx}
def rEqN (K : PySem.W.Frag) (w : World) : R2 := fun x y H Q => ∃ (a b : Addr) (es fs : NEs) (f g : NestedKey → PyData), x = .ref a ∧ y = .ref b ∧ (∃ ob, H a = some (NDO (hN w) a es ob)) ∧ (∃ ob, H b = some (NDO (hN w) b fs ob)) ∧ NKeys H es ∧ NKeys H fs ∧
  (∀ p ∈ es, Dp K H p.2.2 (f p.1) ∧ SeqAt.shaped (f p.1) = true) ∧ (∀ p ∈ fs, Dp K H p.2.2 (g p.1) ∧ SeqAt.shaped (g p.1) = true) ∧
  Q (.bl (es.length == fs.length && es.all fun p => (nval fs p.1).isSome && PyData.eqv (f p.1) (g p.1))) H
end
/-! in data -/
theorem RepN.pl {K : PySem.W.Frag} {Z : Addr → Prop} {H : Hp} {f : NestedKey → D} : ∀ {es : NEs} {ds : List (NestedKey × D)}, RepN Z H es ds → (∀ p ∈ ds, p.2 = f p.1 ∧ okE (f p.1)) → ∀ p ∈ es, Dp K H p.2.2 (toP (f p.1)) ∧ SeqAt.shaped (toP (f p.1)) = true
  | _, _, .nil, _, p, hp => nomatch hp
  | _, _, .cons (k := k) (v := v) (d := d) hk hd r t, hf, p, hp => by
    rcases List.mem_cons.mp hp with rfl | hp
    · have := hf _ List.mem_cons_self
      dsimp only at this ⊢
      rw [← this.1]
      have h2 : okE d := this.1 ▸ this.2
      exact ⟨dp_of r h2.1, h2.sh⟩
    · exact RepN.pl t (fun q hq => hf q (List.mem_cons_of_mem _ hq)) p hp
end Du
namespace Du
open PySem L2
/-! the empty tuple of the written part: a default value -/
def KT0 (K : PySem.W.Frag) (p : Addr) : Prop := ∃ (o : Obj) (n : Nat), K.lookup p = some o ∧ o.cls = .type "tuple" ∧ o.data = .seq #[] n
/-- things one behind another: a list, a tuple, or that empty tuple -/
def sqP (K : PySem.W.Frag) (e : D) (ds : List D) : Prop := e = .lst ds ∨ e = .tup ds ∨ ∃ p, e = .ptr p ∧ KT0 K p ∧ ds = []
section
variable {K : PySem.W.Frag} {ρ : Rho} {μ : Mu} {te ta tb : TE} {d e z : D} {ds : List D} {Φ : D → Mu → Prop} {N : Rho → Mu → Prop} {R : D → Mu → Prop}
/-! slices -/
/-! a def with defaults -/
theorem FunD.ok0 {P : Program} {w : World} {mg : Str → Option Value} {base : Heap} {x qual : Str} {st : Stmt} {dvs : List V} {kws : List (Str × V)} {f : Addr} {fd : FuncData} {N ps : List Str} {k : Nat} {sp : Sp} (F : FunD K x qual (defArgs st) (defBody st) (defScope st) dvs kws f fd) (S : FnScope N ps (defScope st)) (len : ∀ vs H Q E, sp vs H Q E → vs.length = ps.length)
    (hbody : ∀ (cdv : Value) (A : Around) (outer : List Env) (s : Shared) (H : Hp) (vs : List V) (Q : VK) (E : XK), Room k (A.deeper (PyProof.Rows.envOfC qual (defScope st) s.heap.objs.size f cdv)) → sp vs H Q E →
      ∃ t, PSs (cxOf CX0 P w K mg base N qual (defScope st) f cdv A outer s H E).nox (defBody st) t ∧ t { nx := fun _ H' => Q .non H', rt := Q } (start N vs) H) : FnOk P w K mg base CX0 (k + 1) f fd ps sp :=
  FunD.ok F S len fun cdv A outer s H vs Q E hr hsp => by
    obtain ⟨t, h, q⟩ := hbody cdv A outer s H vs Q E hr hsp
    exact ⟨t, h.nox, q⟩
end
end Du
namespace Du
open PySem L2
/-! unpacking a list or a tuple -/
def gTL (K : PySem.W.Frag) (n : Nat) (t : TGs) : TG := fun v σ H Q => gTup K n t v σ H Q ∨ gUnl K n t v σ H Q
section
variable {K : PySem.W.Frag} {ρ : Rho} {ds : List D}
end
end Du
namespace Du
open PySem L2 PySem.Spec PyProof.Rows
/-! d.items() where the keys are tuples -/
def Itit (d : Addr) (o : Obj) (kvs : List (List Key × V)) : It :=
  ⟨fun i H => H d = some (.frz o (.dT kvs)) ∧ i < kvs.length, fun i H x H' => ∃ (T : Addr) (k : List Key) (v : V) (q : Addr), kvs[i]? = some (k, v) ∧ x = .ref T ∧ H T = none ∧ H q = some (.tup (k.map kV)) ∧ H' = upd H T (.tup [.ref q, v]), fun i H => H d = some (.frz o (.dT kvs)) ∧ kvs.length ≤ i⟩
section
variable {X : Cx} {pins : List (Addr × Obj)} {σ : L2.St} {H : Hp} {s : Shared} {d : Addr} {o : Obj}
end
section
variable {P : Program} {w : World} {K : PySem.W.Frag} {d : Addr} {o : Obj} {es : Array DictEntry} {ep : Nat}
end
def iItT (td : TE) : TI := fun σ H R => td σ H fun x H1 => ∃ d o kvs, x = .ref d ∧ H1 d = some (.frz o (.dT kvs)) ∧ R (Itit d o kvs) H1
def iItA (td : TE) : TI := fun σ H R => iItems td σ H R ∨ iItT td σ H R
section
variable {X : Cx} {e : Expr} {td : TE} {apos cpos : Pos}
end
/-! what is read without a change, whatever is locked -/
def EvX (te : TE) (ρ : Rho) (d : D) : Prop := ∀ (Z : Addr → Prop) (σ : L2.St) (H : Hp), okZ Z H → SRep Z H σ ρ → ∃ v, Rep Z H v d ∧ ∀ (H' : Hp) (Q : VK), ExtW Z H H' → okZ Z H' → Q v H' → te σ H' Q
section
variable {K : PySem.W.Frag} {ρ : Rho} {μ : Mu} {te ta tb td ty : TE} {tt : TT} {d e z : D} {ds : List D} {ts : TS} {Φ : D → Mu → Prop} {N : Rho → Mu → Prop} {R : D → Mu → Prop}
theorem ExtW.rf {Z : Addr → Prop} (H : Hp) : ExtW Z H H := fun a o _ h => ⟨o, h, rfl⟩
theorem EvX.ev (h : EvX te ρ d) : Ev te ρ d := fun Z σ H Q k s q => by
  obtain ⟨v, r, f⟩ := h Z σ H k s
  exact f H Q (ExtW.rf H) k (q v H (Ex.rf H) r)
/-! a source that is a dict, locked while it is walked -/
def LkI (wi : TI) (ρ : Rho) (ds : List D) : Prop := ∀ (Z : Addr → Prop) (σ : L2.St) (H : Hp), okZ Z H → SRep Z H σ ρ → ∃ (d : Addr) (u : HO), ¬ Z d ∧ dictO u = true ∧ Mut (some u) ∧ Rd H d u ∧
  ∀ (Hl : Hp) (od : Obj) (Rr : It → Hp → Prop), ExtW Z H Hl → okZ Z Hl → Hl d = some (.frz od u) → (∀ J, DW Z J Hl ds → Rr J Hl) → wi σ Hl Rr
theorem RepT.getV {Z : Addr → Prop} {H : Hp} : ∀ {kvs : List (List Key × V)} {ds : List (List Key × D)} {i : Nat} {k : List Key} {v : V}, RepT Z H kvs ds → kvs[i]? = some (k, v) → ∃ d, ds[i]? = some (k, d) ∧ Rep Z H v d
  | _, _, _, _, _, .nil, e => by simp at e
  | _, _, 0, _, _, .cons r _, e => by simp at e; obtain ⟨rfl, rfl⟩ := e; exact ⟨_, rfl, r⟩
  | _, _, i + 1, k, v, .cons _ t, e => by
    obtain ⟨d, h1, h2⟩ := RepT.getV (i := i) (k := k) (v := v) t (by simpa using e)
    exact ⟨d, by simpa using h1, h2⟩
theorem RepK.getV {Z : Addr → Prop} {H : Hp} : ∀ {kvs : List (Key × V)} {ds : List (Key × D)} {i : Nat} {k : Key} {v : V}, RepK Z H kvs ds → kvs[i]? = some (k, v) → ∃ d, ds[i]? = some (k, d) ∧ Rep Z H v d
  | _, _, _, _, _, .nil, e => by simp at e
  | _, _, 0, _, _, .cons r _, e => by simp at e; obtain ⟨rfl, rfl⟩ := e; exact ⟨_, rfl, r⟩
  | _, _, i + 1, k, v, .cons _ t, e => by
    obtain ⟨d, h1, h2⟩ := RepK.getV (i := i) (k := k) (v := v) t (by simpa using e)
    exact ⟨d, by simpa using h1, h2⟩
end
end Du
namespace Du
open PySem L2 PySem.Spec PyProof.Rows
/-! != of dicts whose keys are tuples of tuples -/
section
variable {κ : Type} [DecidableEq κ] {prog : Program} {w : World} {kd : HeapKind prog w κ} {A : Around} {s : Shared}
end
section
variable {X : Cx}
def rNeN (K : PySem.W.Frag) (w : World) : R2 := fun x y H Q => rEqN K w x y H fun v H' => ∃ b, v = .bl b ∧ Q (.bl (!b)) H'
end
/-! a comprehension with two sources -/
section
variable {ρ : Rho} {te : TE} {tt tt1 : TT}
end
end Du
namespace Du
open PySem L2
section
variable {K : PySem.W.Frag} {ρ : Rho} {μ : Mu} {te ta : TE} {tt : TT} {ts : TS} {g : TG} {Φ : D → Mu → Prop} {N : Rho → Mu → Prop} {R : D → Mu → Prop}
end
end Du
namespace Du
open PySem L2
section
variable {ρ : Rho} {μ : Mu} {ts us : TS} {N : Rho → Mu → Prop} {R : D → Mu → Prop}
end
end Du
namespace Du
open PySem L2
/-! statements behind which more may be owned than before -/
structure Nw (Z : Addr → Prop) (H : Hp) (μ : Mu) (Z' : Addr → Prop) (H' : Hp) (μ' : Mu) : Prop where
  ext : Ext (dom μ) H H'
  nw : ∀ a, dom μ' a → dom μ a ∨ H a = none
  mem : Mem Z' H' μ'
  ok : okZ Z' H'
  ok0 : okZ Z H'
  zs : ∀ a, Z' a → Z a ∨ H a = none
  zk : ∀ a, Z a → Z' a ∨ (dom μ a ∧ ¬ dom μ' a)
theorem Nz.nw {Z Z' : Addr → Prop} {H H' : Hp} {μ μ' : Mu} (z : Nz Z H μ Z' H' μ') : Nw Z H μ Z' H' μ' := ⟨z.ext, fun a h => .inl (z.dm a h), z.mem, z.ok, z.ok0, fun a h => .inl (z.zs a h), z.zk⟩
theorem Nw.live {Z Z' : Addr → Prop} {H H' : Hp} {μ μ' : Mu} (z : Nw Z H μ Z' H' μ') (m : Mem Z H μ) {a : Addr} (h : H' a = none) : H a = none := by
  cases q : H a with
  | none => rfl
  | some o =>
    by_cases hd : dom μ a
    · obtain ⟨o', e, _⟩ := z.ok0 a (m.dz hd)
      rw [h] at e; cases e
    · have := z.ext a o hd q
      rw [h] at this; cases this
theorem Nw.tr {Z Z1 Z' : Addr → Prop} {H H1 H' : Hp} {μ μ1 μ' : Mu} (k : okZ Z H) (m : Mem Z H μ) (x : Nw Z H μ Z1 H1 μ1) (y : Nw Z1 H1 μ1 Z' H' μ') : Nw Z H μ Z' H' μ' := by
  have back : ∀ a, H1 a = none → H a = none := fun a h => x.live m h
  refine ⟨fun a o hn ho => y.ext a o (fun h => ?_) (x.ext a o hn ho), fun a h => ?_, y.mem, y.ok, fun a z => ?_, fun a h => ?_, fun a z => ?_⟩
  · rcases x.nw a h with h | h
    · exact hn h
    · rw [h] at ho; cases ho
  · rcases y.nw a h with h | h
    · exact x.nw a h
    · exact .inr (back a h)
  · rcases x.zk a z with h | ⟨h1, h2⟩
    · exact y.ok0 a h
    · obtain ⟨o, ho, hi⟩ := x.ok0 a z
      exact ⟨o, y.ext a o h2 ho, hi⟩
  · rcases y.zs a h with h | h
    · exact x.zs a h
    · exact .inr (back a h)
  · rcases x.zk a z with h | ⟨h1, h2⟩
    · rcases y.zk a h with h | ⟨h1, h2⟩
      · exact .inl h
      · rcases x.nw a h1 with h3 | h3
        · exact .inr ⟨h3, h2⟩
        · obtain ⟨o, ho, _⟩ := k a z
          rw [h3] at ho; cases ho
    · refine .inr ⟨h1, fun h => h2 ?_⟩
      rcases y.nw a h with h | h
      · exact h
      · obtain ⟨o, ho, _⟩ := x.ok0 a z
        rw [h] at ho; cases ho
theorem Nw.to {Z Z' : Addr → Prop} {H H' : Hp} {μ μ' : Mu} (n : Nw Z H μ Z' H' μ') (m : Mem Z H μ) : Ext Z H H' := n.ext.wk fun a h => m.dz h
theorem Nw.rep {Z Z' : Addr → Prop} {H H' : Hp} {μ μ' : Mu} (n : Nw Z H μ Z' H' μ') (m : Mem Z H μ) {v : V} {d : D} (r : Rep Z H v d) : Rep Z' H' v d :=
  ((r.zs (Z' := fun a => Z a ∨ Z' a) fun a h => h.elim .inl (n.zs a)).mono fun a o hn ho => n.ext a o (fun h => hn (.inl (m.dz h))) ho).zs fun a z => .inl (.inr z)
theorem Nw.reps {Z Z' : Addr → Prop} {H H' : Hp} {μ μ' : Mu} (n : Nw Z H μ Z' H' μ') (m : Mem Z H μ) {v : List V} {d : List D} (r : Reps Z H v d) : Reps Z' H' v d := r.byRep fun _ _ h => n.rep m h
theorem Nw.srep {Z Z' : Addr → Prop} {H H' : Hp} {μ μ' : Mu} {σ : L2.St} {ρ : Rho} (n : Nw Z H μ Z' H' μ') (m : Mem Z H μ) (s : SRep Z H σ ρ) : SRep Z' H' σ ρ := s.byRep fun _ _ h => n.rep m h
def GN (ts : TS) (ρ : Rho) (μ : Mu) (N : Rho → Mu → Prop) (R : D → Mu → Prop) : Prop := ∀ (Z : Addr → Prop) (σ : L2.St) (H : Hp) (E : Ends), okZ Z H → SRep Z H σ ρ → Mem Z H μ →
  (∀ σ' H' ρ' μ' Z', N ρ' μ' → Nw Z H μ Z' H' μ' → SRep Z' H' σ' ρ' → E.nx σ' H') → (∀ v H' d μ' Z', R d μ' → Nw Z H μ Z' H' μ' → Rep Z' H' v d → E.rt v H') → ts E σ H
section
variable {K : PySem.W.Frag} {ρ : Rho} {μ : Mu} {te ta : TE} {ts us : TS} {g : TG} {c : D} {Φ : D → Mu → Prop} {N N' : Rho → Mu → Prop} {R R' : D → Mu → Prop}
theorem gn_gs (h : GS ts ρ μ N R) : GN ts ρ μ N R := fun Z σ H E k s m n r => h Z σ H E k s m (fun σ' H' ρ' μ' Z' q z => n σ' H' ρ' μ' Z' q z.nw) fun v H' d μ' Z' q z => r v H' d μ' Z' q z.nw
theorem gn_seq (h : GN ts ρ μ (fun ρ' μ' => GN us ρ' μ' N R) R) : GN (tSeq ts us) ρ μ N R := fun Z σ H E k s m n r =>
  h Z σ H _ k s m (fun σ' H' ρ' μ' Z' f z s' => f Z' σ' H' E z.ok s' z.mem (fun σ2 H2 ρ2 μ2 Z2 q z2 s2 => n σ2 H2 ρ2 μ2 Z2 q (z.tr k m z2) s2) fun v H2 d μ2 Z2 q z2 r2 => r v H2 d μ2 Z2 q (z.tr k m z2) r2) r
/-- a statement of the older kind, then one of this kind -/
theorem gn_sq (h : GS ts ρ μ (fun ρ' μ' => GN us ρ' μ' N R) R) : GN (tSeq ts us) ρ μ N R := gn_seq (gn_gs h)
theorem GN.mono (h : GN ts ρ μ N R) (hn : ∀ ρ μ, N ρ μ → N' ρ μ) (hr : ∀ d μ, R d μ → R' d μ) : GN ts ρ μ N' R' := fun Z σ H E k s m n r => h Z σ H E k s m (fun σ' H' ρ' μ' Z' q => n σ' H' ρ' μ' Z' (hn _ _ q)) fun v H' d μ' Z' q => r v H' d μ' Z' (hr _ _ q)
theorem gn_if {t : TT} (h : GT t ρ μ fun b μ' => if b = true then GN ts ρ μ' N R else GN us ρ μ' N R) : GN (tIfS t ts us) ρ μ N R := fun Z σ H E k s m n r =>
  h Z σ H _ k s m fun b H1 μ1 f n1 => by
    have z1 := (n1.nz k).nw
    cases b with
    | true => exact iteT (f Z σ H1 E (n1.ok k) (s.mono (n1.to m)) n1.mem (fun σ2 H2 ρ2 μ2 Z2 q z2 s2 => n σ2 H2 ρ2 μ2 Z2 q (z1.tr k m z2) s2) fun v H2 d μ2 Z2 q z2 r2 => r v H2 d μ2 Z2 q (z1.tr k m z2) r2)
    | false => exact iteF (f Z σ H1 E (n1.ok k) (s.mono (n1.to m)) n1.mem (fun σ2 H2 ρ2 μ2 Z2 q z2 s2 => n σ2 H2 ρ2 μ2 Z2 q (z1.tr k m z2) s2) fun v H2 d μ2 Z2 q z2 r2 => r v H2 d μ2 Z2 q (z1.tr k m z2) r2)
theorem Nw.own {Z : Addr → Prop} {H1 : Hp} {a : Addr} {o : HO} (k1 : okZ Z H1) (m1 : Mem Z H1 μ) (ha : H1 a = none) (ho : isTup o = false) (hc : Cont (fun b => Z b ∨ b = a) (upd H1 a o) a c) : Nw Z H1 μ (fun b => Z b ∨ b = a) (upd H1 a o) ((a, c) :: μ) := by
  refine ⟨Ext.new ha, fun b h => ?_, m1.ownC ha hc, k1.add ho, k1.new ha, fun b h => h.imp id fun (e : b = a) => by rw [e]; exact ha, fun b h => .inl (.inl h)⟩
  rcases List.mem_cons.mp h with h | h
  · exact .inr (by rw [show b = a from h]; exact ha)
  · exact .inl h
/-- an owned thing is data from now on -/
theorem Nw.frz {Z : Addr → Prop} {H : Hp} {a : Addr} {μ1 μ2 : Mu} (k : okZ Z H) (m : Mem Z H (μ1 ++ (a, c) :: μ2)) (ht : isTab c = false := by rfl) : Nw Z H (μ1 ++ (a, c) :: μ2) (fun b => Z b ∧ b ≠ a) H (μ1 ++ μ2) ∧ Rep (fun b => Z b ∧ b ≠ a) H (.ref a) c := by
  have hmem : (a, c) ∈ μ1 ++ (a, c) :: μ2 := List.mem_append_right _ List.mem_cons_self
  have nd0 := m.nd
  rw [List.map_append, List.map_cons] at nd0
  have nd : ¬ dom (μ1 ++ μ2) a := fun hd => by
    unfold dom at hd
    rw [List.map_append, List.mem_append] at hd
    rcases hd with hd | hd
    · exact (List.nodup_append.mp nd0).2.2 a hd a List.mem_cons_self rfl
    · exact (List.nodup_cons.mp (List.nodup_append.mp nd0).2.1).1 hd
  obtain ⟨za, hc⟩ := m.cs _ hmem
  have sub : ∀ p ∈ μ1 ++ μ2, p ∈ μ1 ++ (a, c) :: μ2 := fun p hp => by
    rcases List.mem_append.mp hp with h | h
    · exact List.mem_append_left _ h
    · exact List.mem_append_right _ (List.mem_cons_of_mem _ h)
  have subd : ∀ b, dom (μ1 ++ μ2) b → dom (μ1 ++ (a, c) :: μ2) b := fun b hb => by
    obtain ⟨p, hp, rfl⟩ := List.mem_map.mp hb
    exact List.mem_map.mpr ⟨p, sub p hp, rfl⟩
  refine ⟨⟨Ext.rf H, fun b h => .inl (subd b h), ⟨fun p hp => ?_, ?_⟩, fun b h => k b h.1, k, fun b h => .inl h.1, fun b h => ?_⟩, hc.rep ht (fun h => h.2 rfl) fun b h => h.1⟩
  · obtain ⟨z1, c1⟩ := m.cs p (sub p hp)
    exact ⟨⟨z1, fun e => nd (e ▸ List.mem_map.mpr ⟨p, hp, rfl⟩)⟩, c1.zs fun b h => h.1⟩
  · rw [List.map_append]
    obtain ⟨q1, q2, q3⟩ := List.nodup_append.mp nd0
    exact List.nodup_append.mpr ⟨q1, (List.nodup_cons.mp q2).2, fun x hx y hy => q3 x hx y (List.mem_cons_of_mem _ hy)⟩
  · by_cases e : b = a
    · subst e; exact .inr ⟨List.mem_map.mpr ⟨_, hmem, rfl⟩, nd⟩
    · exact .inl ⟨h, e⟩
theorem RepF.byRep {Z Z1 : Addr → Prop} {H H1 : Hp} (h : ∀ v d, Rep Z H v d → Rep Z1 H1 v d) : ∀ {vs : List (Str × V)} {ds : List (Str × D)}, RepF Z H vs ds → RepF Z1 H1 vs ds
  | _, _, .nil => .nil
  | _, _, .cons r rs => .cons (h _ _ r) (rs.byRep h)
theorem RepK.byRep {Z Z1 : Addr → Prop} {H H1 : Hp} (h : ∀ v d, Rep Z H v d → Rep Z1 H1 v d) : ∀ {vs : List (Key × V)} {ds : List (Key × D)}, RepK Z H vs ds → RepK Z1 H1 vs ds
  | _, _, .nil => .nil
  | _, _, .cons r rs => .cons (h _ _ r) (rs.byRep h)
theorem RepT.byRep {Z Z1 : Addr → Prop} {H H1 : Hp} (h : ∀ v d, Rep Z H v d → Rep Z1 H1 v d) : ∀ {vs : List (List Key × V)} {ds : List (List Key × D)}, RepT Z H vs ds → RepT Z1 H1 vs ds
  | _, _, .nil => .nil
  | _, _, .cons r rs => .cons (h _ _ r) (rs.byRep h)
theorem RepN.byRep {Z Z1 : Addr → Prop} {H H1 : Hp} (h : ∀ v d, Rep Z H v d → Rep Z1 H1 v d) : ∀ {vs : NEs} {ds : List (NestedKey × D)}, RepN Z H vs ds → RepN Z1 H1 vs ds
  | _, _, .nil => .nil
  | _, _, .cons k hk r rs => .cons (h _ _ k) hk (h _ _ r) (rs.byRep h)
theorem Cont.byRep {Z Z1 : Addr → Prop} {H H1 : Hp} {a : Addr} {d : D} (h : ∀ v d, Rep Z H v d → Rep Z1 H1 v d) (e : H1 a = H a) (hc : ∀ c o, ¬ Z c → H c = some o → ¬ Z1 c ∧ H1 c = some o) (k : Cont Z H a d) : Cont Z1 H1 a d := by
  cases k with
  | lst q r => exact .lst (e.trans q) (r.byRep h)
  | ins q r => exact .ins (e.trans q) (r.byRep h)
  | dK q r => exact .dK (e.trans q) (r.byRep h)
  | dT q r => exact .dT (e.trans q) (r.byRep h)
  | dN q r => exact .dN (e.trans q) (r.byRep h)
  | tbl h0 t r => exact .tbl (e.trans h0) t fun p v hv => let ⟨c, e1, n, e2⟩ := r p v hv; ⟨c, e1, hc c _ n e2⟩
/-! calls of defs that hand back what is new and owned -/
def spN (Rn : List D → Mu → (D → Mu → Prop) → Prop) : Sp := fun vs H Q _ => ∃ (Z : Addr → Prop) (ds : List D) (μ : Mu) (Φ : D → Mu → Prop), okZ Z H ∧ Reps Z H vs ds ∧ Mem Z H μ ∧ Rn ds μ Φ ∧ ∀ v H' d μ' Z', Φ d μ' → Nw Z H μ Z' H' μ' → Rep Z' H' v d → Q v H'
end
end Du
namespace Du
open PySem L2
section
variable {ρ : Rho} {μ : Mu} {te td ty tk tv : TE} {tt : TT} {Φ : D → Mu → Prop} {N : Rho → Mu → Prop} {R : D → Mu → Prop}
/-! d[k] = v of an owned dict with texts as keys -/
theorem gs_kput (h : GE tv ρ μ fun v μ1 => GE td ρ μ1 fun d μ2 => GE ty ρ μ2 fun e μ3 => ∃ (a : Addr) (j : Nat) (kvs : List (Key × D)) (k : Str), d = .ptr a ∧ e = .str k ∧ μ3[j]? = some (a, .dK kvs) ∧ kvs.length < 100000 ∧ N ρ (μ3.set j (a, .dK (putG kvs (.inr k) v)))) : GS (sDPut td ty tv) ρ μ N R := fun Z σ H E k s m n r =>
  h Z σ H _ k s m fun v H1 dv μ1 g n1 r1 => g Z σ H1 _ (n1.ok k) (s.mono (n1.to m)) n1.mem fun x H2 d μ2 g n2 r2 => g Z σ H2 _ (n2.ok (n1.ok k)) ((s.mono (n1.to m)).mono (n2.to n1.mem)) n2.mem fun y H3 e μ3 g n3 r3 => by
    obtain ⟨a, j, kvs, kk, rfl, rfl, hj, hz, q⟩ := g
    cases r2; cases r3
    obtain ⟨za, es, he, rs⟩ := n3.mem.dKs hj
    have nn := (n1.tr n2).tr n3
    have r1' := (r1.mono (n2.to n1.mem)).mono (n3.to n2.mem)
    have n4 : Nxt Z H3 μ3 (upd H3 a (.dK (putK es (.inr kk) v))) (μ3.set j (a, .dK (putG kvs (.inr kk) dv))) := .putC n3.mem hj (.dK upd_same ((rs.put r1').mono ((Ext.rf H3).mut za)))
    exact ⟨a, _, rfl, .inl ⟨es, .inr kk, he, rfl, Nat.lt_of_lt_of_le (by rw [rs.len]; exact hz) (by decide), rfl⟩, n _ _ ρ _ Z q ((nn.tr n4).nz k) ((s.mono (nn.to m)).mono (n4.to n3.mem))⟩
end
end Du
namespace Du
open PySem L2
section
variable {K : PySem.W.Frag} {ρ : Rho} {μ : Mu} {te ta tb : TE} {ts us : TS} {c c1 c2 : D} {Φ : D → Mu → Prop} {N : Rho → Mu → Prop} {R : D → Mu → Prop}
end
end Du
namespace Du
open PySem L2
/-! owned lists and instances, read as data for a while, one within another -/
mutual
inductive Unf (μ : Mu) : D → D → Prop
  | rf (d : D) : Unf μ d d
  | ptr {a : Addr} {ds es : List D} : (a, .lst ds) ∈ μ → Unfs μ ds es → Unf μ (.ptr a) (.lst es)
  | ins {a C : Addr} {fs : List (Str × D)} : (a, .ins C fs) ∈ μ → Unf μ (.ptr a) (.ins C fs)
  | lst {ds es : List D} : Unfs μ ds es → Unf μ (.lst ds) (.lst es)
  | tup {ds es : List D} : Unfs μ ds es → Unf μ (.tup ds) (.tup es)
inductive Unfs (μ : Mu) : List D → List D → Prop
  | nil : Unfs μ [] []
  | cons {d e : D} {ds es : List D} : Unf μ d e → Unfs μ ds es → Unfs μ (d :: ds) (e :: es)
end
theorem Unfs.rfs {μ : Mu} : ∀ ds : List D, Unfs μ ds ds
  | [] => .nil
  | d :: ds => .cons (.rf d) (Unfs.rfs ds)
mutual
theorem Unf.mono {μ ν : Mu} (h : ∀ p ∈ μ, p ∈ ν) : ∀ {d e : D}, Unf μ d e → Unf ν d e
  | _, _, .rf d => .rf d
  | _, _, .ptr m u => .ptr (h _ m) (Unfs.mono h u)
  | _, _, .ins m => .ins (h _ m)
  | _, _, .lst u => .lst (Unfs.mono h u)
  | _, _, .tup u => .tup (Unfs.mono h u)
theorem Unfs.mono {μ ν : Mu} (h : ∀ p ∈ μ, p ∈ ν) : ∀ {ds es : List D}, Unfs μ ds es → Unfs ν ds es
  | _, _, .nil => .nil
  | _, _, .cons u us => .cons (Unf.mono h u) (Unfs.mono h us)
end
theorem Unfs.app {μ : Mu} : ∀ {ds es ds' es' : List D}, Unfs μ ds es → Unfs μ ds' es' → Unfs μ (ds ++ ds') (es ++ es')
  | _, _, _, _, .nil, h => h
  | _, _, _, _, .cons u us, h => .cons u (Unfs.app us h)
theorem Unfs.len {μ : Mu} : ∀ {ds es : List D}, Unfs μ ds es → ds.length = es.length
  | _, _, .nil => rfl
  | _, _, .cons _ us => by simp [Unfs.len us]
mutual
theorem Unf.rep {Z : Addr → Prop} {H : Hp} {μ : Mu} (m : ∀ p ∈ μ, Z p.1 ∧ Cont Z H p.1 p.2) : ∀ {d e : D}, Unf μ d e → ∀ {v : V}, Rep Z H v d → Rep (fun b => Z b ∧ ¬ dom μ b) H v e
  | _, _, .rf d, _, r => r.zs fun b h => .inl h.1
  | _, _, .ptr hm us, _, r => by
    cases r
    obtain ⟨z, c⟩ := m _ hm
    cases c with
    | lst h rs => exact .lst (fun q => q.2 (List.mem_map.mpr ⟨_, hm, rfl⟩)) h (Unfs.reps m us rs)
  | _, _, .ins hm, _, r => by
    cases r
    obtain ⟨z, c⟩ := m _ hm
    cases c with
    | ins h rs => exact .ins (fun q => q.2 (List.mem_map.mpr ⟨_, hm, rfl⟩)) h (rs.zs fun b h => .inl h.1)
  | _, _, .lst us, _, r => by
    cases r with
    | lst n h rs => exact .lst (fun q => n q.1) h (Unfs.reps m us rs)
  | _, _, .tup us, _, r => by
    cases r with
    | tup n h rs => exact .tup (fun q => n q.1) h (Unfs.reps m us rs)
theorem Unfs.reps {Z : Addr → Prop} {H : Hp} {μ : Mu} (m : ∀ p ∈ μ, Z p.1 ∧ Cont Z H p.1 p.2) : ∀ {ds es : List D}, Unfs μ ds es → ∀ {vs : List V}, Reps Z H vs ds → Reps (fun b => Z b ∧ ¬ dom μ b) H vs es
  | _, _, .nil, _, r => by cases r; exact .nil
  | _, _, .cons u us, _, r => by
    cases r with
    | cons r rs => exact .cons (Unf.rep m u r) (Unfs.reps m us rs)
end
/-- slots, read so -/
inductive UR (μ : Mu) : Rho → Rho → Prop
  | nil : UR μ [] []
  | no {o : Option D} {r r' : Rho} : UR μ r r' → UR μ (o :: r) (none :: r')
  | yes {d e : D} {r r' : Rho} : Unf μ d e → UR μ r r' → UR μ (some d :: r) (some e :: r')
theorem UR.len {μ : Mu} : ∀ {r r' : Rho}, UR μ r r' → r.length = r'.length
  | _, _, .nil => rfl
  | _, _, .no u => by simp [UR.len u]
  | _, _, .yes _ u => by simp [UR.len u]
theorem UR.get {μ : Mu} : ∀ {r r' : Rho} {i : Nat} {e : D}, UR μ r r' → r'[i]? = some (some e) → ∃ d, r[i]? = some (some d) ∧ Unf μ d e
  | _, _, _, _, .nil, h => by simp at h
  | _, _, 0, _, .no _, h => by simp at h
  | _, _, i + 1, _, .no u, h => by simpa using UR.get u (by simpa using h)
  | _, _, 0, _, .yes (d := d) f _, h => by simp at h; subst h; exact ⟨d, rfl, f⟩
  | _, _, i + 1, _, .yes _ u, h => by simpa using UR.get u (by simpa using h)
theorem UR.rf {μ : Mu} : ∀ r : Rho, UR μ r r
  | [] => .nil
  | none :: r => .no (UR.rf r)
  | some d :: r => .yes (.rf d) (UR.rf r)
/-! neither lists nor instances in it: what comes of a reading cannot be what was lent -/
mutual
def noLI (l : Bool) : D → Bool
  | .ins _ fs => !l && noLIF l fs
  | .err _ _ => false
  | .lst _ => false
  | .tup xs => noLIs l xs
  | .dT kvs => noLIT l kvs
  | .dK kvs => noLIK l kvs
  | .dN _ _ => false
  | _ => true
def noLIs (l : Bool) : List D → Bool
  | [] => true
  | x :: xs => noLI l x && noLIs l xs
def noLIT (l : Bool) : List (List Key × D) → Bool
  | [] => true
  | (_, x) :: xs => noLI l x && noLIT l xs
def noLIK (l : Bool) : List (Key × D) → Bool
  | [] => true
  | (_, x) :: xs => noLI l x && noLIK l xs
def noLIF (l : Bool) : List (Str × D) → Bool
  | [] => true
  | (_, x) :: xs => noLI l x && noLIF l xs
end
def LIat (l : Bool) (H : Hp) (a : Addr) : Prop := (∃ vs, H a = some (.lst vs)) ∨ (l = true ∧ ∃ C dx fs, H a = some (.ins C dx fs))
mutual
theorem Rep.backU {Z Z' : Addr → Prop} {H : Hp} {l : Bool} (hm : ∀ a, Z a → ¬ Z' a → LIat l H a) : ∀ {v : V} {d : D}, Rep Z' H v d → noLI l d = true → Rep Z H v d
  | _, _, .non, _ => .non
  | _, _, .bl b, _ => .bl b
  | _, _, .int i, _ => .int i
  | _, _, .str s, _ => .str s
  | _, _, .lst n h r, q => by simp [noLI] at q
  | _, _, .tup n h r, q => .tup (fun z => by rcases hm _ z n with ⟨vs, e⟩ | ⟨_, C, dx, fs, e⟩ <;> (rw [h] at e; cases e)) h (Reps.backU hm r (by simpa [noLI] using q))
  | _, _, .dT n h r, q => .dT (fun z => by rcases hm _ z n with ⟨vs, e⟩ | ⟨_, C, dx, fs, e⟩ <;> (rcases h with h | ⟨o, h⟩ <;> (rw [h] at e; cases e))) h (RepT.backU hm r (by simpa [noLI] using q))
  | _, _, .dK n h r, q => .dK (fun z => by rcases hm _ z n with ⟨vs, e⟩ | ⟨_, C, dx, fs, e⟩ <;> (rcases h with h | ⟨o, h⟩ <;> (rw [h] at e; cases e))) h (RepK.backU hm r (by simpa [noLI] using q))
  | _, _, .dN n h r, q => by simp [noLI] at q
  | _, _, .err n h m g r, q => by simp [noLI] at q
  | _, _, .err0 n h, q => by simp [noLI] at q
  | _, _, .ins n h r, q => by
    rw [noLI, Bool.and_eq_true, Bool.not_eq_true'] at q
    exact .ins (fun z => by rcases hm _ z n with ⟨vs, e⟩ | ⟨el, C, dx, fs, e⟩; (rw [h] at e; cases e); (rw [q.1] at el; cases el)) h (RepF.backU hm r q.2)
  | _, _, .ptr b, _ => .ptr b
  | _, _, .ty n, _ => .ty n
theorem Reps.backU {Z Z' : Addr → Prop} {H : Hp} {l : Bool} (hm : ∀ a, Z a → ¬ Z' a → LIat l H a) : ∀ {v : List V} {d : List D}, Reps Z' H v d → noLIs l d = true → Reps Z H v d
  | _, _, .nil, _ => .nil
  | _, _, .cons r t, q => by
    rw [noLIs, Bool.and_eq_true] at q
    exact .cons (Rep.backU hm r q.1) (Reps.backU hm t q.2)
theorem RepT.backU {Z Z' : Addr → Prop} {H : Hp} {l : Bool} (hm : ∀ a, Z a → ¬ Z' a → LIat l H a) : ∀ {v : List (List Key × V)} {d : List (List Key × D)}, RepT Z' H v d → noLIT l d = true → RepT Z H v d
  | _, _, .nil, _ => .nil
  | _, _, .cons r t, q => by
    rw [noLIT, Bool.and_eq_true] at q
    exact .cons (Rep.backU hm r q.1) (RepT.backU hm t q.2)
theorem RepK.backU {Z Z' : Addr → Prop} {H : Hp} {l : Bool} (hm : ∀ a, Z a → ¬ Z' a → LIat l H a) : ∀ {v : List (Key × V)} {d : List (Key × D)}, RepK Z' H v d → noLIK l d = true → RepK Z H v d
  | _, _, .nil, _ => .nil
  | _, _, .cons r t, q => by
    rw [noLIK, Bool.and_eq_true] at q
    exact .cons (Rep.backU hm r q.1) (RepK.backU hm t q.2)
theorem RepF.backU {Z Z' : Addr → Prop} {H : Hp} {l : Bool} (hm : ∀ a, Z a → ¬ Z' a → LIat l H a) : ∀ {v : List (Str × V)} {d : List (Str × D)}, RepF Z' H v d → noLIF l d = true → RepF Z H v d
  | _, _, .nil, _ => .nil
  | _, _, .cons r t, q => by
    rw [noLIF, Bool.and_eq_true] at q
    exact .cons (Rep.backU hm r q.1) (RepF.backU hm t q.2)
end
def isLI (l : Bool) : D → Bool
  | .lst _ => true
  | .ins _ _ => l
  | _ => false
section
variable {K : PySem.W.Frag} {ρ ρ' : Rho} {μ : Mu} {te ta : TE} {tt : TT} {ts us : TS} {d c : D} {b l : Bool} {Φ : D → Mu → Prop} {ΦT : Bool → Mu → Prop} {N : Rho → Mu → Prop} {R : D → Mu → Prop}
/-- the cells that are lent -/
def Lent (l : Bool) (μL μ : Mu) : Prop := ∀ p ∈ μL, p ∈ μ ∧ isLI l p.2 = true
theorem Lent.cs {Z : Addr → Prop} {H : Hp} {μL : Mu} (h : Lent l μL μ) (m : Mem Z H μ) : ∀ p ∈ μL, Z p.1 ∧ Cont Z H p.1 p.2 := fun p hp => m.cs p (h p hp).1
theorem Lent.at' {Z : Addr → Prop} {H H' : Hp} {μL : Mu} (h : Lent l μL μ) (m : Mem Z H μ) (x : Ex H H') : ∀ a, Z a → ¬ (Z a ∧ ¬ dom μL a) → LIat l H' a := fun a z n => by
  have hd : dom μL a := Classical.byContradiction fun q => n ⟨z, q⟩
  obtain ⟨p, hp, rfl⟩ := List.mem_map.mp hd
  obtain ⟨z1, c1⟩ := h.cs m p hp
  have hl := (h p hp).2
  obtain ⟨p1, p2⟩ := p
  dsimp only at c1 hl ⊢
  cases c1 with
  | lst e r => exact .inl ⟨_, x _ _ e⟩
  | ins e r => exact .inr ⟨hl, _, _, _, x _ _ e⟩
  | _ => cases hl
theorem okZ.lent {Z : Addr → Prop} {H : Hp} {μL : Mu} (k : okZ Z H) : okZ (fun b => Z b ∧ ¬ dom μL b) H := fun a h => k a h.1
/-! readings behind which more is owned -/
def GX (te : TE) (ρ : Rho) (μ : Mu) (Φ : D → Mu → Prop) : Prop := ∀ (Z : Addr → Prop) (σ : L2.St) (H : Hp) (Q : VK), okZ Z H → SRep Z H σ ρ → Mem Z H μ → (∀ v H' d μ' Z', Φ d μ' → Nw Z H μ Z' H' μ' → Rep Z' H' v d → Q v H') → te σ H Q
def GXA (ta : TA) (ρ : Rho) (μ : Mu) (Φ : List D → Mu → Prop) : Prop := ∀ (Z : Addr → Prop) (σ : L2.St) (H : Hp) (Q : List V → Hp → Prop), okZ Z H → SRep Z H σ ρ → Mem Z H μ → (∀ vs H' ds μ' Z', Φ ds μ' → Nw Z H μ Z' H' μ' → Reps Z' H' vs ds → Q vs H') → ta σ H Q
theorem Nw.fresh {Z : Addr → Prop} {H1 H2 : Hp} {μ1 : Mu} {a : Addr} {xs : List V} {es : List D} (k1 : okZ Z H1) (m1 : Mem Z H1 μ1) (ha : H1 a = none) (x2 : Ex H1 H2) (hv : H2 a = some (.lst xs)) (r2 : Reps Z H2 xs es) (hne : noLIs false es = true) : Nw Z H1 μ1 (fun b => Z b ∨ b = a) H2 ((a, .lst es) :: μ1) := by
  have m2 := m1.ex x2
  have nza : ¬ Z a := k1.no ha
  have hd : ∀ {c : Addr} {o : HO}, H1 c = some o → c ≠ a := fun h e => by rw [e, ha] at h; cases h
  have up : ∀ v d, Rep Z H1 v d → Rep (fun b => Z b ∨ b = a) H2 v d := fun v d r => (r.zs (Z' := fun b => Z b ∨ b = a) fun b z => z.imp id fun (e : b = a) => by rw [e]; exact ha).mono x2.to
  refine ⟨x2.to, fun b h => ?_, ⟨fun p hp => ?_, ?_⟩, fun b h => ?_, k1.ex x2, fun b h => h.imp id fun (e : b = a) => by rw [e]; exact ha, fun b h => .inl (.inl h)⟩
  · rcases List.mem_cons.mp h with h | h
    · exact .inr (by rw [show b = a from h]; exact ha)
    · exact .inl h
  · rcases List.mem_cons.mp hp with rfl | hp
    · exact ⟨.inr rfl, .lst hv (r2.backU (fun b zb nb => by
        rcases zb with zb | zb
        · exact absurd zb nb
        · rw [zb]; exact .inl ⟨_, hv⟩) hne)⟩
    · obtain ⟨z1, c1⟩ := m1.cs p hp
      obtain ⟨o, ho, _⟩ := c1.is
      exact ⟨.inl z1, c1.byRep up (by rw [ho]; exact x2 _ _ ho) fun c o nc hc => ⟨fun z => z.elim nc (hd hc), x2 _ _ hc⟩⟩
  · rw [List.map_cons]
    exact List.nodup_cons.mpr ⟨fun h => nza (m1.dz h), m1.nd⟩
  · rcases h with h | h
    · obtain ⟨o, ho, hi⟩ := k1 b h
      exact ⟨o, x2 _ _ ho, hi⟩
    · rw [h]; exact ⟨_, hv, rfl⟩
theorem gx_ge (h : GE te ρ μ Φ) : GX te ρ μ Φ := fun Z σ H Q k s m f => h Z σ H Q k s m fun v H' d μ' q n r => f v H' d μ' Z q (n.nz k).nw r
theorem gxa_nil {ΦA : List D → Mu → Prop} (q : ΦA [] μ) : GXA tNil ρ μ ΦA := fun Z σ H Q k s m f => f _ H [] μ Z q ((Nxt.rf m).nz k).nw .nil
theorem gxa_cons {tr : TA} {ΦA : List D → Mu → Prop} (h : GX te ρ μ fun d μ1 => GXA tr ρ μ1 fun ds μ2 => ΦA (d :: ds) μ2) : GXA (tCons te tr) ρ μ ΦA := fun Z σ H Q k s m f =>
  h Z σ H _ k s m fun x H1 d μ1 Z1 g n1 r1 => g Z1 σ H1 _ n1.ok (n1.srep m s) n1.mem fun xs H2 ds μ2 Z2 q n2 r2 => f _ H2 _ μ2 Z2 q (n1.tr k m n2) (.cons (n2.rep n1.mem r1) r2)
/-! statements -/
theorem gn_ret (h : GX te ρ μ R) : GN (tRet te) ρ μ N R := fun Z σ H E k s m n r => h Z σ H _ k s m fun v H' d μ' Z' q z rd => r v H' d μ' Z' q z rd
theorem gn_asg {i : Nat} (h : GX te ρ μ fun d μ' => N (ρ.set i (some d)) μ') : GN (tAsg te (gName i)) ρ μ N R := fun Z σ H E k s m n r => h Z σ H _ k s m fun v H' d μ' Z' q z rd => n _ H' _ μ' Z' q z ((z.srep m s).set i rd)
/-- a new thing -/
theorem gx_new (h : EvF te ρ c) (q : ∀ a, ¬ dom μ a → Φ (.ptr a) ((a, c) :: μ)) : GX te ρ μ Φ := fun Z σ H Q k s m f =>
  h Z σ H _ k s fun a H1 o x1 ha ho hc => by
    have k1 := k.ex x1
    have m1 := m.ex x1
    exact f _ _ _ _ _ (q a fun h => k1.no ha (m1.dz h)) (((Nxt.exs m x1).nz k).nw.tr k m (Nw.own k1 m1 ha ho hc)) (.ptr a)
end
end Du
namespace Du
open PySem L2
section
variable {K : PySem.W.Frag} {ρ ρ' : Rho} {μ : Mu} {te ta tb : TE} {tt : TT} {ts us : TS} {d c : D} {b l : Bool} {Φ : D → Mu → Prop} {N : Rho → Mu → Prop} {R : D → Mu → Prop}
end
end Du
namespace Du
open PySem L2
section
variable {K : PySem.W.Frag} {ρ ρ' : Rho} {μ ν μ' : Mu} {te ta tb : TE} {tt : TT} {ts us : TS} {d c : D} {b l : Bool} {Φ : D → Mu → Prop} {N : Rho → Mu → Prop} {R : D → Mu → Prop}
/-! in which order the cells are told does not matter -/
end
end Du
/-! == and != of lists and tuples by an own ==, whatever the answer -/
namespace Du
open PySem PySem.SeqAt
open AutoSeq1 (wpAny_loadPart')
open MeetsSeq MeetsSeq2 MeetsSeq3 SeqRoads2
section
variable {prog : Program} {w : World} {A : Around} {R : Result → Shared → Prop}
/-- two lists of N items each can be read -/
def TwoL (l b : Addr) (N : Nat) (s : Shared) : Prop := ∃ (items items2 : Array Value) (n n2 : Nat), s.heap.get? l = some { cls := .type "list", data := .seq items n } ∧ s.heap.get? b = some { cls := .type "list", data := .seq items2 n2 } ∧ items.size = N ∧ items2.size = N
def ListJ (prog : Program) (w : World) (A : Around) (E : Value → Shared → Prop) (l b : Addr) (N : Nat) (I : Nat → Shared → Prop) (F : Shared → Prop) : Prop :=
  ∀ i s, I i s → ∃ (items items2 : Array Value) (n n2 : Nat), s.heap.get? l = some { cls := .type "list", data := .seq items n } ∧ s.heap.get? b = some { cls := .type "list", data := .seq items2 n2 } ∧ items.size = N ∧ items2.size = N ∧
    ∀ (h1 : i < items.size) (h2 : i < items2.size), wpAny (model prog w) A.in1 (eqBool items[i] items2[i]) (fun r s' => if r = true then I (i + 1) s' else F s' ∧ TwoL l b N s') E s
end
section
variable {prog : Program} {w : World} {A : Around} {E : Value → Shared → Prop} {s : Shared}
end
end Du
namespace Du
open PySem L2 PySem.Spec PyProof.Rows
abbrev EqvB := V → V → Hp → Bool → Prop
def MonB (D : EqvB) : Prop := ∀ x y H H' b, L2.Ext H H' → D x y H b → D x y H' b
/-- == gives the answer that D says, and only makes objects -/
def EqB (X : Cx) (n : Nat) (D : EqvB) : Prop :=
  ∀ (A : Around) (pins : List (Addr × Obj)) (s : Shared) (σ : L2.St) (H : Hp) (x y : V) (u v : Value) (b : Bool), Sub X n A → Inv X pins σ H s → RelV x u → RelV y v → D x y H b →
    wpAny (model X.prog X.w) A (eqBool u v) (fun r s' => r = b ∧ ∃ H', Inv X pins σ H' s' ∧ L2.Ext H H') X.xe s
def RcB (X : Cx) (n : Nat) (D : EqvB) : Prop :=
  ∀ (A : Around) (pins : List (Addr × Obj)) (s : Shared) (σ : L2.St) (H : Hp) (x y : V) (u v : Value) (b : Bool), Sub X n A → Inv X pins σ H s → RelV x u → RelV y v → D x y H b →
    wpAny (model X.prog X.w) A (richCompare .Eq u v) (fun r s' => r = .bool b ∧ ∃ H', Inv X pins σ H' s' ∧ L2.Ext H H') X.xe s
def RnB (X : Cx) (n : Nat) (D : EqvB) : Prop :=
  ∀ (A : Around) (pins : List (Addr × Obj)) (s : Shared) (σ : L2.St) (H : Hp) (x y : V) (u v : Value) (b : Bool), Sub X n A → Inv X pins σ H s → RelV x u → RelV y v → D x y H b →
    wpAny (model X.prog X.w) A (richCompare .NotEq u v) (fun r s' => r = .bool (!b) ∧ ∃ H', Inv X pins σ H' s' ∧ L2.Ext H H') X.xe s
/-- item by item, up to the first two that differ -/
inductive PrsB (D : EqvB) (H : Hp) : List V → List V → Bool → Prop
  | nil : PrsB D H [] [] true
  | left {y : V} {ys : List V} : PrsB D H [] (y :: ys) false
  | right {x : V} {xs : List V} : PrsB D H (x :: xs) [] false
  | ne {x y : V} {xs ys : List V} : D x y H false → PrsB D H (x :: xs) (y :: ys) false
  | cons {x y : V} {xs ys : List V} {b : Bool} : D x y H true → PrsB D H xs ys b → PrsB D H (x :: xs) (y :: ys) b
section
variable {X : Cx} {n m : Nat} {D D' : EqvB}
theorem EqB.mono (h : EqB X n D) (hn : n ≤ m) : EqB X m D := fun A pins s σ H x y u v b sb => h A pins s σ H x y u v b (sb.mono hn)
theorem EqB.or (h : EqB X n D) (h' : EqB X n D') : EqB X n (fun x y H b => D x y H b ∨ D' x y H b) := fun A pins s σ H x y u v b sb I rx ry d => by
  rcases d with d | d
  · exact h A pins s σ H x y u v b sb I rx ry d
  · exact h' A pins s σ H x y u v b sb I rx ry d
theorem MonB.or (h : MonB D) (h' : MonB D') : MonB (fun x y H b => D x y H b ∨ D' x y H b) := fun x y H H' b e d => d.elim (fun d => .inl (h x y H H' b e d)) fun d => .inr (h' x y H H' b e d)
def FlatB : EqvB := fun x y _ b => flatV x = true ∧ flatV y = true ∧ eqV x y = b
theorem PrsB.min {H : Hp} : ∀ {xs ys : List V} {b : Bool}, PrsB D H xs ys b → (xs = [] ∨ ys = []) → b = (xs.length == ys.length)
  | _, _, _, .nil, _ => rfl
  | _, _, _, .left, _ => by simp
  | _, _, _, .right, _ => by simp
  | _, _, _, .ne h, e => by rcases e with e | e <;> cases e
  | _, _, _, .cons h p, e => by rcases e with e | e <;> cases e
theorem PrsB.len {H : Hp} : ∀ {xs ys : List V} {b : Bool}, PrsB D H xs ys b → xs.length ≠ ys.length → b = false
  | _, _, _, .nil, h => absurd rfl h
  | _, _, _, .left, _ => rfl
  | _, _, _, .right, _ => rfl
  | _, _, _, .ne h, _ => rfl
  | _, _, _, .cons h p, e => p.len fun z => e (by simp [z])
/-- what the loop over the items keeps -/
def LoopB (X : Cx) (pins : List (Addr × Obj)) (σ : L2.St) (H : Hp) (D : EqvB) (xs ys : List V) (b : Bool) (i : Nat) (s' : Shared) : Prop := ∃ H', Inv X pins σ H' s' ∧ L2.Ext H H' ∧ PrsB D H' (xs.drop i) (ys.drop i) b
def EndB (X : Cx) (pins : List (Addr × Obj)) (σ : L2.St) (H : Hp) (b : Bool) (s' : Shared) : Prop := b = false ∧ ∃ H', Inv X pins σ H' s' ∧ L2.Ext H H'
def DListB (D : EqvB) : EqvB := fun x y H r => ∃ a b xs ys, x = .ref a ∧ y = .ref b ∧ H a = some (.lst xs) ∧ H b = some (.lst ys) ∧ (a = b → r = true) ∧ PrsB D H xs ys r
def DTupB (K : PySem.W.Frag) (D : EqvB) : EqvB := fun x y H r => ∃ a b xs ys, x = .ref a ∧ y = .ref b ∧ SqT K H a xs ∧ SqT K H b ys ∧ (a = b → r = true) ∧ PrsB D H xs ys r
/-- instances of the class at C with the text's own == -/
def DInsB (C : Addr) (R : Addr → Addr → Hp → Bool → Prop) : EqvB := fun x y H r => ∃ a b dx dy fs gs, x = .ref a ∧ y = .ref b ∧ H a = some (.ins C dx fs) ∧ H b = some (.ins C dy gs) ∧ (a = b → r = true) ∧ R a b H r
def spEqB (R : Addr → Addr → Hp → Bool → Prop) : Sp := fun vs H Q _ => ∃ a b r, vs = [.ref a, .ref b] ∧ R a b H r ∧ ∀ H', L2.Ext H H' → Q (.bl r) H'
/-- x == y, x != y as expressions -/
def rEqB (D : EqvB) : R2 := fun x y H Q => ∃ r, D x y H r ∧ ∀ H', L2.Ext H H' → Q (.bl r) H'
def rNeB (D : EqvB) : R2 := fun x y H Q => ∃ r, D x y H r ∧ ∀ H', L2.Ext H H' → Q (.bl (!r)) H'
/-! len of an own instance -/
structure OLen (P : Program) (w : World) (K : PySem.W.Frag) (mg : Str → Option Value) (base : Heap) (k : Nat) (C : Addr) (sp : Sp) : Prop where
  ex : ∃ g, PySem.W.findIn K (.ref C) "__len__" = some (some (.ref g)) ∧ PySem.W.isFn K (.ref g) = true ∧ FnR P w K mg base CX0 k g sp
def rLenO (C : Addr) (sp : Sp) (E : XK) : List V → Hp → VK → Prop := fun xs H Q => ∃ (a dx : Addr) (fs : List (Str × V)), xs = [.ref a] ∧ H a = some (.ins C dx fs) ∧ sp [.ref a] H (fun v H' => ∃ i : Int, v = .int i ∧ 0 ≤ i ∧ i < 2 ^ 63 ∧ Q (.int i) H') E
/-! plain data is told by its value -/
mutual
def plainD : Du.D → Bool
  | .non => true
  | .bl _ => true
  | .int _ => true
  | .str _ => true
  | .lst xs => plainDs xs
  | .tup xs => plainDs xs
  | .ins _ fs => plainDF fs
  | _ => false
def plainDs : List Du.D → Bool
  | [] => true
  | x :: xs => plainD x && plainDs xs
def plainDF : List (Str × Du.D) → Bool
  | [] => true
  | x :: xs => plainD x.2 && plainDF xs
end
mutual
theorem Rep.inj {Z : Addr → Prop} {H : Hp} : ∀ {v : V} {d e : Du.D}, Rep Z H v d → Rep Z H v e → plainD d = true → plainD e = true → d = e
  | _, _, _, .non, .non, _, _ => rfl
  | _, _, _, .bl _, .bl _, _, _ => rfl
  | _, _, _, .int _, .int _, _, _ => rfl
  | _, _, _, .str _, .str _, _, _ => rfl
  | _, _, _, .lst n h r, q, p1, p2 => by
    cases q with
    | lst n' h' r' => rw [h] at h'; cases h'; rw [Reps.inj r r' (by simpa [plainD] using p1) (by simpa [plainD] using p2)]
    | tup n' h' r' => rw [h] at h'; cases h'
    | dT n' h' r' => cases p2
    | dK n' h' r' => cases p2
    | dN n' h' r' => cases p2
    | ins n' h' r' => rw [h] at h'; cases h'
    | ptr => cases p2
    | err => cases p2
    | err0 => cases p2
  | _, _, _, .tup n h r, q, p1, p2 => by
    cases q with
    | lst n' h' r' => rw [h] at h'; cases h'
    | tup n' h' r' => rw [h] at h'; cases h'; rw [Reps.inj r r' (by simpa [plainD] using p1) (by simpa [plainD] using p2)]
    | dT n' h' r' => cases p2
    | dK n' h' r' => cases p2
    | dN n' h' r' => cases p2
    | ins n' h' r' => rw [h] at h'; cases h'
    | ptr => cases p2
    | err => cases p2
    | err0 => cases p2
  | _, _, _, .ins n h r, q, p1, p2 => by
    cases q with
    | lst n' h' r' => rw [h] at h'; cases h'
    | tup n' h' r' => rw [h] at h'; cases h'
    | dT n' h' r' => cases p2
    | dK n' h' r' => cases p2
    | dN n' h' r' => cases p2
    | ins n' h' r' => rw [h] at h'; cases h'; rw [RepF.inj r r' (by simpa [plainD] using p1) (by simpa [plainD] using p2)]
    | ptr => cases p2
    | err => cases p2
    | err0 => cases p2
  | _, _, _, .dT n h r, _, p1, _ => by cases p1
  | _, _, _, .dK n h r, _, p1, _ => by cases p1
  | _, _, _, .dN n h r, _, p1, _ => by cases p1
  | _, _, _, .ptr _, _, p1, _ => by cases p1
  | _, _, _, .err .., _, p1, _ => by cases p1
  | _, _, _, .err0 .., _, p1, _ => by cases p1
  | _, _, _, .ty _, _, p1, _ => by cases p1
theorem Reps.inj {Z : Addr → Prop} {H : Hp} : ∀ {v : List V} {d e : List Du.D}, Reps Z H v d → Reps Z H v e → plainDs d = true → plainDs e = true → d = e
  | _, _, _, .nil, .nil, _, _ => rfl
  | _, _, _, .cons r t, .cons r' t', p1, p2 => by
    simp only [plainDs, Bool.and_eq_true] at p1 p2
    rw [Rep.inj r r' p1.1 p2.1, Reps.inj t t' p1.2 p2.2]
theorem RepF.inj {Z : Addr → Prop} {H : Hp} : ∀ {v : List (Str × V)} {d e : List (Str × Du.D)}, RepF Z H v d → RepF Z H v e → plainDF d = true → plainDF e = true → d = e
  | _, _, _, .nil, .nil, _, _ => rfl
  | _, _, _, .cons r t, .cons r' t', p1, p2 => by
    simp only [plainDF, Bool.and_eq_true] at p1 p2
    rw [Rep.inj r r' p1.1 p2.1, RepF.inj t t' p1.2 p2.2]
end
end
end Du
namespace Du
open PySem L2
section
variable {K : PySem.W.Frag} {ρ ρ' : Rho} {μ μ' : Mu} {te ta tb tl : TE} {tt : TT} {ts us : TS} {g : TG} {Φ : D → Mu → Prop} {ΦA : List D → Mu → Prop} {N : Rho → Mu → Prop} {R : D → Mu → Prop} {c : D}
theorem GX.mono {Φ' : D → Mu → Prop} (h : GX te ρ μ Φ) (g : ∀ d μ', Φ d μ' → Φ' d μ') : GX te ρ μ Φ' := fun Z σ H Q k s m f => h Z σ H Q k s m fun v H' d μ' Z' q n r => f v H' d μ' Z' (g d μ' q) n r
end
end Du
namespace Du
open PySem L2 PySem.Spec PyProof.Rows LamX
/-- a table of code objects, all of them where A holds -/
def TabA (A : Addr → Prop) (H : Hp) (P : Addr) (q : Str) : Prop := ∃ ps : Array Value, H P = some (.tbl ps) ∧ TriplesOk ps.toList ∧ ∀ (pos : Pos) (cv : Value), codeAmong pos ps.toList = some cv → ∃ c, cv = .ref c ∧ A c ∧ H c = some (CodeO c q)
section
variable {X : Cx} {pins : List (Addr × Obj)} {σ : L2.St} {H : Hp} {s : Shared}
/-- x(lambda: body): the table at P is read at the place A, what the def makes of it is TT -/
def tLamA (P : Addr) (q : Str) (TT : (XK → Hp → VK → Prop) → Hp → VK → Prop) (t : XK → TE) : TE := fun σ H Q => ∃ A : Addr → Prop, (∀ b, H b = none → A b) ∧ TabA A H P q ∧ ∀ H1, (∀ b o, b ≠ P → H b = some o → H1 b = some o) → TabA A H1 P q → TT (fun E H' Q' => t E σ H' Q') H1 Q
end
section
variable {ρ : Rho} {μ : Mu} {Φ : D → Mu → Prop}
end
end Du
namespace Du
open PySem L2 PySem.Spec PyProof.Rows
section
variable {X : Cx}
/-! errors whose __init__ calls the base's and stores no field, or some -/
/-- D.__init__(self, ..), D a class of the program that has ValueError's -/
def tDeI (K : PySem.W.Frag) (B : Addr) (to : TE) (ta : TA) : TE := fun σ H Q => to σ H fun x H1 => x = .ref B ∧ tVeI K ta σ H1 Q
theorem pe_deinit {B : Addr} {mc : Value} {o e : Expr} {es : List Expr} {to : TE} {ta : TA} {p2 pos : Pos} {pl : Sem Bool} (ho : PE X o to) (r : ClX.CRead X.K B mc) (fc : PySem.W.findCls X.K (.ref B) mc "__init__" = some (.val (.builtin "ValueError.__init__"))) (ha : PA X (e :: es) ta)
    (hc : eval (.Call (.Attribute o "__init__" p2) (e :: es) [] pos) X.env = (do
      let ov ← eval o X.env
      standAt p2.atName
      let (f, first) ← holding [ov] (getMethod ov "__init__" pl)
      callWith pos f first (backTo pos (starEach (e :: es) X.env)) (backToKw pos (keywordEach [] X.env))) := by rfl)
    (he : starEach (e :: es) X.env = (false, eval e X.env) :: starEach es X.env := by rfl) (hpl : (backTo pos (starEach es X.env)).any (·.1) = false := by rfl) :
    PE X (.Call (.Attribute o "__init__" p2) (e :: es) [] pos) (tDeI X.K B to ta) := by
  refine ⟨fun pins s σ H Q I h => ?_⟩
  refine PySem.W.methodCall_KW (pl := pl) (thn (ho.run pins s σ H _ I h) fun u s1 ⟨x, H1, I1, rx, ex, q⟩ => ?_) hc
  subst ex
  obtain rfl : u = Value.ref B := rx
  refine PySem.W.method_cls I1.kIn r.ga (PySem.W.cls_value I1.kIn r.rd fc rfl ?_)
  show wpAny _ _ (callWith pos (Value.builtin "ValueError.__init__") [] (backTo pos (starEach (e :: es) X.env)) []) _ _ _
  refine PyProof.Rows.callWith_method1 (thn (ha.run pos pins _ σ H1 _ (I1.tok _) q) fun us s2 ⟨vs, H2, I2, r1, a, C, ws, ev, hl, T, ea, q2⟩ => ?_) he hpl
  subst ev
  cases r1 with
  | @cons _ u0 _ ur ra rw' =>
    obtain rfl : u0 = Value.ref a := ra
    have hlen : ur.length ≤ sizeLine := by
      rw [← Paired.length rw', sizeLine_eq]
      omega
    exact oinit_ok T I2 ea hlen fun s' J => ⟨.non, H2, J, rfl, q2⟩
/-- C(), an error of the program without fields, its own __init__ keeping sp -/
def tMkN (C : Addr) (sp : Sp) : L2.St → Hp → XK → Prop := fun σ H Q => ∀ a, H a = none → sp [.ref a] (upd H a (exo a C none)) (fun v H2 => v = .non ∧ H2 a = some (exo a C none) ∧ Q (.ref C) none (del H2 a)) (fun _ _ _ => False)
end
end Du
namespace Du
open PySem L2 PySem.Spec PyProof.Rows LamX
/-- try: ask() / except e: return True / behind it: return False -/
def TRef (K : PySem.W.Frag) (CS : Addr) : (XK → Hp → VK → Prop) → Hp → VK → Prop := fun tl H Q =>
  tl (fun cls _ H' => ∃ b, PySem.W.exmOne K cls (.ref CS) = some b ∧ (b = true → Q (.bl true) H') ∧ (b = false → False)) H fun _ H' => Q (.bl false) H'
end Du
namespace Du
open PySem L2 PySem.Spec PyProof.Rows
/-! the keys of a dict whose keys are tuples of tuples, walked -/
def Itn (hf : NestedKey → Int) (d : Addr) (o : Obj) (es : NEs) : It :=
  ⟨fun i H => H d = some (NDO hf d es o) ∧ i < es.length, fun i H x H' => H' = H ∧ ∃ e, es[i]? = some e ∧ x = .ref e.2.1, fun i H => H d = some (NDO hf d es o) ∧ es.length ≤ i⟩
theorem NPr.at' {es : NEs} {xs : List (NestedKey × Addr × Value)} (r : NPr es xs) : ∀ {i : Nat} {e : NestedKey × Addr × V}, es[i]? = some e → ∃ x, xs[i]? = some x ∧ e.2.1 = x.2.1 := by
  unfold NPr at r
  induction r with
  | nil => intro i e h; simp at h
  | @cons e x es xs hx t ih =>
    intro i e' h
    cases i with
    | zero =>
      have h' : e = e' := by simpa using h
      subst h'; exact ⟨x, rfl, hx.2.1⟩
    | succ i => obtain ⟨y, h1, h2⟩ := ih (by simpa using h); exact ⟨y, by simpa using h1, h2⟩
section
variable {X : Cx} {pins : List (Addr × Obj)} {σ : L2.St} {H : Hp} {s : Shared} {d : Addr} {o : Obj} {hf : NestedKey → Int} {es : NEs}
end
section
variable {P : Program} {w : World} {K : PySem.W.Frag} {tg : Expr} {d : Addr} {o : Obj} {ee : Array DictEntry} {ep : Nat} {hf : NestedKey → Int} {es : NEs}
end
def iKeysN (w : World) (td : TE) : TI := fun σ H R => td σ H fun x H1 => ∃ d o es, x = .ref d ∧ H1 d = some (NDO (fun k => k.hash w) d es o) ∧ R (Itn (fun k => k.hash w) d o es) H1
section
variable {ρ : Rho} {w : World} {te : TE} {kvs : List (NestedKey × D)}
end
/-! dict(xs), xs a list of pairs whose first parts are unlike tuples of tuples -/
def rDictPN (K : PySem.W.Frag) (w : World) : List V → Hp → VK → Prop := fun xs H Q => ∃ (a : Addr) (ps : List Addr) (es : NEs), xs = [.ref a] ∧ SqL K H a (ps.map V.ref) ∧
  Paired (fun p e => SqT K H p [.ref e.2.1, e.2.2] ∧ NkV H e.1 (.ref e.2.1) ∧ e.1.depth ≤ 8) ps es ∧ (es.map (·.1)).Nodup ∧ ∀ p o, H p = none → Q (.ref p) (upd H p (NDO (fun k => k.hash w) p es o))
section
variable {X : Cx}
end
end Du
namespace Du
open PySem L2 PySem.Spec PyProof.Rows
/-! a dict of the written part, by texts -/
section
variable {X : Cx} {K : PySem.W.Frag} {w : World} {d : Addr} {es : Array DictEntry} {n : Nat}
def rInKd (K : PySem.W.Frag) (d : Addr) : R2 := fun x y H Q => ∃ (z : Str) (r : Option Value), x = .str z ∧ y = .ref d ∧ PySem.W.nsIn K d z = some r ∧ Q (.bl r.isSome) H
def rNotInKd (K : PySem.W.Frag) (d : Addr) : R2 := fun x y H Q => ∃ (z : Str) (r : Option Value), x = .str z ∧ y = .ref d ∧ PySem.W.nsIn K d z = some r ∧ Q (.bl (!r.isSome)) H
end
/-! the last item -/
section
variable {K : PySem.W.Frag} {ρ ρ' : Rho} {μ μ' : Mu} {te ta tb tl : TE} {ts us : TS} {Φ : D → Mu → Prop} {N : Rho → Mu → Prop} {R : D → Mu → Prop} {c : D}
theorem Reps.last {Z : Addr → Prop} {H : Hp} : ∀ {vs : List V} {ds : List D} {d : D}, Reps Z H vs (ds ++ [d]) → ∃ ws v, vs = ws ++ [v] ∧ Rep Z H v d
  | _, [], _, .cons r .nil => ⟨[], _, rfl, r⟩
  | _, _ :: _, _, .cons r t => by
    obtain ⟨ws, v, rfl, h⟩ := Reps.last t
    exact ⟨_ :: ws, v, rfl, h⟩
/-! two names at once, where more is owned -/
/-! a call that hands back a new list -/
/-! a comprehension's list is new -/
/-! small rules with effects -/
/-! a slice of a tuple -/
/-! things of another class -/
structure InsT (K : PySem.W.Frag) (B : Addr) : Prop where
  cl : Cls K B
  ic : PySem.W.findIn K (.ref B) "__class__" = some (some (.builtin "object.__class__"))
  sg : PySem.W.specialIn K (.builtin "object.__class__") "__get__" = some (some (.builtin "getset_descriptor.__get__"))
  tk : PySem.W.takesIn K (.builtin "object.__class__") = some true
  mr : PySem.W.mroIn K B (.type "object") = some true
end
end Du
namespace Du
open PySem L2 PySem.Spec PyProof.Rows
/-! dicts with nested keys: list(d), d.update(pairs) -/
def rListDN (w : World) : List V → Hp → VK → Prop := fun xs H Q => ∃ (a : Addr) (es : NEs) (o : Obj), xs = [.ref a] ∧ H a = some (NDO (fun k => k.hash w) a es o) ∧ ∀ l, H l = none → Q (.ref l) (upd H l (.lst (es.map fun e => .ref e.2.1)))
def nputs (es ms : NEs) : NEs := ms.foldl (fun acc e => nput acc e.1 e.2.1 e.2.2) es
def tUpdN (K : PySem.W.Frag) (w : World) (td tx : TE) : TE := fun σ H Q => td σ H fun x H1 => ∃ (a : Addr) (es : NEs) (o : Obj), x = .ref a ∧ H1 a = some (NDO (fun k => k.hash w) a es o) ∧ tx σ H1 fun y H2 => ∃ (b : Addr) (es : NEs) (o : Obj) (ps : List Addr) (ms : NEs), H2 a = some (NDO (fun k => k.hash w) a es o) ∧ NKeys H2 es ∧ y = .ref b ∧ a ≠ b ∧ SqL K H2 b (ps.map V.ref) ∧
  Paired (fun p e => SqT K H2 p [.ref e.2.1, e.2.2] ∧ NkV H2 e.1 (.ref e.2.1) ∧ e.1.depth ≤ 8) ps ms ∧ (∀ p ∈ ps, p ≠ a) ∧ es.length + ms.length ≤ 100000 ∧ ∀ o', Q .non (upd H2 a (NDO (fun k => k.hash w) a (nputs es ms) o'))
section
variable {X : Cx}
end
/-! in data -/
section
variable {K : PySem.W.Frag} {w : World} {ρ : Rho} {μ : Mu} {te td tx ty : TE} {Φ : D → Mu → Prop} {N : Rho → Mu → Prop} {R : D → Mu → Prop}
def putsG (kvs : List (NestedKey × D)) (ms : List (NestedKey × D)) : List (NestedKey × D) := ms.foldl (fun acc e => putG acc e.1 e.2) kvs
/-! d.setdefault(k, []), d an owned dict with ints and texts as keys -/
/-! `is not None` -/
/-- a def that owns its result may hand it out as new -/
def RNew (Rn : List D → List D → Prop) (ds : List D) (μ : Mu) (Φ : D → Mu → Prop) : Prop := ∃ es, Rn ds es ∧ μ = [] ∧ ∀ a ν, Φ (.ptr a) ((a, .lst es) :: ν)
end
end Du
namespace Du
open PySem L2
/-! an owned dict, read as data for a while -/
mutual
def noDic : D → Bool
  | .ins _ fs => noDicF fs
  | .lst xs => noDics xs
  | .tup xs => noDics xs
  | .dT _ => false
  | .dK _ => false
  | .dN _ _ => false
  | .err _ _ => false
  | _ => true
def noDics : List D → Bool
  | [] => true
  | x :: xs => noDic x && noDics xs
def noDicF : List (Str × D) → Bool
  | [] => true
  | (_, x) :: xs => noDic x && noDicF xs
end
def isSqO : HO → Bool
  | .lst _ => true
  | .tup _ => true
  | .ins _ _ _ => true
  | _ => false
mutual
theorem Rep.backD {Z : Addr → Prop} {H : Hp} {a : Addr} {o : HO} (ha : H a = some o) (ho : isSqO o = false) : ∀ {v : V} {d : D}, Rep (fun b => Z b ∧ b ≠ a) H v d → noDic d = true → Rep Z H v d
  | _, _, .non, _ => .non
  | _, _, .bl b, _ => .bl b
  | _, _, .int i, _ => .int i
  | _, _, .str s, _ => .str s
  | _, _, .lst n h r, q => .lst (fun z => n ⟨z, fun e => by rw [e, ha] at h; cases h; cases ho⟩) h (Reps.backD ha ho r (by simpa [noDic] using q))
  | _, _, .tup n h r, q => .tup (fun z => n ⟨z, fun e => by rw [e, ha] at h; cases h; cases ho⟩) h (Reps.backD ha ho r (by simpa [noDic] using q))
  | _, _, .dT n h r, q => by simp [noDic] at q
  | _, _, .dK n h r, q => by simp [noDic] at q
  | _, _, .dN n h r, q => by simp [noDic] at q
  | _, _, .err n h m g r, q => by simp [noDic] at q
  | _, _, .err0 n h, q => by simp [noDic] at q
  | _, _, .ins n h r, q => .ins (fun z => n ⟨z, fun e => by rw [e, ha] at h; cases h; cases ho⟩) h (RepF.backD ha ho r (by simpa [noDic] using q))
  | _, _, .ptr b, _ => .ptr b
  | _, _, .ty n, _ => .ty n
theorem Reps.backD {Z : Addr → Prop} {H : Hp} {a : Addr} {o : HO} (ha : H a = some o) (ho : isSqO o = false) : ∀ {v : List V} {d : List D}, Reps (fun b => Z b ∧ b ≠ a) H v d → noDics d = true → Reps Z H v d
  | _, _, .nil, _ => .nil
  | _, _, .cons r t, q => by
    rw [noDics, Bool.and_eq_true] at q
    exact .cons (Rep.backD ha ho r q.1) (Reps.backD ha ho t q.2)
theorem RepF.backD {Z : Addr → Prop} {H : Hp} {a : Addr} {o : HO} (ha : H a = some o) (ho : isSqO o = false) : ∀ {v : List (Str × V)} {d : List (Str × D)}, RepF (fun b => Z b ∧ b ≠ a) H v d → noDicF d = true → RepF Z H v d
  | _, _, .nil, _ => .nil
  | _, _, .cons r t, q => by
    rw [noDicF, Bool.and_eq_true] at q
    exact .cons (Rep.backD ha ho r q.1) (RepF.backD ha ho t q.2)
end
def isDic : D → Bool
  | .dT _ => true
  | .dK _ => true
  | .dN _ _ => true
  | _ => false
section
variable {w : World} {ρ : Rho} {μ : Mu} {te ty td : TE} {tt : TT} {Φ : D → Mu → Prop} {ΦT : Bool → Mu → Prop} {kvs : List (NestedKey × D)} {ks : List NestedKey}
/-- a def with data alone: what it owns on its way is its own -/
def RPure (R : List D → D → Prop) (ds : List D) (μ : Mu) (Φ : D → Mu → Prop) : Prop := ∃ d, R ds d ∧ μ = [] ∧ Φ d []
end
end Du
namespace Du
/-! closures: what is come to, by two ways of walking -/
section
variable {α : Type} [DecidableEq α]
def addP (F : List α) (xs : List α) : List α := xs.foldl (fun F x => if x ∈ F then F else F ++ [x]) F
/-- found and waiting; what is new is found at once -/
inductive RunA (nx : α → List α) : Nat → List α → List α → List α → Prop
  | done {F : List α} : RunA nx 0 F [] F
  | step {n : Nat} {F W : List α} {p : α} {F' : List α} : W.length ≤ 40000 → F.length ≤ 40000 → (nx p).length ≤ 1000 → (nx p).Nodup → RunA nx n (addP F (nx p)) (W ++ (nx p).filter fun x => !decide (x ∈ F)) F' → RunA nx (n + 1) F (W ++ [p]) F'
/-- known and waiting; what waits may be known already -/
inductive RunB (nx : α → List α) : Nat → List α → List α → List α → Prop
  | done {F : List α} : RunB nx 0 F [] F
  | old {n : Nat} {F W : List α} {p : α} {F' : List α} : p ∈ F → RunB nx n F W F' → RunB nx (n + 1) F (W ++ [p]) F'
  | new {n : Nat} {F W : List α} {p : α} {F' : List α} : p ∉ F → W.length ≤ 60000 → F.length ≤ 60000 → (nx p).length ≤ 1000 → RunB nx n (F ++ [p]) (W ++ nx p) F' → RunB nx (n + 1) F (W ++ [p]) F'
end
end Du
namespace Du
open PySem L2
/-! keys of a dict by texts, locked while they are walked -/
section
variable {K : PySem.W.Frag} {ρ ρ' : Rho} {μ : Mu} {te ta tb td ty tk tv : TE} {tt : TT} {d e z : D} {ds es : List D} {ts : TS} {Φ : D → Mu → Prop} {ΦT : Bool → Mu → Prop} {N : Rho → Mu → Prop} {R : D → Mu → Prop}
/-! k not in d, k a text -/
/-! list(range(n)) -/
/-! a comprehension over two sources -/
end
/-! owned lists, dicts by texts and instances, read as data -/
mutual
inductive UnX (μ : Mu) : D → D → Prop
  | rf (d : D) : UnX μ d d
  | ptr {a : Addr} {ds es : List D} : (a, .lst ds) ∈ μ → UnXs μ ds es → UnX μ (.ptr a) (.lst es)
  | ins {a C : Addr} {fs : List (Str × D)} : (a, .ins C fs) ∈ μ → UnX μ (.ptr a) (.ins C fs)
  | dk {a : Addr} {ds es : List (Key × D)} : (a, .dK ds) ∈ μ → UnXk μ ds es → UnX μ (.ptr a) (.dK es)
  | lst {ds es : List D} : UnXs μ ds es → UnX μ (.lst ds) (.lst es)
  | tup {ds es : List D} : UnXs μ ds es → UnX μ (.tup ds) (.tup es)
inductive UnXs (μ : Mu) : List D → List D → Prop
  | nil : UnXs μ [] []
  | cons {d e : D} {ds es : List D} : UnX μ d e → UnXs μ ds es → UnXs μ (d :: ds) (e :: es)
inductive UnXk (μ : Mu) : List (Key × D) → List (Key × D) → Prop
  | nil : UnXk μ [] []
  | cons {k : Key} {d e : D} {ds es : List (Key × D)} : UnX μ d e → UnXk μ ds es → UnXk μ ((k, d) :: ds) ((k, e) :: es)
end
theorem UnXs.rfs {μ : Mu} : ∀ ds : List D, UnXs μ ds ds
  | [] => .nil
  | d :: ds => .cons (.rf d) (UnXs.rfs ds)
theorem UnXk.rfs {μ : Mu} : ∀ ds : List (Key × D), UnXk μ ds ds
  | [] => .nil
  | (_, d) :: ds => .cons (.rf d) (UnXk.rfs ds)
theorem UnXs.len {μ : Mu} : ∀ {ds es : List D}, UnXs μ ds es → ds.length = es.length
  | _, _, .nil => rfl
  | _, _, .cons _ us => by simp [UnXs.len us]
theorem UnXs.app {μ : Mu} : ∀ {ds es ds' es' : List D}, UnXs μ ds es → UnXs μ ds' es' → UnXs μ (ds ++ ds') (es ++ es')
  | _, _, _, _, .nil, h => h
  | _, _, _, _, .cons u us, h => .cons u (UnXs.app us h)
theorem UnXk.app {μ : Mu} : ∀ {ds es ds' es' : List (Key × D)}, UnXk μ ds es → UnXk μ ds' es' → UnXk μ (ds ++ ds') (es ++ es')
  | _, _, _, _, .nil, h => h
  | _, _, _, _, .cons u us, h => .cons u (UnXk.app us h)
mutual
theorem UnX.mono {μ ν : Mu} (h : ∀ p ∈ μ, p ∈ ν) : ∀ {d e : D}, UnX μ d e → UnX ν d e
  | _, _, .rf d => .rf d
  | _, _, .ptr m u => .ptr (h _ m) (UnXs.mono h u)
  | _, _, .ins m => .ins (h _ m)
  | _, _, .dk m u => .dk (h _ m) (UnXk.mono h u)
  | _, _, .lst u => .lst (UnXs.mono h u)
  | _, _, .tup u => .tup (UnXs.mono h u)
theorem UnXs.mono {μ ν : Mu} (h : ∀ p ∈ μ, p ∈ ν) : ∀ {ds es : List D}, UnXs μ ds es → UnXs ν ds es
  | _, _, .nil => .nil
  | _, _, .cons u us => .cons (UnX.mono h u) (UnXs.mono h us)
theorem UnXk.mono {μ ν : Mu} (h : ∀ p ∈ μ, p ∈ ν) : ∀ {ds es : List (Key × D)}, UnXk μ ds es → UnXk ν ds es
  | _, _, .nil => .nil
  | _, _, .cons u us => .cons (UnX.mono h u) (UnXk.mono h us)
end
mutual
theorem UnX.rep {Z : Addr → Prop} {H : Hp} {μ : Mu} (m : ∀ p ∈ μ, Z p.1 ∧ Cont Z H p.1 p.2) : ∀ {d e : D}, UnX μ d e → ∀ {v : V}, Rep Z H v d → Rep (fun b => Z b ∧ ¬ dom μ b) H v e
  | _, _, .rf d, _, r => r.zs fun b h => .inl h.1
  | _, _, .ptr hm us, _, r => by
    cases r
    obtain ⟨z, c⟩ := m _ hm
    cases c with
    | lst h rs => exact .lst (fun q => q.2 (List.mem_map.mpr ⟨_, hm, rfl⟩)) h (UnXs.reps m us rs)
  | _, _, .ins hm, _, r => by
    cases r
    obtain ⟨z, c⟩ := m _ hm
    cases c with
    | ins h rs => exact .ins (fun q => q.2 (List.mem_map.mpr ⟨_, hm, rfl⟩)) h (rs.zs fun b h => .inl h.1)
  | _, _, .dk hm us, _, r => by
    cases r
    obtain ⟨z, c⟩ := m _ hm
    cases c with
    | dK h rs => exact .dK (fun q => q.2 (List.mem_map.mpr ⟨_, hm, rfl⟩)) (.inl h) (UnXk.reps m us rs)
  | _, _, .lst us, _, r => by
    cases r with
    | lst n h rs => exact .lst (fun q => n q.1) h (UnXs.reps m us rs)
  | _, _, .tup us, _, r => by
    cases r with
    | tup n h rs => exact .tup (fun q => n q.1) h (UnXs.reps m us rs)
theorem UnXs.reps {Z : Addr → Prop} {H : Hp} {μ : Mu} (m : ∀ p ∈ μ, Z p.1 ∧ Cont Z H p.1 p.2) : ∀ {ds es : List D}, UnXs μ ds es → ∀ {vs : List V}, Reps Z H vs ds → Reps (fun b => Z b ∧ ¬ dom μ b) H vs es
  | _, _, .nil, _, r => by cases r; exact .nil
  | _, _, .cons u us, _, r => by
    cases r with
    | cons r rs => exact .cons (UnX.rep m u r) (UnXs.reps m us rs)
theorem UnXk.reps {Z : Addr → Prop} {H : Hp} {μ : Mu} (m : ∀ p ∈ μ, Z p.1 ∧ Cont Z H p.1 p.2) : ∀ {ds es : List (Key × D)}, UnXk μ ds es → ∀ {vs : List (Key × V)}, RepK Z H vs ds → RepK (fun b => Z b ∧ ¬ dom μ b) H vs es
  | _, _, .nil, _, r => by cases r; exact .nil
  | _, _, .cons u us, _, r => by
    cases r with
    | cons r rs => exact .cons (UnX.rep m u r) (UnXk.reps m us rs)
end
inductive UX (μ : Mu) : Rho → Rho → Prop
  | nil : UX μ [] []
  | no {o : Option D} {r r' : Rho} : UX μ r r' → UX μ (o :: r) (none :: r')
  | yes {d e : D} {r r' : Rho} : UnX μ d e → UX μ r r' → UX μ (some d :: r) (some e :: r')
theorem UX.len {μ : Mu} : ∀ {r r' : Rho}, UX μ r r' → r.length = r'.length
  | _, _, .nil => rfl
  | _, _, .no u => by simp [UX.len u]
  | _, _, .yes _ u => by simp [UX.len u]
theorem UX.get {μ : Mu} : ∀ {r r' : Rho} {i : Nat} {e : D}, UX μ r r' → r'[i]? = some (some e) → ∃ d, r[i]? = some (some d) ∧ UnX μ d e
  | _, _, _, _, .nil, h => by simp at h
  | _, _, 0, _, .no _, h => by simp at h
  | _, _, i + 1, _, .no u, h => by simpa using UX.get u (by simpa using h)
  | _, _, 0, _, .yes (d := d) f _, h => by simp at h; subst h; exact ⟨d, rfl, f⟩
  | _, _, i + 1, _, .yes _ u, h => by simpa using UX.get u (by simpa using h)
theorem SRep.unX {Z : Addr → Prop} {H : Hp} {μ : Mu} {σ : L2.St} {ρ ρ' : Rho} (m : ∀ p ∈ μ, Z p.1 ∧ Cont Z H p.1 p.2) (s : SRep Z H σ ρ) (u : UX μ ρ ρ') : SRep (fun b => Z b ∧ ¬ dom μ b) H σ ρ' := ⟨s.1.trans u.len, fun i e h => by
  obtain ⟨d, h1, h2⟩ := u.get h
  obtain ⟨v, h3, h4⟩ := s.2 i d h1
  exact ⟨v, h3, h2.rep m h4⟩⟩
/-! plain things alone, in tuples -/
mutual
def flX : D → Bool
  | .lst _ => false
  | .tup xs => flXs xs
  | .dT _ => false
  | .dK _ => false
  | .dN _ _ => false
  | .ins _ _ => false
  | .err _ _ => false
  | _ => true
def flXs : List D → Bool
  | [] => true
  | x :: xs => flX x && flXs xs
end
/-- what may change: lists, dicts, instances -/
def LIx (H : Hp) (a : Addr) : Prop := ∃ o, H a = some o ∧ isTup o = false
mutual
theorem Rep.flX {Z Z' : Addr → Prop} {H : Hp} (hk : ∀ a, Z' a → Z a ∨ LIx H a) : ∀ {v : V} {d : D}, Rep Z H v d → flX d = true → Rep Z' H v d
  | _, _, .non, _ => .non
  | _, _, .bl b, _ => .bl b
  | _, _, .int i, _ => .int i
  | _, _, .str s, _ => .str s
  | _, _, .lst n h r, q => by simp [Du.flX] at q
  | _, _, .tup n h r, q => .tup (fun z => (hk _ z).elim n fun ⟨o, e, t⟩ => by rw [h] at e; cases e; cases t) h (Reps.flX hk r (by simpa [Du.flX] using q))
  | _, _, .dT n h r, q => by simp [Du.flX] at q
  | _, _, .dK n h r, q => by simp [Du.flX] at q
  | _, _, .dN n h r, q => by simp [Du.flX] at q
  | _, _, .ins n h r, q => by simp [Du.flX] at q
  | _, _, .err n h m g r, q => by simp [Du.flX] at q
  | _, _, .err0 n h, q => by simp [Du.flX] at q
  | _, _, .ptr b, _ => .ptr b
  | _, _, .ty n, _ => .ty n
theorem Reps.flX {Z Z' : Addr → Prop} {H : Hp} (hk : ∀ a, Z' a → Z a ∨ LIx H a) : ∀ {v : List V} {d : List D}, Reps Z H v d → flXs d = true → Reps Z' H v d
  | _, _, .nil, _ => .nil
  | _, _, .cons r t, q => by
    rw [flXs, Bool.and_eq_true] at q
    exact .cons (Rep.flX hk r q.1) (Reps.flX hk t q.2)
end
/-- what comes of it holds nothing of old that may change -/
def EvN (te : TE) (ρ : Rho) (d : D) : Prop := ∀ (Z : Addr → Prop) (σ : L2.St) (H : Hp) (Q : VK), okZ Z H → SRep Z H σ ρ → (∀ v H', Ex H H' → Rep (fun b => Z b ∨ LIx H b) H' v d → Q v H') → te σ H Q
theorem LIx.ex {H H' : Hp} (x : Ex H H') {a : Addr} (h : LIx H a) : LIx H' a := by
  obtain ⟨o, e, t⟩ := h
  exact ⟨o, x a o e, t⟩
section
variable {K : PySem.W.Frag} {ρ ρ' : Rho} {μ : Mu} {te ta tb td ty tk tv : TE} {tt : TT} {d e z : D} {ds es : List D} {ts : TS} {Φ : D → Mu → Prop} {ΦT : Bool → Mu → Prop} {N : Rho → Mu → Prop} {R : D → Mu → Prop}
theorem EvN.ev (h : EvN te ρ d) : Ev te ρ d := fun Z σ H Q k s q => h Z σ H Q k s fun v H' x r => q v H' x (r.zs fun b z => .inl (.inl z))
theorem gt_lendX (μL : Mu) (hs : ∀ p ∈ μL, p ∈ μ) (u : UX μL ρ ρ') (h : EvT tt ρ' b) (q : ΦT b μ) : GT tt ρ μ ΦT := fun Z σ H Q k s m f => by
  have cs : ∀ p ∈ μL, Z p.1 ∧ Cont Z H p.1 p.2 := fun p hp => m.cs p (hs p hp)
  exact h _ σ H Q (fun b z => k b z.1) (s.unX cs u) fun H' x => f b H' μ q (.exs m x)
end
/-- what a def answers, with nothing of old in it that may change -/
def spNN (R : List D → D → Prop) : Sp := fun vs H Q _ => ∃ (Z : Addr → Prop) (ds : List D) (d : D), okZ Z H ∧ Reps Z H vs ds ∧ R ds d ∧ ∀ v H', Ex H H' → Rep (fun b => Z b ∨ LIx H b) H' v d → Q v H'
section
variable {K : PySem.W.Frag} {ρ ρ' : Rho} {μ : Mu} {te ta tb td ty tk tv : TE} {tt : TT} {d e z : D} {ds es : List D} {t : TA}
end
section
variable {K : PySem.W.Frag} {ρ ρ' : Rho} {μ : Mu} {te ta tb td ty tk tv : TE} {tt : TT} {d e z : D} {ds es : List D} {ts us : TS} {t : TA}
end
/-! statements before a return of such a thing -/
def RetN (t : TS) (ρ : Rho) (d : D) : Prop := ∀ (Z : Addr → Prop) (σ : L2.St) (H : Hp) (E : Ends), okZ Z H → SRep Z H σ ρ → (∀ v H', Ex H H' → Rep (fun b => Z b ∨ LIx H b) H' v d → E.rt v H') → t E σ H
section
variable {ρ ρ' ρ1 : Rho} {te : TE} {d : D} {t u ts : TS}
end
open PySem.Spec PyProof.Rows in
theorem pureN_ok {P : Program} {w : World} {K : PySem.W.Frag} {mg : Str → Option Value} {base : Heap} {x qual : Str} {stm : Stmt} {fa : Addr} {fd : FuncData} {N ps : List Str} {k : Nat} {R : List D → D → Prop} (F : Fun K x qual stm fa fd) (S : FnScope N ps (defScope stm)) (len : ∀ ds d, R ds d → ds.length = ps.length)
    (hb : ∀ (cdv : Value) (A : Around) (outer : List Env) (s : Shared) (H : Hp) (E : XK), Room k (A.deeper (PyProof.Rows.envOfC qual (defScope stm) s.heap.objs.size fa cdv)) →
      ∃ t, PSs (cxOf CX0 P w K mg base N qual (defScope stm) fa cdv A outer s H E).nox (defBody stm) t ∧ ∀ ds d, R ds d → RetN t (rho0 N ds) d) : FnOk P w K mg base CX0 (k + 1) fa fd ps (spNN R) := by
  refine F.ok S (fun vs H Q E h => ?_) (fun cdv A outer s H vs Q E hr h => ?_)
  · obtain ⟨Z, ds, d, _, r, hR, _⟩ := h
    exact r.len.trans (len ds d hR)
  · obtain ⟨Z, ds, d, ok, r, hR, q⟩ := h
    obtain ⟨t, ht, hs⟩ := hb cdv A outer s H E hr
    refine ⟨t, ht, ?_⟩
    have s0 : SRep Z H (L2.start N vs) (rho0 N ds) := by
      unfold L2.start rho0
      rw [r.len]
      exact SRep.start r _
    exact hs ds d hR Z _ H _ ok s0 fun v H' x' r' => q v H' x' r'
end Du
namespace Du
open PySem L2
section
variable {K : PySem.W.Frag} {ρ ρ' : Rho} {μ : Mu} {te ta tb td ty tv : TE} {d e : D} {ts us : TS} {Φ : D → Mu → Prop} {N : Rho → Mu → Prop} {R : D → Mu → Prop}
theorem Nw.drop {Z : Addr → Prop} {H : Hp} {μL μr : Mu} (k : okZ Z H) (m : Mem Z H (μL ++ μr)) : Nw Z H (μL ++ μr) (fun b => Z b ∧ ¬ dom μL b) H μr := by
  have nd := m.nd
  rw [List.map_append, List.nodup_append] at nd
  refine ⟨Ext.rf H, fun b h => .inl (by unfold dom at h ⊢; rw [List.map_append]; exact List.mem_append_right _ h), ⟨fun p hp => ?_, nd.2.1⟩, fun b h => k b h.1, k, fun b h => .inl h.1, fun b h => ?_⟩
  · obtain ⟨z1, c1⟩ := m.cs p (List.mem_append_right _ hp)
    exact ⟨⟨z1, fun h => nd.2.2 p.1 h p.1 (List.mem_map.mpr ⟨p, hp, rfl⟩) rfl⟩, c1.zs fun b h => h.1⟩
  · by_cases hd : dom μL b
    · exact .inr ⟨by unfold dom at hd ⊢; rw [List.map_append]; exact List.mem_append_left _ hd, fun h => nd.2.2 b hd b h rfl⟩
    · exact .inl ⟨h, hd⟩
end
end Du
namespace Du
open PySem L2
/-! .items() of a dict that a call has made: it is locked for good -/
def tFrz (td : TE) : TE := fun σ H Q => td σ H fun x H1 => ∃ (d : Addr) (kvs : List (Key × V)), x = .ref d ∧ H1 d = some (.dK kvs) ∧ ∀ o, Q x (upd H1 d (.frz o (.dK kvs)))
section
variable {K : PySem.W.Frag} {ρ ρ' : Rho} {μ : Mu} {te ta tb td ty tv tl : TE} {tt : TT} {d e : D} {ts us : TS} {g : TG} {Φ : D → Mu → Prop} {N : Rho → Mu → Prop} {R : D → Mu → Prop}
end
end Du
namespace Du
open PySem L2 PySem.Spec PyProof.Rows PySem.W
/-! list(d.values()) -/
def ViewO (v d : Addr) : HO := .ext fun h => h.IsValuesView v d
def tVals (td : TE) : TE := fun σ H Q => td σ H fun x H1 => ∃ (d : Addr) (kvs : List (Key × L2.V)), x = .ref d ∧ H1 d = some (.dK kvs) ∧ ∀ v, H1 v = none → Q (.ref v) (upd H1 v (ViewO v d))
def rListV : List L2.V → Hp → VK → Prop := fun xs H Q => ∃ (v d : Addr) (kvs : List (Key × L2.V)), xs = [.ref v] ∧ H v = some (ViewO v d) ∧ H d = some (.dK kvs) ∧ ∀ q, H q = none → Q (.ref q) (upd H q (.lst (kvs.map (·.2))))
section
variable {K : PySem.W.Frag} {ρ ρ' : Rho} {μ : Mu} {te ta tb td ty tv tl : TE} {d e d1 d2 : D} {ts us : TS} {Φ : D → Mu → Prop} {N : Rho → Mu → Prop} {R : D → Mu → Prop}
variable {g : TG}
end
end Du
namespace Du
open PySem L2 PySem.Spec PyProof.Rows
/-! set(xs) != set(ys), of tuples of numbers -/
open Classical in
noncomputable def rNeT (K : PySem.W.Frag) (P : Program) (w : World) : R2 := fun x y H Q => ∃ (a b : Addr) (LA LB : List (Addr × List Int)), x = .ref a ∧ y = .ref b ∧ H a = some (SetTO P w a LA) ∧ H b = some (SetTO P w b LB) ∧ (∀ p ∈ LA, SqT K H p.1 (p.2.map L2.V.int)) ∧ (∀ p ∈ LB, SqT K H p.1 (p.2.map L2.V.int)) ∧
  Q (.bl (!decide (∀ k, k ∈ LA.map (·.2) ↔ k ∈ LB.map (·.2)))) H
section
variable {K : PySem.W.Frag} {P : Program} {w : World} {ρ ρ' : Rho} {μ : Mu} {te ta tb td : TE} {d e : D} {Φ : D → Mu → Prop}
abbrev wyI (u : Nat × Nat) : List Int := [(u.1 : Int), (u.2 : Int)]
/-- min(i, j) -/
abbrev rMin2 : List L2.V → Hp → VK → Prop := fun xs H Q => ∃ i j, xs = [.int i, .int j] ∧ Q (.int (if j < i then j else i)) H
/-- dict(d): a copy -/
abbrev rDictC : List L2.V → Hp → VK → Prop := fun xs H Q => ∃ (a : Addr) (kvs : List (Key × L2.V)), xs = [.ref a] ∧ Rd H a (.dK kvs) ∧ ∀ p, H p = none → Q (.ref p) (upd H p (.dK kvs))
end
end Du
namespace Du
open PySem L2 PySem.Spec PyProof.Rows
/-! a set of tuples of numbers that is only looked at: the search, subsets, != -/
section
variable {P : Program} {w : World} {A : Around} {E : Value → Shared → Prop} {s : Shared} {a : Addr} {L : List (Addr × List Int)} {es : Array (Int × Value)} {ep : Nat} {t : SetTable}
variable {b : Addr} {M : List (Addr × List Int)} {fs : Array (Int × Value)} {eq : Nat} {u : SetTable}
end
section
variable {X : Cx} {K : PySem.W.Frag} {P : Program} {w : World}
end
end Du
namespace Du
open PySem L2 PySem.Spec PyProof.Rows
/-! repr of lists and dicts, one within another -/
def pK : Key → PyData
  | .inl i => .int i
  | .inr x => .str x
mutual
inductive DpX (H : Hp) : V → PyData → Prop
  | non : DpX H .non .none
  | bl (b : Bool) : DpX H (.bl b) (.bool b)
  | int (i : Int) : DpX H (.int i) (.int i)
  | str (x : Str) : DpX H (.str x) (.str x)
  | lst {a : Addr} {vs : List V} {ds : List PyData} : Rd H a (.lst vs) → DpXs H vs ds → DpX H (.ref a) (.list ds)
  | tup {a : Addr} {vs : List V} {ds : List PyData} : Rd H a (.tup vs) → DpXs H vs ds → DpX H (.ref a) (.tuple ds)
  | dK {a : Addr} {kvs : List (Key × V)} {ds : List (PyData × PyData)} : Rd H a (.dK kvs) → DpXk H kvs ds → DpX H (.ref a) (.dict ds)
inductive DpXs (H : Hp) : List V → List PyData → Prop
  | nil : DpXs H [] []
  | cons {v : V} {vs : List V} {d : PyData} {ds : List PyData} : DpX H v d → DpXs H vs ds → DpXs H (v :: vs) (d :: ds)
inductive DpXk (H : Hp) : List (Key × V) → List (PyData × PyData) → Prop
  | nil : DpXk H [] []
  | cons {k : Key} {v : V} {kvs : List (Key × V)} {d : PyData} {ds : List (PyData × PyData)} : DpX H v d → DpXk H kvs ds → DpXk H ((k, v) :: kvs) ((pK k, d) :: ds)
end
mutual
def toX : D → PyData
  | .bl b => .bool b
  | .int i => .int i
  | .str s => .str s
  | .lst xs => .list (toXs xs)
  | .tup xs => .tuple (toXs xs)
  | .dK kvs => .dict (toXk kvs)
  | _ => .none
def toXs : List D → List PyData
  | [] => []
  | x :: xs => toX x :: toXs xs
def toXk : List (Key × D) → List (PyData × PyData)
  | [] => []
  | (k, d) :: r => (pK k, toX d) :: toXk r
end
mutual
def shX : D → Bool
  | .non => true
  | .bl _ => true
  | .int _ => true
  | .str _ => true
  | .lst xs => shXs xs
  | .tup xs => shXs xs
  | .dK kvs => shXk kvs
  | _ => false
def shXs : List D → Bool
  | [] => true
  | x :: xs => shX x && shXs xs
def shXk : List (Key × D) → Bool
  | [] => true
  | (_, d) :: r => shX d && shXk r
end
mutual
theorem dpx_of {Z : Addr → Prop} {H : Hp} : ∀ {v : V} {d : D}, Rep Z H v d → shX d = true → DpX H v (toX d)
  | _, _, .int i, _ => by simpa [toX] using .int i
  | _, _, .str s, _ => by simpa [toX] using .str s
  | _, _, .lst n h r, p => by simp only [toX]; exact .lst (.inl h) (dpxs_of r (by simpa [shX] using p))
  | _, _, .tup n h r, p => by simp only [toX]; exact .tup (.inl h) (dpxs_of r (by simpa [shX] using p))
  | _, _, .dK n h r, p => by simp only [toX]; exact .dK h (dpxk_of r (by simpa [shX] using p))
  | _, _, .non, _ => by simpa [toX] using .non
  | _, _, .bl b, _ => by simpa [toX] using .bl b
  | _, _, .err _ _ _ _ _, p => by simp [shX] at p
  | _, _, .err0 _ _, p => by simp [shX] at p
  | _, _, .dT _ _ _, p => by simp [shX] at p
  | _, _, .dN _ _ _, p => by simp [shX] at p
  | _, _, .ins _ _ _, p => by simp [shX] at p
  | _, _, .ptr _, p => by simp [shX] at p
  | _, _, .ty _, p => by simp [shX] at p
theorem dpxs_of {Z : Addr → Prop} {H : Hp} : ∀ {vs : List V} {ds : List D}, Reps Z H vs ds → shXs ds = true → DpXs H vs (toXs ds)
  | _, _, .nil, _ => by simp only [toXs]; exact .nil
  | _, _, .cons r t, p => by
    simp only [shXs, Bool.and_eq_true] at p
    simp only [toXs]
    exact .cons (dpx_of r p.1) (dpxs_of t p.2)
theorem dpxk_of {Z : Addr → Prop} {H : Hp} : ∀ {vs : List (Key × V)} {ds : List (Key × D)}, RepK Z H vs ds → shXk ds = true → DpXk H vs (toXk ds)
  | _, _, .nil, _ => by simp only [toXk]; exact .nil
  | _, _, .cons r t, p => by
    simp only [shXk, Bool.and_eq_true] at p
    simp only [toXk]
    exact .cons (dpx_of r p.1) (dpxk_of t p.2)
end
theorem rd_has {H : Hp} {a : Addr} {o : HO} (h : Rd H a o) : H a ≠ none := by
  rcases h with h | ⟨_, h⟩ <;> rw [h] <;> exact nofun
section
variable {X : Cx} {pins : List (Addr × Obj)} {σ : L2.St} {H : Hp} {s : Shared}
mutual
theorem DpX.reads (I : Inv X pins σ H s) : ∀ {v : V} {d : PyData} {u : Value}, DpX H v d → RelV v u → ∃ as, Reads s.heap u d as ∧ ∀ a ∈ as, H a ≠ none
  | _, _, _, .non, r => by
    cases r
    exact ⟨_, .none, by simp⟩
  | _, _, _, .bl b, r => by
    cases r
    exact ⟨_, .bool b, by simp⟩
  | _, _, _, .int i, r => by
    obtain ⟨t, rfl⟩ := r
    exact ⟨_, .int i t, by simp⟩
  | _, _, _, .str x, r => by
    obtain ⟨t, rfl⟩ := r
    exact ⟨_, .str x t, by simp⟩
  | _, _, _, .lst h q, r => by
    cases r
    obtain ⟨its, rv, ⟨o, n, e1, e2, _, e3⟩, _⟩ := I.list (.inl h)
    obtain ⟨as, q1, q2⟩ := DpXs.reads I q rv
    exact ⟨_,   .list e1 e2 e3 (by simpa using q1), fun a ha => (List.mem_cons.mp ha).elim (fun e => e ▸ rd_has h) (q2 a)⟩
  | _, _, _, .tup h q, r => by
    cases r
    obtain ⟨its, rv, ⟨o, e1, e2, n, e3⟩, _⟩ := I.tuple (.inl h)
    obtain ⟨as, q1, q2⟩ := DpXs.reads I q rv
    exact ⟨_, .tuple e1 e2 e3 (by simpa using q1), q2⟩
  | _, _, _, .dK h q, r => by
    cases r
    obtain ⟨_, _, vs, kv, o, es, ep, e1, e2, e3, _, e4, _⟩ := dk_rd I.hok h
    obtain ⟨bs, q1, q2, q3⟩ := DpXk.reads I q kv e4
    exact ⟨_, .dict e1 e2.1 e3 q1 q2, fun a ha => by
      rcases List.mem_cons.mp ha with e | ha
      · exact e ▸ rd_has h
      · exact q3 a (by simpa using ha)⟩
theorem DpXs.reads (I : Inv X pins σ H s) : ∀ {vs : List V} {ds : List PyData} {us : List Value}, DpXs H vs ds → Vals vs us → ∃ as, ReadsAll s.heap us ds as ∧ ∀ a ∈ as, H a ≠ none
  | _, _, _, .nil, .nil => ⟨_, .nil, by simp⟩
  | _, _, _, .cons h t, .cons r rs => by
    obtain ⟨as, a1, a2⟩ := DpX.reads I h r
    obtain ⟨bs, b1, b2⟩ := DpXs.reads I t rs
    exact ⟨_, .cons a1 b1, fun a ha => (List.mem_append.mp ha).elim (a2 a) (b2 a)⟩
theorem DpXk.reads (I : Inv X pins σ H s) : ∀ {kvs : List (Key × V)} {ds : List (PyData × PyData)} {vs : List (Key × Value)} {es : List DictEntry}, DpXk H kvs ds → KV kvs vs → Pairs (mixKind X.prog X.w) es vs →
    ∃ bs, ReadsAll s.heap (es.map (·.key)) (ds.map (·.1)) [] ∧ ReadsAll s.heap (es.map (·.val)) (ds.map (·.2)) bs ∧ ∀ a ∈ bs, H a ≠ none
  | _, _, _, _, .nil, .nil, .nil => ⟨_, .nil, .nil, by simp⟩
  | _, _, _, _, .cons (k := k) h t, .cons (b := q) r rs, .cons (e := e) hk hv ps => by
    obtain ⟨bs, b1, b2, b3⟩ := DpXk.reads I t rs ps
    obtain ⟨as, a1, a2⟩ := DpX.reads I h r.2
    have key : Reads s.heap e.key (pK k) [] := by
      have hk' := hk
      rw [← r.1] at hk'
      rcases keyIs_shape hk' with ⟨i, t, e1, e2⟩ | ⟨x, t, e1, e2⟩
      · rw [e2, show k = .inl i from e1]; exact .int i t
      · rw [e2, show k = .inr x from e1]; exact .str x t
    exact ⟨_, .cons (as := []) key b1, .cons (show Reads s.heap e.val _ as from by rw [hv]; exact a1) b2, fun a ha => (List.mem_append.mp ha).elim (a2 a) (b3 a)⟩
end
end
def rReprX : List V → Hp → VK → Prop := fun vs H Q => ∃ (a : Addr) (d : PyData), vs = [.ref a] ∧ DpX H (.ref a) d ∧ d.showable = true ∧ d.depth ≤ 20 ∧ d.shown.length ≤ sizeLine ∧ Q (.str d.shown) H
theorem k_reprX {X : Cx} {K : PySem.W.Frag} {k : Nat} (hK : X.K = K) (hm : (List.lookup PySem.sysModules K).isSome = true) (hr : Room k X.A) (hg : X.A.guards = some []) : CallR X (.builtin "repr") rReprX := by
  subst hK
  intro pins s σ H vs us Q I r h
  obtain ⟨a, d, rfl, hd, h1, h3, h4, q⟩ := h
  obtain ⟨u, rfl, ru⟩ := r.one
  obtain ⟨as, rd, hn⟩ := hd.reads I ru
  cases ru
  have hu := hr.units
  obtain ⟨o, ho⟩ := Option.isSome_iff_exists.mp hm
  exact repr_of_reads' rd h1 (fun _ hs => hn _ hs (I.bs _ _ (I.mod.kin _ _ ho)).2) hg (by omega) (fun _ _ e => e) (fun h' t tk hk => ⟨.str _, H, I.kept (t' := tk) hk, ⟨_, rfl⟩, q⟩) h4
/-- shown, within bounds -/
structure ShW (d : D) (dp w : Nat) : Prop where
  sh : shX d = true
  sb : (toX d).showable = true
  lv : (toX d).leavesShort 8 = true
  dp : (toX d).depth ≤ dp
  bk : (toX d).bulk ≤ w
theorem shws_of {dp w : Nat} : ∀ {xs : List D}, (∀ x ∈ xs, ShW x dp w) → shXs xs = true ∧ PyData.showableAll (toXs xs) = true ∧ PyData.leavesShortAll 8 (toXs xs) = true ∧ PyData.depthAll (toXs xs) ≤ dp ∧ PyData.bulkAll (toXs xs) ≤ xs.length * (w + 1)
  | [], _ => by simp [shXs, toXs, PyData.showableAll, PyData.leavesShortAll, PyData.depthAll, PyData.bulkAll]
  | x :: xs, h => by
    obtain ⟨a1, a2, a3, a4, a5⟩ := h x List.mem_cons_self
    obtain ⟨b1, b2, b3, b4, b5⟩ := shws_of fun y hy => h y (List.mem_cons_of_mem _ hy)
    refine ⟨by simp [shXs, a1, b1], by simp [toXs, PyData.showableAll, a2, b2], by simp [toXs, PyData.leavesShortAll, a3, b3], by simp only [toXs, PyData.depthAll]; omega, ?_⟩
    simp only [toXs, PyData.bulkAll, List.length_cons, Nat.add_mul, Nat.one_mul]
    omega
theorem ShW.lst {dp w m : Nat} {xs : List D} (h : ∀ x ∈ xs, ShW x dp w) (hm : xs.length * (w + 1) ≤ m) : ShW (.lst xs) (dp + 1) m := by
  obtain ⟨b1, b2, b3, b4, b5⟩ := shws_of h
  exact ⟨by simpa [shX] using b1, by simpa [toX, PyData.showable] using b2, by simpa [toX, PyData.leavesShort] using b3, by simp only [toX, PyData.depth]; omega, by simp only [toX, PyData.bulk]; omega⟩
theorem ShW.tup {dp w m : Nat} {xs : List D} (h : ∀ x ∈ xs, ShW x dp w) (hm : xs.length * (w + 1) ≤ m) : ShW (.tup xs) (dp + 1) m := by
  obtain ⟨b1, b2, b3, b4, b5⟩ := shws_of h
  exact ⟨by simpa [shX] using b1, by simpa [toX, PyData.showable] using b2, by simpa [toX, PyData.leavesShort] using b3, by simp only [toX, PyData.depth]; omega, by simp only [toX, PyData.bulk]; omega⟩
def shK (x : Str) : Bool := PyData.strOk x && decide (x.cps.size ≤ 30)
theorem shwk_of {dp w : Nat} : ∀ {kvs : List (Key × D)}, (∀ p ∈ kvs, ShW p.2 dp w ∧ ∃ x, p.1 = .inr x ∧ shK x = true) → shXk kvs = true ∧ PyData.showableKv (toXk kvs) = true ∧ PyData.leavesShortKv 8 (toXk kvs) = true ∧ PyData.depthKv (toXk kvs) ≤ dp ∧ PyData.bulkKv (toXk kvs) ≤ kvs.length * (w + 32)
  | [], _ => by simp [shXk, toXk, PyData.showableKv, PyData.leavesShortKv, PyData.depthKv, PyData.bulkKv]
  | (k, d) :: kvs, h => by
    obtain ⟨⟨a1, a2, a3, a4, a5⟩, x, hx, ok⟩ := h _ List.mem_cons_self
    obtain ⟨b1, b2, b3, b4, b5⟩ := shwk_of fun y hy => h y (List.mem_cons_of_mem _ hy)
    dsimp only at a1 a2 a3 a4 a5 hx
    subst hx
    unfold shK at ok
    simp only [Bool.and_eq_true, decide_eq_true_eq] at ok
    have lk : PyData.leavesShort 8 (.str x) = true := by
      simp only [PyData.leavesShort, List.all_eq_true, decide_eq_true_eq]
      intro c hc
      have h1 := ok.1
      unfold PyData.strOk at h1
      rw [Array.all_eq_true'] at h1
      have h2 := of_decide_eq_true (h1 c (by simpa using hc))
      have : (0x110000 : Nat) < 16 ^ 8 := by decide
      omega
    refine ⟨by simp [shXk, a1, b1], by simp [toXk, pK, PyData.showableKv, PyData.showable, a2, b2], by simp [toXk, pK, PyData.leavesShortKv, lk, a3, b3], by simp only [toXk, pK, PyData.depthKv, PyData.depth]; omega, ?_⟩
    simp only [toXk, pK, PyData.bulkKv, PyData.bulk, List.length_cons, Nat.add_mul, Nat.one_mul]
    omega
theorem ShW.dK {dp w m : Nat} {kvs : List (Key × D)} (h : ∀ p ∈ kvs, ShW p.2 dp w ∧ ∃ x, p.1 = .inr x ∧ shK x = true) (hm : kvs.length * (w + 32) ≤ m) : ShW (.dK kvs) (dp + 1) m := by
  obtain ⟨b1, b2, b3, b4, b5⟩ := shwk_of h
  exact ⟨by simpa [shX] using b1, by simpa [toX, PyData.showable] using b2, by simpa [toX, PyData.leavesShort] using b3, by simp only [toX, PyData.depth]; omega, by simp only [toX, PyData.bulk]; omega⟩
theorem ShW.up {d : D} {dp w dp' w' : Nat} (h : ShW d dp w) (h1 : dp ≤ dp') (h2 : w ≤ w') : ShW d dp' w' := ⟨h.sh, h.sb, h.lv, Nat.le_trans h.dp h1, Nat.le_trans h.bk h2⟩
def refD : D → Bool
  | .lst _ => true
  | .tup _ => true
  | .dK _ => true
  | _ => false
theorem rl_reprD {d : D} (h : ShW d 20 (2 ^ 20)) (hr : refD d = true) : RLD rReprX [d] (.str (toX d).shown) := fun Z H vs Q k r q => by
  cases r with
  | cons r r' =>
    cases r'
    have hq := dpx_of r h.sh
    have hz := PyData.shown_fits_bulk (B := 8) (by decide) (by decide) h.lv h.bk
    cases r <;> first | exact ⟨_, _, rfl, hq, h.sb, h.dp, hz, q _ H (Ex.rf H) (.str _)⟩ | cases hr
end Du
namespace Du
open PySem L2 PySem.Spec PyProof.Rows LamX
/-! defs that raise an error without fields -/
def spX (R : List D → Prop) (CU : Addr) : Sp := fun vs H _ E => ∃ (Z : Addr → Prop) (ds : List D), okZ Z H ∧ Reps Z H vs ds ∧ R ds ∧ ∀ H', Ex H H' → E (.ref CU) none H'
/-- the __init__ of such an error -/
def spIn (C : Addr) : Sp := fun vs H Q _ => ∃ a : Addr, vs = [.ref a] ∧ H a = some (exo a C none) ∧ Q .non H
section
variable (P : Program) (w : World) (K : PySem.W.Frag) (mg : Str → Option Value) (base : Heap) (k : Nat) (C : Addr)
structure MetX (m : Str) (sp : Sp) : Prop where
  ex : ∃ (f : Addr) (fd : FuncData) (ps : List Str), Cls K C ∧ Meth K C m f ∧ FnOk P w K mg base (L2.CX P w) k f fd ps sp ∧ L2.Binds K fd ps []
structure OBinX (op : Operator) (sp : Sp) : Prop where
  ex : ∃ g, PySem.W.selfFirst K C = true ∧ PySem.W.findIn K (.ref C) (PySem.dunder op.info.2) = some (some (.ref g)) ∧ PySem.W.isFn K (.ref g) = true ∧ FnR P w K mg base (L2.CX P w) k g sp
structure OCmpX (op : CmpOp) (sp : Sp) : Prop where
  ex : ∃ g, PySem.W.notFirst K C (.ref C) = true ∧ PySem.W.findIn K (.ref C) (cmpInfo op).2.1 = some (some (.ref g)) ∧ PySem.W.isFn K (.ref g) = true ∧ FnR P w K mg base (L2.CX P w) k g sp
/-- an error class without fields: its __init__ keeps spIn -/
structure ErrN (x : Str) : Prop where
  oex : OexC K C
  g : mg x = some (.ref C)
  ex : PySem.W.exmOne K (.ref C) (.ref C) = some true
  init : ∃ (f : Addr) (fd : FuncData), PySem.W.findIn K (.ref C) "__init__" = some (some (.ref f)) ∧ PySem.W.typeIn K (.ref f) = some (.type "function") ∧ FnOk P w K mg base L2.CX0 k f fd ["self"] (spIn C) ∧ L2.Binds K fd ["self"] []
end
section
variable {X : Cx} {E : XK} {k j : Nat} {C : Addr} {sp : Sp} {o e : Expr} {es : List Expr} {m x : Str} {p pos apos : Pos} {ta : TE} {t : TA} {pl : Sem Bool}
end
section
end
/-! in data -/
def RaE (te : TE) (ρ : Rho) (CU : Addr) (E : XK) : Prop := ∀ (Z : Addr → Prop) (σ : L2.St) (H : Hp) (Q : VK), okZ Z H → SRep Z H σ ρ → (∀ H', Ex H H' → E (.ref CU) none H') → te σ H Q
def RaS (ts : TS) (ρ : Rho) (CU : Addr) (E : XK) : Prop := ∀ (Z : Addr → Prop) (σ : L2.St) (H : Hp) (D : Ends), okZ Z H → SRep Z H σ ρ → (∀ H', Ex H H' → E (.ref CU) none H') → ts D σ H
section
variable {ρ : Rho} {CU C : Addr} {E : XK} {te ta tb : TE} {ts us : TS} {R : List D → Prop} {d e : D}
end
/-! a def that makes lambdas: its code object is known -/
structure FunC (K : PySem.W.Frag) (x qual : Str) (st : Stmt) (f : Addr) (fd : FuncData) (c : Addr) : Prop where
  ex : ∃ (oc : Value) (od : Option Addr) (kV doc pm : Value) (an : Option Addr) (ct : Value) (osl : Array (Option Value)),
    fd = PySem.W.fnOf x qual (defArgs st) (defBody st) (defScope st) .none kV doc pm an (.ref c) ct ∧ K.lookup f = some ⟨oc, od, .func fd, osl⟩ ∧ PySem.W.codeIn K (.ref c) qual = true
end Du
namespace Du
open PySem L2 PySem.Spec PyProof.Rows LamX
/-! several clauses 'except x as n' -/
def asEnds (i : Nat) (D : Ends) : Ends := { nx := fun σ' H' => D.nx (σ'.set i none) H', rt := D.rt, bk := fun σ' H' => D.bk (σ'.set i none) H', ct := fun σ' H' => D.ct (σ'.set i none) H' }
def wManyAs (K : PySem.W.Frag) (i : Nat) (Wout : WX) (D : Ends) : List (Value × (Addr → Value → Option Addr → TS)) → WX
  | [] => Wout
  | (c, ts) :: r => fun cls d σ H => ∃ b, PySem.W.exmOne K cls c = some b ∧ (b = true → i < σ.length → ∀ a, H a = none → ts a cls d (asEnds i D) (σ.set i (some (.ref a))) H) ∧ (b = false → wManyAs K i Wout D r cls d σ H)
inductive HdsAs (X : Cx) (n : Str) : List ExceptHandler → List (Value × (Addr → Value → Option Addr → TS)) → Prop
  | nil : HdsAs X n [] []
  | cons {x : Str} {c : Value} {ts : Addr → Value → Option Addr → TS} {b₀ : Stmt} {suite : List Stmt} {np pos' : Pos} {hds : List ExceptHandler} {l : List (Value × (Addr → Value → Option Addr → TS))} (hc : Names X x c)
      (hsu : ∀ (a : Addr) (oe : Obj) (cls : Value) (d : Option Addr) (pn : List (Addr × Obj)), Zc cls d oe → (∃ vs, oe.data = .fields vs) → PSs (X.suite a ((a, oe) :: pn)) (b₀ :: suite) (ts a cls d)) (r : HdsAs X n hds l) :
      HdsAs X n (.ExceptHandler (some (.Name x np)) (some n) (b₀ :: suite) pos' :: hds) ((c, ts) :: l)
section
variable {X : Cx} {n : Str} {i : Nat} {body : List Stmt} {h₀ : ExceptHandler} {hds : List ExceptHandler} {l : List (Value × (Addr → Value → Option Addr → TS))} {pos : Pos} {tb : WX → TS} {Wout : WX}
end
end Du
namespace Du
open PySem L2 PySem.Spec PyProof.Rows LamX
/-! errors that bear one field -/
def spInF (C : Addr) (f : Str) : Sp := fun vs H Q _ => ∃ (a : Addr) (v : V), vs = [.ref a, v] ∧ H a = some (exo a C none) ∧ ∀ dx, H dx = none → dx ≠ a → Q .non (upd (upd H dx (exd dx [(f, v)])) a (exo a C (some dx)))
section
variable (P : Program) (w : World) (K : PySem.W.Frag) (mg : Str → Option Value) (base : Heap) (k : Nat) (C : Addr)
structure ErrF (x f : Str) : Prop where
  oex : OexC K C
  g : mg x = some (.ref C)
  xf : XfC K C
  no : PySem.W.findIn K (.ref C) f = some none
  init : ∃ (fa : Addr) (fd : FuncData) (ps : List Str), PySem.W.findIn K (.ref C) "__init__" = some (some (.ref fa)) ∧ PySem.W.typeIn K (.ref fa) = some (.type "function") ∧ FnOk P w K mg base L2.CX0 k fa fd ps (spInF C f) ∧ L2.Binds K fd ps []
structure CalX (x : Str) (sp : Sp) : Prop where
  ex : ∃ (f : Addr) (fd : FuncData) (ps : List Str), FnOk P w K mg base (L2.CX P w) k f fd ps sp ∧ mg x = some (.ref f) ∧ PySem.W.keepIn K (.ref f) = true ∧ L2.Binds K fd ps []
structure OSmX (m : Str) (sp : Sp) : Prop where
  ex : ∃ mc p g, ClX.CRead K C mc ∧ SMet K C mc m p g ∧ FnR P w K mg base (L2.CX P w) k g sp
end
section
variable {X : Cx} {E : XK} {k j : Nat} {C : Addr} {sp : Sp} {o e : Expr} {es : List Expr} {m x f : Str} {p pos apos : Pos} {te : TE} {ta : TE} {t : TA} {pl : Sem Bool}
end
section
variable {X : Cx} {A : Around} {outer : List Env} {s : Shared} {H : Hp} {E : XK} {scope : Scope} {fz c' : Addr} {k j : Nat} {C : Addr} {sp : Sp} {o e : Expr} {es : List Expr} {m : Str} {pos apos : Pos} {ta : TE} {t : TA} {pl : Sem Bool}
end
/-! in data: told, or an error that bears one datum -/
abbrev ErK := Addr → Str → D → Mu → Prop
def XGo (E : XK) (Ψ : ErK) (Z : Addr → Prop) (H : Hp) (μ : Mu) : Prop := ∀ (Z' : Addr → Prop) (H' : Hp) (dx : Addr) (v : V) (C : Addr) (f : Str) (d : D) (μ' : Mu), Ψ C f d μ' → Nz Z H μ Z' H' μ' → H' dx = some (.xd [(f, v)]) → Rep Z' H' v d → E (.ref C) (some dx) H'
theorem XGo.tr {E : XK} {Ψ : ErK} {Z Z1 : Addr → Prop} {H H1 : Hp} {μ μ1 : Mu} (x : XGo E Ψ Z H μ) (n : Nz Z H μ Z1 H1 μ1) : XGo E Ψ Z1 H1 μ1 := fun Z' H' dx v C f d μ' h n' => x Z' H' dx v C f d μ' h (n.tr n')
theorem XGo.imp {E : XK} {Ψ Ψ' : ErK} {Z : Addr → Prop} {H : Hp} {μ : Mu} (x : XGo E Ψ Z H μ) (h : ∀ C f d μ', Ψ' C f d μ' → Ψ C f d μ') : XGo E Ψ' Z H μ := fun Z' H' dx v C f d μ' hh => x Z' H' dx v C f d μ' (h _ _ _ _ hh)
def GEX (te : TE) (ρ : Rho) (μ : Mu) (Φ : D → Mu → Prop) (Ψ : ErK) (E : XK) : Prop := ∀ (Z : Addr → Prop) (σ : L2.St) (H : Hp) (Q : VK), okZ Z H → SRep Z H σ ρ → Mem Z H μ → (∀ v H' d μ', Φ d μ' → Nxt Z H μ H' μ' → Rep Z H' v d → Q v H') → XGo E Ψ Z H μ → te σ H Q
def GSX (ts : TS) (ρ : Rho) (μ : Mu) (N : Rho → Mu → Prop) (R : D → Mu → Prop) (Ψ : ErK) (E : XK) : Prop := ∀ (Z : Addr → Prop) (σ : L2.St) (H : Hp) (D : Ends), okZ Z H → SRep Z H σ ρ → Mem Z H μ →
  (∀ σ' H' ρ' μ' Z', N ρ' μ' → Nz Z H μ Z' H' μ' → SRep Z' H' σ' ρ' → D.nx σ' H') → (∀ v H' d μ' Z', R d μ' → Nz Z H μ Z' H' μ' → Rep Z' H' v d → D.rt v H') → XGo E Ψ Z H μ → ts D σ H
/-- what a def answers: a datum, or an error with a datum -/
def spF (R : List D → D → Prop) (Rx : List D → Addr → Str → D → Prop) : Sp := fun vs H Q E => ∃ (Z : Addr → Prop) (ds : List D), okZ Z H ∧ Reps Z H vs ds ∧
  ((∃ d, R ds d ∧ ∀ v H', Ex H H' → Rep Z H' v d → Q v H') ∨ ∃ C f d, Rx ds C f d ∧ ∀ H' dx v, Ex H H' → H' dx = some (.xd [(f, v)]) → Rep Z H' v d → E (.ref C) (some dx) H')
def spXF (Rx : List D → Addr → Str → D → Prop) : Sp := fun vs H Q E => ∃ (Z : Addr → Prop) (ds : List D), okZ Z H ∧ Reps Z H vs ds ∧ ∃ C f d, Rx ds C f d ∧ ∀ H' dx v, Ex H H' → H' dx = some (.xd [(f, v)]) → Rep Z H' v d → E (.ref C) (some dx) H'
section
variable {ρ : Rho} {μ : Mu} {Φ : D → Mu → Prop} {Ψ : ErK} {E : XK} {te ta tb : TE} {ts us : TS} {N : Rho → Mu → Prop} {R : D → Mu → Prop} {C : Addr} {f : Str}
theorem GEX.mono {Φ' : D → Mu → Prop} (h : GEX te ρ μ Φ Ψ E) (hp : ∀ d μ, Φ d μ → Φ' d μ) : GEX te ρ μ Φ' Ψ E := fun Z σ H Q k s m c x => h Z σ H Q k s m (fun v H' d μ' q => c v H' d μ' (hp _ _ q)) x
section
variable {R0 : List D → D → Prop} {Rx : List D → Addr → Str → D → Prop} {t : TA}
end
end
/-! defs -/
section
variable {P : Program} {w : World} {K : PySem.W.Frag} {mg : Str → Option Value} {base : Heap} {x qual : Str} {stm : Stmt} {fa : Addr} {fd : FuncData} {N ps : List Str} {k : Nat} {R : List D → D → Prop} {Rx : List D → Addr → Str → D → Prop}
end
/-! f(lambda: ..), where f hands back what was borne by the error -/
def HsT (K : PySem.W.Frag) : List (Addr × Str × Str) → Value → Option Addr → Hp → VK → Prop
  | [], _, _, _, _ => False
  | (C, f, tag) :: l, cls, d, H, Q => ∃ b, PySem.W.exmOne K cls (.ref C) = some b ∧ (b = true → cls = .ref C ∧ ∃ dd fs v, d = some dd ∧ H dd = some (.xd fs) ∧ fs.lookup f = some v ∧ ∀ p, H p = none → Q (.ref p) (upd H p (.tup [.str tag, v]))) ∧ (b = false → HsT K l cls d H Q)
def TTr (K : PySem.W.Frag) (l : List (Addr × Str × Str)) (told : Str) (z : Int) : (XK → Hp → VK → Prop) → Hp → VK → Prop := fun tl H Q =>
  tl (fun cls d H' => HsT K l cls d H' Q) H fun _ H' => [V.str told, V.int z].length ≤ sizeLine ∧ ∀ p, H' p = none → Q (.ref p) (upd H' p (.tup [.str told, .int z]))
def tsC (i : Nat) (c : Addr × Str × Str) : Addr → Value → Option Addr → TS := fun a cls d => tRet (tTup (tCons (tC (.str c.2.2)) (tCons (tXf a cls d c.1 c.2.1 (tVar i)) tNil)))
/-- the clause that takes errors of the class C is this one -/
def Hits (K : PySem.W.Frag) : List (Addr × Str × Str) → Addr → Str → Str → Prop
  | [], _, _, _ => False
  | (C', f', tag') :: l, C, f, tag => (C' = C ∧ f' = f ∧ tag' = tag ∧ PySem.W.exmOne K (.ref C) (.ref C) = some true) ∨ (PySem.W.exmOne K (.ref C) (.ref C') = some false ∧ Hits K l C f tag)
end Du
/-! an error of a class of the program, made by a keyword: the model's side -/
namespace Du
open PySem PySem.HandSPX
open Builtin Builtin.ObjectAttr
section
variable {M : Model} {A : Around} {E : Value → Shared → Prop} {h : Heap} {g : Array GenState} {d : Drawn} {t : Nat} {os : OsState}
variable {nm q : Str} {C N : Addr} {bs bm bmB : List Value} {hdct : Bool} {sn : List Str} {sub : List Value} {ab : Bool} {col : Option Bool} {dd : Option Addr} {k0 k1 k2 k3 k5 : Option Value} {B newId initId : String} {kw : List (Str × Value)}
theorem kw_checkNew (F : ExcBaseFacts B newId initId bmB) (hT : ∀ X : String, bm.contains (.type X) = bmB.contains (.type X)) {Q : Unit → Shared → Prop}
    (hC : h.get? C = some (excClassObj nm q C N bs bm hdct sn sub ab col dd k0 k1 k2 k3 k5 newId)) (hq : Q () ⟨h, g, d, t, os⟩) : wpAny M A (checkBuiltinCall newId ⟨[.ref C], kw⟩) Q E ⟨h, g, d, t, os⟩ := by
  have c1 : (Value.ref C :: bm).contains (.type B) = true := by rw [List.contains_cons, hT, F.hasB, Bool.or_true]
  have c2 := F.noStar
  simp only [checkBuiltinCall, F.newKind, F.newSplit, F.newRow]
  repeat (first | refine wpAny_loadPart_at hC ?_ | (refine wpAny_isSubtype_exc hC ?_; rw [c1]) | refine wpAny_staticBase_exc hC ?_ | refine wpAny_madeBy_exc hC ?_ | simp only [bne_self_eq_false, Bool.false_eq_true, if_false] | wp_step)
  exact hq
end
section
variable {prog : Program} {w : World} {A : Around} {E : Value → Shared → Prop} {R : Result → Shared → Prop} {h : Heap} {g : Array GenState} {d : Drawn} {t : Nat} {os : OsState}
variable {nm q : Str} {C N : Addr} {bs bm bmB : List Value} {hdct : Bool} {sn : List Str} {sub : List Value} {ab : Bool} {col : Option Bool} {dd : Option Addr} {k0 k1 k2 k3 k5 : Option Value} {B newId initId : String} {kw : List (Str × Value)}
theorem kw_new (F : ExcBaseFacts B newId initId bmB) (hT : ∀ X : String, bm.contains (.type X) = bmB.contains (.type X))
    (hC : h.get? C = some (excClassObj nm q C N bs bm hdct sn sub ab col dd k0 k1 k2 k3 k5 newId))
    (hq : R (.ok (.ret (.ref (h.objs.size + 1)))) ⟨(h.push (W.kdv_tup [])).push (excO C h.objs.size), g, d, t, os⟩) :
    codeAny (model prog w) A (.builtin newId ⟨[.ref C], kw⟩) R ⟨h, g, d, t, os⟩ := by
  have hends := F.ends
  have c1 : (Value.ref C :: bm).contains (.type B) = true := by rw [List.contains_cons, hT, F.hasB, Bool.or_true]
  have c2 : (Value.ref C :: bm).contains (.type "AttributeError") = false := by rw [List.contains_cons, hT, F.noAttr]; rfl
  have c3 : (Value.ref C :: bm).contains (.type "NameError") = false := by rw [List.contains_cons, hT, F.noName]; rfl
  refine codeAny_builtinAt F.entry ?_
  unfold Builtin.«BaseException.__new__»
  refine wpAt_bind ?_
  show wpAt _ _ _ (stack >>= _) _ _ _
  refine wpAt_bind (wpAt_stack fun p below => wpAt_of_wpAny ?_)
  wp_walk
  refine wpAt_of_wpAny ?_
  rw [F.owner]
  repeat (first | with_reducible refine wpAny_madeHere_exc F.canon hC ?_ | with_reducible refine wpAny_loadPart_at hC ?_ | (with_reducible refine wpAny_isSubtype_exc hC ?_; first | rw [c1] | rw [c2] | rw [c3]) | wp_step)
  show R _ _
  rw [Heap.size_push]
  exact hq
theorem kw_typeCall (F : ExcBaseFacts B newId initId bmB) (hT : ∀ X : String, bm.contains (.type X) = bmB.contains (.type X)) {fI : Addr} {Q : PySem.Fin → Shared → Prop}
    (hC : h.get? C = some (excClassObj nm q C N bs bm hdct sn sub ab col dd k0 k1 k2 k3 k5 newId))
    (hi : W.Looks (model prog w) h (typeLookup (.ref C) "__init__") (some (.ref fI))) (hb : ∀ self, W.Looks (model prog w) h (bindSpecial (.ref fI) self) (.ref fI, [self]))
    (hq : codeAny (model prog w) A (.call (.ref fI) ⟨[.ref (h.objs.size + 1)], kw⟩)
      (fun r s' => match r with | .ok (.ret v) => v = .none ∧ Q (.done (.ret (.ref (h.objs.size + 1)))) s' | .ok _ => False | .error e => E e s')
      ⟨(h.push (W.kdv_tup [])).push (excO C h.objs.size), g, d, t, os⟩) :
    wpAny (model prog w) A (Builtin.«type.__call__» ⟨[.ref C], kw⟩) Q E ⟨h, g, d, t, os⟩ := by
  repeat (first | with_reducible refine wpAny_loadPart_at hC ?_ | with_reducible refine wpAny_madeBy_exc hC ?_ | wp_step)
  refine codeAny_call_builtin_code (Code.quiet_builtin _ F.quiet) (kw_checkNew F hT hC ?_)
  refine kw_new F hT hC ?_
  show wpAny _ _ _ _ _ _
  have kk : ∀ b o, h.get? b = some o → ((h.push (W.kdv_tup [])).push (excO C h.objs.size)).get? b = some o := fun b o e => Heap.get?_push_of_some _ (Heap.get?_push_of_some _ e)
  have h1 := kk _ _ hC
  have h2 : ((h.push (W.kdv_tup [])).push (excO C h.objs.size)).get? (h.objs.size + 1) = some (excO C h.objs.size) := by heap_get
  have c1 : (Value.ref C :: bm).contains (.ref C) = true := by simp
  have i1 := hi.keeps kk
  have b1 := (hb (.ref (h.objs.size + 1))).keeps kk
  unfold isInstance
  repeat (first | with_reducible refine wpAny_loadPart_at h2 ?_ | (with_reducible refine wpAny_isSubtype_exc h1 ?_; rw [c1]) | wp_step)
  show wpAny _ _ (typeLookup (.ref C) _) _ _ _
  refine i1.at ?_
  refine wpAny_holding (wpAny_bind (b1.at ?_))
  refine wpAny_bind (wpAny_call (codeAny_mono hq fun r s' z => ?_))
  rcases r with e | (v | _ | _ | _) <;> first | exact z | exact z.elim | skip
  obtain ⟨rfl, z⟩ := z
  first
    | exact wpAny_pure (wpAny_pure z)
    | (wp_walk; exact z)
theorem kw_checkCall {M : Model} {Q : Unit → Shared → Prop} (hC : h.get? C = some (excClassObj nm q C N bs bm hdct sn sub ab col dd k0 k1 k2 k3 k5 newId))
    (hq : Q () ⟨h, g, d, t, os⟩) : wpAny M A (checkBuiltinCall "type.__call__" ⟨[.ref C], kw⟩) Q E ⟨h, g, d, t, os⟩ := by
  have f3 := tc_sub
  have hT : (⟨h, g, d, t, os⟩ : Shared).TypeIs (.ref C) "type" := ⟨_, hC, rfl⟩
  simp only [checkBuiltinCall, tc_kind, tc_split]
  repeat (any_goals (first | assumption | with_reducible refine wpAny_loadPart_at hC ?_ | with_reducible refine wpAny_onRaise ?_ | with_reducible refine wpAny_map ?_ | wp_step))
theorem kw_call (F : ExcBaseFacts B newId initId bmB) (hT : ∀ X : String, bm.contains (.type X) = bmB.contains (.type X)) {fI : Addr}
    (hC : h.get? C = some (excClassObj nm q C N bs bm hdct sn sub ab col dd k0 k1 k2 k3 k5 newId))
    (hi : W.Looks (model prog w) h (typeLookup (.ref C) "__init__") (some (.ref fI))) (hb : ∀ self, W.Looks (model prog w) h (bindSpecial (.ref fI) self) (.ref fI, [self]))
    (hq : codeAny (model prog w) (A.under (.builtin "type.__call__" ⟨[.ref C], kw⟩)) (.call (.ref fI) ⟨[.ref (h.objs.size + 1)], kw⟩) (W.InitBack (h.objs.size + 1) R)
      ⟨(h.push (W.kdv_tup [])).push (excO C h.objs.size), g, d, t, os⟩) :
    codeAny (model prog w) A (.call (.ref C) ⟨[], kw⟩) R ⟨h, g, d, t, os⟩ := by
  have f1 := tc_lookup
  have f2 := tc_bind (.ref C)
  have hTy : (⟨h, g, d, t, os⟩ : Shared).TypeIs (.ref C) "type" := ⟨_, hC, rfl⟩
  refine codeAny_of_tree ?_
  show wpAny _ _ (callAny (.ref C) _) _ _ _
  repeat (any_goals (first | assumption | with_reducible refine wpAny_loadPart_at hC ?_ | wp_step))
  refine ⟨rfl, ?_⟩
  refine codeAny_call_builtin_at (Code.quiet_builtin _ (by decide +kernel)) entry_typeCall (kw_checkCall hC (kw_typeCall F hT hC hi hb ?_))
  refine codeAny_mono hq fun r s' z => ?_
  rcases r with e | (v | _ | _ | _) <;> exact z
end
end Du
/-! errors as data: made, looked at, asked for their class -/
namespace Du
open PySem L2 PySem.Spec PyProof.Rows
/-- C(e) | C(f = e): an error with one field -/
def tErr (C : Addr) (f : Str) (t : TA) : TE := fun σ H Q => t σ H fun vs H1 => ∃ v, vs = [v] ∧ ∀ a dx, H1 a = none → H1 dx = none → dx ≠ a → Q (.ref a) (upd (upd (upd H1 a (exo a C none)) dx (exd dx [(f, v)])) a (exo a C (some dx)))
/-- C(): an error without fields -/
def tErr0 (C : Addr) : TE := fun _ H Q => ∀ a, H a = none → Q (.ref a) (upd H a (exo a C none))
section
variable (P : Program) (w : World) (K : PySem.W.Frag) (mg : Str → Option Value) (base : Heap) (k : Nat) (C : Addr)
/-- a class of errors with one field f, made by place and by name -/
structure ErrG (x f : Str) : Prop where
  oex : OexC K C
  g : mg x = some (.ref C)
  xf : XfC K C
  no : PySem.W.findIn K (.ref C) f = some none
  init : ∃ (fa : Addr) (fd : FuncData), PySem.W.findIn K (.ref C) "__init__" = some (some (.ref fa)) ∧ PySem.W.typeIn K (.ref fa) = some (.type "function") ∧ FnOk P w K mg base L2.CX0 k fa fd ["self", f] (spInF C f) ∧ L2.Binds K fd ["self", f] [] ∧ ∀ (s : Shared) (u w : Value), K.In s.heap → BindsTo s fd ⟨[u], [(f, w)]⟩ [("self", u), (f, w)]
/-- .. without fields -/
structure ErrZ (x : Str) : Prop where
  oex : OexC K C
  g : mg x = some (.ref C)
  xf : XfC K C
  init : ∃ (fa : Addr) (fd : FuncData), PySem.W.findIn K (.ref C) "__init__" = some (some (.ref fa)) ∧ PySem.W.typeIn K (.ref fa) = some (.type "function") ∧ FnOk P w K mg base L2.CX0 k fa fd ["self"] (spIn C) ∧ L2.Binds K fd ["self"] []
end
section
variable {X : Cx} {k j : Nat} {C : Addr} {x f : Str} {e : Expr} {t : TA} {te : TE} {p pos kpos : Pos}
theorem pe_err (c : ErrG X.prog X.w X.K X.mg X.base k C x f) (hr : Room j X.A) (hk : k + 1 ≤ j) (hg : Gl X x) (he : PE X e te) (hdb : (x == ("__debug__" : Str)) = false := by decide)
    (hs : starEach [e] X.env = (false, eval e X.env) :: starEach [] X.env := by rfl) (hpl : (backTo pos (starEach [] X.env)).any (·.1) = false := by rfl) :
    PE X (.Call (.Name x p) [e] [] pos) (tErr C f (tCons te tNil)) := by
  obtain ⟨fa, fd, iC, tI, F1, b, _⟩ := c.init
  obtain ⟨nm, q, N, bs, bm, sn, sub, ab, col, dd, k0, k1, k2, k3, k5, hC, hbm⟩ := c.oex.cls
  refine ⟨fun pins s σ H Q I h => ?_⟩
  refine wpAny_Call_Name_kw (ld_glob I hg c.g ?_ hdb)
  refine PySem.W.callWith_K (h₀ := X.base) I.ok.mod.kin c.oex.kC (thn ((pa_cons he pa_nil hs).run pos pins s σ H _ I h) fun us s1 ⟨vs, H1, I1, r1, v, ev, q1⟩ => ⟨I1.kIn, ?_⟩) hs hpl
  subst ev
  show wpAny _ _ (call (.ref C) us) _ _ _
  obtain ⟨hp, g, dr, tk, os⟩ := s1
  have nn : H1 (hp.objs.size + 1) = none := I1.hok.fresh (Nat.le_succ _)
  have hq : spInF C f [.ref (hp.objs.size + 1), v] (upd H1 (hp.objs.size + 1) (exo (hp.objs.size + 1) C none)) (fun v H2 => v = .non ∧ Q (.ref (hp.objs.size + 1)) H2) (fun _ _ _ => False) :=
    ⟨_, v, rfl, upd_same, fun dx h1 h2 => ⟨rfl, q1 _ dx nn (by rwa [upd_ne h2] at h1) h2⟩⟩
  have kk : ∀ b o, hp.get? b = some o → ((hp.push (PySem.W.kdv_tup us)).push (PySem.HandSPX.excO C hp.objs.size)).get? b = some o := fun b o e => Heap.get?_push_of_some _ (Heap.get?_push_of_some _ e)
  have hget : ((hp.push (PySem.W.kdv_tup us)).push (PySem.HandSPX.excO C hp.objs.size)).get? (hp.objs.size + 1) = some (PySem.HandSPX.excO C hp.objs.size) := by heap_get
  have I2 : Inv X pins σ (upd H1 (hp.objs.size + 1) (exo (hp.objs.size + 1) C none)) ⟨(hp.push (PySem.W.kdv_tup us)).push (PySem.HandSPX.excO C hp.objs.size), g, dr, tk, os⟩ :=
    I1.laid (t' := tk) (a := hp.objs.size + 1) (o := exo (hp.objs.size + 1) C none) (h' := (hp.push (PySem.W.kdv_tup us)).push (PySem.HandSPX.excO C hp.objs.size)) kk (Nat.le_succ _) (exo_ok hget)
  have r2 : Vals [V.ref (hp.objs.size + 1), v] (Value.ref (hp.objs.size + 1) :: us) := .cons rfl r1
  have hl : us.length = 1 := (Paired.length r1).symm
  refine wpAny_call (PySem.HandSPX.call_own F.excBase_ValueError (fun Y => PySem.HandSPX.refsVE_contains Y bm hbm) (I1.kIn _ _ hC) (PySem.W.looks_findIn I1.kIn iC) (fun self => PySem.W.bind_fn I1.kIn self tI) (by rw [hl, sizeLine_eq]; omega)
    (codeAny_mono (F1.run _ X.stack _ _ ⟨Value.ref (hp.objs.size + 1) :: us, []⟩ (Value.ref (hp.objs.size + 1) :: us) _ _ (fun _ _ _ => False) ((hr.mono hk).make C us []) (I2.env0.make C us []) (by have := b _ (Value.ref (hp.objs.size + 1) :: us) I2.kIn (by simp [hl]); rwa [List.append_nil] at this) r2 hq) fun r s' hq' => ?_))
  cases r with
  | error er => exact False.elim hq'
  | ok fl =>
    cases fl with
    | ret u =>
      obtain ⟨v', H', I3, rv, ev, q3⟩ := I2.after hq'
      subst ev
      exact ⟨rv, ⟨V.ref (hp.objs.size + 1), H', I3, rfl, q3⟩⟩
    | next => exact False.elim hq'
    | brk => exact False.elim hq'
    | cont => exact False.elim hq'
theorem pe_errK (c : ErrG X.prog X.w X.K X.mg X.base k C x f) (hr : Room j X.A) (hk : k + 1 ≤ j) (hg : Gl X x) (he : PE X e te) (hdb : (x == ("__debug__" : Str)) = false := by decide)
    (hall : (backToKw pos (keywordEach [⟨some f, e, kpos⟩] X.env)).all (·.1.isSome) = true := by rfl) (hks : (backToKw pos (keywordEach [⟨some f, e, kpos⟩] X.env)).filterMap (·.1) = [f] := by rfl)
    (hpl : ((backTo pos (starEach [] X.env)).any (·.1) || (backToKw pos (keywordEach [⟨some f, e, kpos⟩] X.env)).any (·.1.isNone)) = false := by rfl) :
    PE X (.Call (.Name x p) [] [⟨some f, e, kpos⟩] pos) (tErr C f (tCons te tNil)) := by
  obtain ⟨fa, fd, iC, tI, F1, _, b⟩ := c.init
  obtain ⟨nm, q, N, bs, bm, sn, sub, ab, col, dd, k0, k1, k2, k3, k5, hC, hbm⟩ := c.oex.cls
  refine ⟨fun pins s σ H Q I h => ?_⟩
  refine wpAny_Call_Name_kw (ld_glob I hg c.g ?_ hdb)
  refine PySem.W.callWith_KW0 (h₀ := X.base) I.ok.mod.kin c.oex.kC hall ?_ hpl
  refine thn ((pk_cons he pk_nil).run pos pins s σ H _ I h) fun ws s1 ⟨vs, H1, I1, r1, v, ev, q1⟩ => ⟨I1.kIn, ?_⟩
  subst ev
  rw [hks]
  cases r1 with
  | @cons _ uw _ _ rw1 rn =>
  cases rn
  show wpAny _ _ (call (.ref C) [] [(f, uw)]) _ _ _
  obtain ⟨hp, g, dr, tk, os⟩ := s1
  have nn : H1 (hp.objs.size + 1) = none := I1.hok.fresh (Nat.le_succ _)
  have hq : spInF C f [.ref (hp.objs.size + 1), v] (upd H1 (hp.objs.size + 1) (exo (hp.objs.size + 1) C none)) (fun v H2 => v = .non ∧ Q (.ref (hp.objs.size + 1)) H2) (fun _ _ _ => False) :=
    ⟨_, v, rfl, upd_same, fun dx h1 h2 => ⟨rfl, q1 _ dx nn (by rwa [upd_ne h2] at h1) h2⟩⟩
  have kk : ∀ b o, hp.get? b = some o → ((hp.push (PySem.W.kdv_tup [])).push (PySem.HandSPX.excO C hp.objs.size)).get? b = some o := fun b o e => Heap.get?_push_of_some _ (Heap.get?_push_of_some _ e)
  have hget : ((hp.push (PySem.W.kdv_tup [])).push (PySem.HandSPX.excO C hp.objs.size)).get? (hp.objs.size + 1) = some (PySem.HandSPX.excO C hp.objs.size) := by heap_get
  have I2 : Inv X pins σ (upd H1 (hp.objs.size + 1) (exo (hp.objs.size + 1) C none)) ⟨(hp.push (PySem.W.kdv_tup [])).push (PySem.HandSPX.excO C hp.objs.size), g, dr, tk, os⟩ :=
    I1.laid (t' := tk) (a := hp.objs.size + 1) (o := exo (hp.objs.size + 1) C none) (h' := (hp.push (PySem.W.kdv_tup [])).push (PySem.HandSPX.excO C hp.objs.size)) kk (Nat.le_succ _) (exo_ok hget)
  have r2 : Vals [V.ref (hp.objs.size + 1), v] [Value.ref (hp.objs.size + 1), uw] := .cons rfl (.cons rw1 .nil)
  refine wpAny_call (kw_call F.excBase_ValueError (fun Y => PySem.HandSPX.refsVE_contains Y bm hbm) (I1.kIn _ _ hC) (PySem.W.looks_findIn I1.kIn iC) (fun self => PySem.W.bind_fn I1.kIn self tI)
    (codeAny_mono (F1.run _ X.stack _ _ ⟨[Value.ref (hp.objs.size + 1)], [(f, uw)]⟩ [Value.ref (hp.objs.size + 1), uw] _ _ (fun _ _ _ => False) ((hr.mono hk).make C [] [(f, uw)]) (I2.env0.make C [] [(f, uw)]) (b _ (Value.ref (hp.objs.size + 1)) uw I2.kIn) r2 hq) fun r s' hq' => ?_))
  cases r with
  | error er => exact False.elim hq'
  | ok fl =>
    cases fl with
    | ret u =>
      obtain ⟨v', H', I3, rv, ev, q3⟩ := I2.after hq'
      subst ev
      exact ⟨rv, ⟨V.ref (hp.objs.size + 1), H', I3, rfl, q3⟩⟩
    | next => exact False.elim hq'
    | brk => exact False.elim hq'
    | cont => exact False.elim hq'
theorem pe_err0 (c : ErrZ X.prog X.w X.K X.mg X.base k C x) (hr : Room j X.A) (hk : k + 1 ≤ j) (hg : Gl X x) (hdb : (x == ("__debug__" : Str)) = false := by decide) :
    PE X (.Call (.Name x p) [] [] pos) (tErr0 C) := by
  obtain ⟨fa, fd, iC, tI, F1, b⟩ := c.init
  obtain ⟨nm, q, N, bs, bm, sn, sub, ab, col, dd, k0, k1, k2, k3, k5, hC, hbm⟩ := c.oex.cls
  refine ⟨fun pins s σ H Q I h => ?_⟩
  refine wpAny_Call_Name_kw (ld_glob I hg c.g ?_ hdb)
  refine PySem.W.callWith_K0 I.kIn c.oex.kC ?_
  show wpAny _ _ (call (.ref C) []) _ _ _
  obtain ⟨hp, g, dr, tk, os⟩ := s
  have nn : H (hp.objs.size + 1) = none := I.hok.fresh (Nat.le_succ _)
  have hq : spIn C [.ref (hp.objs.size + 1)] (upd H (hp.objs.size + 1) (exo (hp.objs.size + 1) C none)) (fun v H2 => v = .non ∧ Q (.ref (hp.objs.size + 1)) H2) (fun _ _ _ => False) := ⟨_, rfl, upd_same, rfl, h _ nn⟩
  have kk : ∀ b o, hp.get? b = some o → ((hp.push (PySem.W.kdv_tup [])).push (PySem.HandSPX.excO C hp.objs.size)).get? b = some o := fun b o e => Heap.get?_push_of_some _ (Heap.get?_push_of_some _ e)
  have hget : ((hp.push (PySem.W.kdv_tup [])).push (PySem.HandSPX.excO C hp.objs.size)).get? (hp.objs.size + 1) = some (PySem.HandSPX.excO C hp.objs.size) := by heap_get
  have I2 : Inv X pins σ (upd H (hp.objs.size + 1) (exo (hp.objs.size + 1) C none)) ⟨(hp.push (PySem.W.kdv_tup [])).push (PySem.HandSPX.excO C hp.objs.size), g, dr, tk, os⟩ :=
    I.laid (t' := tk) (a := hp.objs.size + 1) (o := exo (hp.objs.size + 1) C none) (h' := (hp.push (PySem.W.kdv_tup [])).push (PySem.HandSPX.excO C hp.objs.size)) kk (Nat.le_succ _) (exo_ok hget)
  have r2 : Vals [V.ref (hp.objs.size + 1)] [Value.ref (hp.objs.size + 1)] := .cons rfl .nil
  refine wpAny_call (PySem.HandSPX.call_own F.excBase_ValueError (fun Y => PySem.HandSPX.refsVE_contains Y bm hbm) (I.kIn _ _ hC) (PySem.W.looks_findIn I.kIn iC) (fun self => PySem.W.bind_fn I.kIn self tI) (Nat.zero_le _)
    (codeAny_mono (F1.run _ X.stack _ _ ⟨[Value.ref (hp.objs.size + 1)], []⟩ [Value.ref (hp.objs.size + 1)] _ _ (fun _ _ _ => False) ((hr.mono hk).make C [] []) (I2.env0.make C [] []) (b _ [Value.ref (hp.objs.size + 1)] I2.kIn rfl) r2 hq) fun r s' hq' => ?_))
  cases r with
  | error er => exact False.elim hq'
  | ok fl =>
    cases fl with
    | ret u =>
      obtain ⟨v', H', I3, rv, ev, q3⟩ := I2.after hq'
      subst ev
      exact ⟨rv, ⟨V.ref (hp.objs.size + 1), H', I3, rfl, q3⟩⟩
    | next => exact False.elim hq'
    | brk => exact False.elim hq'
    | cont => exact False.elim hq'
/-! a field of an error -/
def tEf (K : PySem.W.Frag) (te : TE) (n : Str) : TE := fun σ H Q => te σ H fun x H1 => ∃ (a C dd : Addr) (fs : List (Str × V)) (v : V), x = .ref a ∧ XfC K C ∧ PySem.W.findIn K (.ref C) n = some none ∧ H1 a = some (exo a C (some dd)) ∧ H1 dd = some (exd dd fs) ∧ fs.lookup n = some v ∧ Q v H1
theorem pe_ef {K : PySem.W.Frag} {n : Str} (hK : X.K = K) (he : PE X e te) (hb : attributeBase e n X.env (eval e X.env) = eval e X.env := by rfl) : PE X (.Attribute e n pos) (tEf K te n) := by
  subst hK
  refine ⟨fun pins s σ H Q I h => ?_⟩
  refine attr_of hb (thn (he.run pins s σ H _ I h) fun u s1 hh => ?_)
  obtain ⟨x, H1, I1, rx, a, C, dd, fs, v, ex, T, hno, ea, ed, l, q⟩ := hh
  subst ex
  obtain rfl : u = Value.ref a := rx
  obtain ⟨t1, ho⟩ := exo_at I1.hok ea
  obtain ⟨mA, hns, hr⟩ := exd_at I1.hok ed
  obtain ⟨od, ho2, hl⟩ := lookIn_ns hns
  obtain ⟨u, hu, ru⟩ := RelO.some_of (v := v) (o := mA n) (by rw [← l]; exact hr n)
  have J : PySem.W.InstAt s1.heap a _ C (some od) := ⟨ho, rfl, rfl, ho2⟩
  exact HandSPX.exc_get I1.kIn J T.ga T.gg T.exC (PySem.W.findObj_own T.hdC hno rfl (by rw [hl, hu])) (handed_of ru) ⟨v, H1, I1.tok _, ru, q⟩
/-! isinstance of errors -/
structure ErrI (K : PySem.W.Frag) (C : Addr) : Prop where
  xf : XfC K C
  cl : (PySem.W.clsIn K C).isSome = true
  ic : PySem.W.findIn K (.ref C) "__class__" = some (some (.builtin "object.__class__"))
  sg : PySem.W.specialIn K (.builtin "object.__class__") "__get__" = some (some (.builtin "getset_descriptor.__get__"))
  tk : PySem.W.takesIn K (.builtin "object.__class__") = some true
  imr : PySem.W.mroIn K C (.type "object") = some true
def rIsiE (K : PySem.W.Frag) : List V → Hp → VK → Prop := fun xs H Q => ∃ (a C : Addr) (d : Option Addr) (c : V) (u : Value) (b : Bool), xs = [.ref a, c] ∧ ClsV c u ∧ ErrI K C ∧ H a = some (exo a C d) ∧ (∀ dd, d = some dd → ∃ fs, H dd = some (exd dd fs)) ∧ PySem.W.kitOne K (.ref C) u = some b ∧ Q (.bl b) H
theorem call_isiE : CallR X (.builtin "isinstance") (rIsiE X.K) := by
  intro pins s σ H xs us Q I r h
  obtain ⟨a, C, d, c, u, b, rfl, kc, T, ea, ed, eb, q⟩ := h
  obtain ⟨u1, u2, rfl, r1, r2⟩ := vals2 r
  have e2 := kc.eq r2
  subst e2
  obtain rfl : u1 = Value.ref a := r1
  obtain ⟨t1, ho⟩ := exo_at I.hok ea
  obtain ⟨od, J⟩ : ∃ od, PySem.W.InstAt s.heap a ({ cls := .ref C, dict := d, data := .fields #[.ref t1, .none, .none, .none, .bool false, .none] } : Obj) C od := by
    cases d with
    | none => exact ⟨none, ⟨ho, rfl, rfl, trivial⟩⟩
    | some dd =>
      obtain ⟨fs, e⟩ := ed dd rfl
      obtain ⟨mA, hns, _⟩ := exd_at I.hok e
      obtain ⟨od, ho2, _⟩ := lookIn_ns hns
      exact ⟨some od, ⟨ho, rfl, rfl, ho2⟩⟩
  exact PySem.W.kia_one (PySem.W.kitx_exc T.cl T.xf.ga T.xf.gg T.xf.exC T.ic T.sg T.tk T.imr) I.kIn J eb (by intro h; cases h) fun tk => ⟨.bl b, H, I.tok tk, rfl, q⟩
theorem k_isiE {K : PySem.W.Frag} (hK : X.K = K) : CallR X (.builtin "isinstance") (rIsiE K) := hK ▸ call_isiE
end
/-! in data -/
section
variable {ρ : Rho} {C : Addr} {te : TE} {d : D} {f : Str} {K : PySem.W.Frag}
theorem ev_err (h : Ev te ρ d) : Ev (tErr C f (tCons te tNil)) ρ (.err C [(f, d)]) := fun Z σ H Q k s q =>
  h Z σ H _ k s fun v H1 x1 r1 => ⟨v, rfl, fun a dx ha hd ne => by
    have x2 : Ex H1 (upd (upd (upd H1 a (exo a C none)) dx (exd dx [(f, v)])) a (exo a C (some dx))) := fun b o hb => by
      have n1 := ne_of_none hb ha
      have n2 := ne_of_none hb hd
      rw [upd_ne n1, upd_ne n2, upd_ne n1]; exact hb
    have k2 := k.ex x1
    exact q _ _ (x1.tr x2) (.err (k2.no ha) upd_same (k2.no hd) (by rw [upd_ne ne, upd_same]) (.cons (r1.mono x2.to) .nil))⟩
theorem ev_err0 : Ev (tErr0 C) ρ (.err C []) := fun Z σ H Q k s q a ha => q _ _ (Ex.new ha) (.err0 (k.no ha) upd_same)
theorem ev_ef {n : Str} {fs : List (Str × D)} (h : Ev te ρ (.err C fs)) (T : XfC K C) (hno : PySem.W.findIn K (.ref C) n = some none) (hl : fs.lookup n = some d) : Ev (tEf K te n) ρ d := fun Z σ H Q k s q =>
  h Z σ H _ k s fun v H1 x1 r1 => by
    cases r1 with
    | err na ha nd hd rf =>
      obtain ⟨v, hv, r⟩ := rf.look hl
      exact ⟨_, _, _, _, v, rfl, T, hno, ha, hd, hv, q v H1 x1 r⟩
    | err0 na ha => cases hl
theorem rl_isiE {fs : List (Str × D)} {c : D} {u : Value} {b : Bool} (T : ErrI K C) (hc : (∃ n, c = .ty n ∧ u = .type n) ∨ ∃ A, c = .ptr A ∧ u = .ref A) (e : PySem.W.kitOne K (.ref C) u = some b) : RLD (rIsiE K) [.err C fs, c] (.bl b) := fun Z H xs Q k r q => by
  cases r with
  | cons r1 rs =>
    cases rs with
    | cons r2 rs2 =>
      cases rs2
      have hk : ∃ v, ClsV v u ∧ Rep Z H v c := by
        rcases hc with ⟨n, rfl, rfl⟩ | ⟨A, rfl, rfl⟩
        · exact ⟨_, .ty n, .ty n⟩
        · exact ⟨_, .own A, .ptr A⟩
      have hcv : ∀ v, Rep Z H v c → ClsV v u := fun v rv => by
        rcases hc with ⟨n, rfl, rfl⟩ | ⟨A, rfl, rfl⟩
        · cases rv; exact .ty n
        · cases rv; exact .own A
      cases r1 with
      | err na ha nd hd rf => exact ⟨_, C, _, _, u, b, rfl, hcv _ r2, T, ha, fun dd h => by cases h; exact ⟨_, hd⟩, e, q _ H (Ex.rf H) (.bl _)⟩
      | err0 na ha => exact ⟨_, C, _, _, u, b, rfl, hcv _ r2, T, ha, fun dd h => (by cases h), e, q _ H (Ex.rf H) (.bl _)⟩
end
end Du
namespace Du
open PySem L2 PySem.Spec PyProof.Rows
/-! repr of scalars too -/
def scal : V → Option Str
  | .str x => if (reprText x).length ≤ 1000 then some (reprText x) else none
  | .int i => if i.natAbs.log2 < 1920 then some (toString i : String) else none
  | .bl b => some (if b then ("True" : String) else ("False" : String) : String)
  | .non => some ("None" : String)
  | _ => none
def rReprY : List V → Hp → VK → Prop := fun vs H Q => rReprX vs H Q ∨ ∃ v t, vs = [v] ∧ scal v = some t ∧ Q (.str t) H
theorem k_reprY {X : Cx} {K : PySem.W.Frag} {k : Nat} (hK : X.K = K) (hm : (List.lookup PySem.sysModules K).isSome = true) (hr : Room k X.A) (hg : X.A.guards = some []) : CallR X (.builtin "repr") rReprY := by
  intro pins s σ H vs us Q I r h
  rcases h with h | ⟨v, t, rfl, hs, q⟩
  · exact k_reprX hK hm hr hg pins s σ H vs us Q I r h
  · obtain ⟨u, rfl, ru⟩ := r.one
    cases v with
    | str x =>
      obtain ⟨tk, rfl⟩ := ru
      have hs' : (if (reprText x).length ≤ 1000 then some (reprText x) else none) = some t := hs
      by_cases hl : (reprText x).length ≤ 1000
      · rw [if_pos hl] at hs'
        cases hs'
        exact PySem.P.repr_of_str ⟨.str _, H, I.tok _, ⟨_, rfl⟩, q⟩ (by rw [sizeLine_eq]; omega)
      · rw [if_neg hl] at hs'; cases hs'
    | int i =>
      obtain ⟨tk, rfl⟩ := ru
      have hs' : (if i.natAbs.log2 < 1920 then some (Str.ofString (toString i)) else none) = some t := hs
      by_cases hl : i.natAbs.log2 < 1920
      · rw [if_pos hl] at hs'
        cases hs'
        exact PySem.P.repr_of_int hl ⟨.str _, H, I.tok _, ⟨_, rfl⟩, q⟩
      · rw [if_neg hl] at hs'; cases hs'
    | bl b =>
      cases ru
      cases hs
      exact PySem.P.repr_of_bool ⟨.str _, H, I.tok _, ⟨_, by cases b <;> rfl⟩, q⟩
    | non =>
      cases ru
      cases hs
      exact PySem.P.repr_of_none ⟨.str _, H, I.tok _, ⟨_, rfl⟩, q⟩
    | _ => cases hs
def reprS : D → Option Str
  | .str x => if (reprText x).length ≤ 1000 then some (reprText x) else none
  | .int i => if i.natAbs.log2 < 1920 then some (toString i : String) else none
  | .bl b => some (if b then ("True" : String) else ("False" : String) : String)
  | .non => some ("None" : String)
  | _ => none
/-- what repr tells of this -/
def ReprT (d : D) (t : Str) : Prop := (refD d = true ∧ ShW d 20 (2 ^ 20) ∧ t = (toX d).shown) ∨ reprS d = some t
theorem rl_reprY {d : D} {t : Str} (h : ReprT d t) : RLD rReprY [d] (.str t) := fun Z H vs Q k r q => by
  rcases h with ⟨h1, h2, rfl⟩ | h
  · exact .inl (rl_reprD h2 h1 Z H vs Q k r q)
  · cases r with
    | cons r r' =>
      cases r'
      cases r <;> first | exact .inr ⟨_, t, rfl, h, q _ H (Ex.rf H) (.str _)⟩ | cases h
end Du
namespace Du
open PySem L2
def top (i : Nat) : Stmt := PySem.Challenge.pw_deedmeanings_k01_errors_made.main.body.getD i (.Pass ⟨0, 0, 0, 0⟩)
/-- what the top leaves unbound -/
structure Bn (mg : Str → Option Value) : Prop where
  len : mg "len" = none
  sorted : mg "sorted" = none
  set : mg "set" = none
  str : mg "str" = none
  int : mg "int" = none
  tuple : mg "tuple" = none
  list : mg "list" = none
  any : mg "any" = none
  all : mg "all" = none
  isinstance : mg "isinstance" = none
  range : mg "range" = none
  zip : mg "zip" = none
  bool : mg "bool" = none
  dict : mg "dict" = none
  enumerate : mg "enumerate" = none
  repr : mg "repr" = none
/-! the sets of some names -/
def choices : List Str → List (List Str)
  | [] => [[]]
  | n :: ns => [[]] ++ (choices ns).map (n :: ·) ++ (choices ns).drop 1
abbrev lS (ss : List Str) : D := .lst (ss.map D.str)
abbrev lR (rs : List (List Str)) : D := .lst (rs.map tS)
def RChoices (ds : List D) (d : D) : Prop := ∃ ns : List Str, (ds = [lS ns] ∨ ds = [tS ns]) ∧ ns.length ≤ 12 ∧ d = lR (choices ns)
section
variable {P : Program} {w : World} {K : PySem.W.Frag} {mg : Str → Option Value} {base : Heap}
end
end Du
namespace Du
open PySem L2
section
variable {K : PySem.W.Frag} {ρ : Rho} {te : TE} {tt : TT}
/-! the list of a comprehension, owned -/
theorem lc_mainF {α : Type} {xs : List α} {φ : α → D} {J : It} {g : TG} {vs : List Nat} {pb : α → Bool} {fe : α → D} {Z : Addr → Prop} {σ : L2.St} {H1 : Hp} {Q : VK} (k1 : okZ Z H1) (s0 : SRep Z H1 σ ρ) (w1 : DW Z J H1 (xs.map φ)) (hz : xs.length ≤ 100000)
    (hb : ∀ x ∈ xs, ∃ ρ', GW g vs (φ x) (wipeR ρ vs) ρ' ∧ EvT tt ρ' (pb x) ∧ (pb x = true → Ev te ρ' (fe x)))
    (q : ∀ Dd H' acc, H1 Dd = none → Ex H1 H' → H' Dd = some (.lst acc) → Reps (fun a => Z a ∨ a = Dd) H' acc ((xs.filter pb).map fe) → Q (.ref Dd) H') : ∀ Dd, H1 Dd = none → ∃ W : Nat → Nat → Hp → Prop, (∃ m, W 0 m (upd H1 Dd (.lst []))) ∧ ∀ i m H, W i m H →
    (J.stop i H ∧ Q (.ref Dd) H) ∨ (J.go i H ∧ ∃ Nx : Hp → Prop, (∀ H', Nx H' → ∃ m', m' < m ∧ W (i + 1) m' H') ∧ ∀ x H', J.yld i H x H' → g x (wipe σ vs) H' fun σ2 H2 => wipe σ2 vs = wipe σ vs ∧ tt σ2 H2 fun b H3 =>
      if b = true then te σ2 H3 fun y H4 => ∃ acc, H4 Dd = some (.lst acc) ∧ acc.length < sizeLine ∧ Nx (upd H4 Dd (.lst (acc ++ [y]))) else Nx H3) := by
  intro Dd hD
  have hz' : ∀ a, (Z a ∨ a = Dd) → Z a ∨ H1 a = none := fun a z => z.imp id fun (e : a = Dd) => by rw [e]; exact hD
  have W := w1 (fun a => Z a ∨ a = Dd) hz'
  have s1 : SRep (fun a => Z a ∨ a = Dd) H1 σ ρ := s0.zs hz'
  refine lc_it W (fun i Hc => Ext (fun a => Z a ∨ a = Dd) H1 Hc ∧ okZ (fun a => Z a ∨ a = Dd) Hc ∧ (∀ a o, Z a → H1 a = some o → Hc a = some o) ∧ ∃ acc, Hc Dd = some (.lst acc) ∧ Reps (fun a => Z a ∨ a = Dd) Hc acc (((xs.take i).filter pb).map fe)) ?_ ?_ ?_ ?_
  · refine ⟨Ext.new hD, k1.add rfl, fun a o z h => by rw [upd_ne (ne_of_none h hD)]; exact h, [], upd_same, by simpa using .nil⟩
  · rintro i Hc hi ⟨e1, e2, _⟩
    exact ⟨e1, e2⟩
  · rintro i x Hc H' hi ⟨e1, e2, e3, acc, e4, e5⟩ ⟨y1, d0, y20, y3⟩
    rw [List.getElem?_map] at y20
    obtain ⟨d, y2, rfl⟩ := Option.map_eq_some_iff.mp y20
    have hm : d ∈ xs := List.mem_of_getElem? y2
    obtain ⟨ρ', g1, g2, g3⟩ := hb d hm
    have x' : Ext (fun a => Z a ∨ a = Dd) H1 H' := e1.tr y1.to
    refine g1 _ (wipe σ vs) H' x _ (e2.ex y1) ((s1.wipe vs).mono x') y3 fun σ' s' w' => ⟨w'.trans (wipe_wipe σ vs), ?_⟩
    refine g2 _ σ' H' _ (e2.ex y1) s' fun H3 x3 => ?_
    have y13 := y1.tr x3
    have et : xs.take (i + 1) = xs.take i ++ [d] := by rw [List.take_add_one, y2]; rfl
    have keep : ∀ {Hn : Hp}, Ex Hc Hn → ∀ a o, Z a → H1 a = some o → Hn a = some o := fun xx a o z h => xx a o (e3 a o z h)
    cases hp : pb d with
    | true =>
      refine iteT (g3 hp _ σ' H3 _ (e2.ex y13) (s'.mono x3.to) fun v H4 x4 r4 => ?_)
      have y14 := y13.tr x4
      refine ⟨acc, y14.exact e4, Nat.lt_of_le_of_lt (m := 100000) ?_ (by decide), ?_⟩
      · rw [e5.len, List.length_map]
        exact Nat.le_trans (List.length_filter_le _ _) (Nat.le_trans (by rw [List.length_take]; exact Nat.min_le_right _ _) hz)
      · refine ⟨(e1.tr y14.to).mut (.inr rfl), (e2.ex y14).upd rfl, fun a o z h => ?_, _, upd_same, ?_⟩
        · rw [upd_ne (ne_of_none h hD)]
          exact keep y14 a o z h
        · rw [et, List.filter_append, List.map_append]
          have xm : Ext (fun a => Z a ∨ a = Dd) H4 (upd H4 Dd (.lst (acc ++ [v]))) := (Ext.rf H4).mut (.inr rfl)
          refine ((e5.mono y14.to).mono xm).app ?_
          have ef : [d].filter pb = [d] := by simp [hp]
          rw [ef]
          exact .cons (r4.mono xm) .nil
    | false =>
      refine iteF ⟨e1.tr y13.to, e2.ex y13, keep y13, acc, y13.exact e4, ?_⟩
      rw [et, List.filter_append, List.map_append]
      have ef : [d].filter pb = [] := by simp [hp]
      rw [ef]
      simpa using e5.mono y13.to
  · rintro Hc ⟨e1, e2, e3, acc, e4, e5⟩
    rw [List.length_map, List.take_length] at e5
    have xx : Ex H1 Hc := fun a o h => by
      by_cases z : Z a
      · exact e3 a o z h
      · exact e1 a o (fun y => y.elim z (ne_of_none h hD)) h
    exact q Dd Hc acc hD xx e4 e5
theorem ef_lc {α : Type} {xs : List α} {φ : α → D} {wi : TI} {g : TG} {vs : List Nat} {pb : α → Bool} {fe : α → D} (hi : EvI wi ρ (xs.map φ)) (hz : xs.length ≤ 100000)
    (hb : ∀ x ∈ xs, ∃ ρ', GW g vs (φ x) (wipeR ρ vs) ρ' ∧ EvT tt ρ' (pb x) ∧ (pb x = true → Ev te ρ' (fe x))) : EvF (tLc wi g tt te vs) ρ (.lst ((xs.filter pb).map fe)) := fun Z σ H Q k s q =>
  hi Z σ H _ k s fun J H1 x1 w1 => lc_mainF (k.ex x1) (s.mono x1.to) w1 hz hb fun a H' acc h0 x h2 r2 => by
    have e : upd (fun b => if b = a then none else H' b) a (.lst acc) = H' := by
      funext b
      by_cases h : b = a
      · subst h; rw [upd_same, h2]
      · rw [upd_ne h]; exact if_neg h
    have := q a (fun b => if b = a then none else H' b) (.lst acc) (fun b o hb => by
      have hne : b ≠ a := fun h => by
        have h3 := x1 b o hb
        rw [h, h0] at h3; cases h3
      show (if b = a then none else H' b) = some o
      rw [if_neg hne]; exact x b o (x1 b o hb)) (if_pos rfl) rfl (by rw [e]; exact .lst h2 r2)
    rw [e] at this
    exact this
theorem ef_lc1 {α : Type} {xs : List α} {φ : α → D} {wi : TI} {g : TG} {vs : List Nat} {fe : α → D} (hi : EvI wi ρ (xs.map φ)) (hz : xs.length ≤ 100000)
    (hb : ∀ x ∈ xs, ∃ ρ', GW g vs (φ x) (wipeR ρ vs) ρ' ∧ Ev te ρ' (fe x)) : EvF (tLc wi g tYes te vs) ρ (.lst (xs.map fe)) := by
  have := ef_lc (pb := fun _ => true) (te := te) (g := g) (vs := vs) hi hz (fun x hx => by obtain ⟨ρ', h1, h2⟩ := hb x hx; exact ⟨ρ', h1, et_yes, fun _ => h2⟩)
  rwa [List.filter_eq_self.mpr fun _ _ => rfl] at this
/-! a comprehension whose test changes what is owned -/
section
variable {μ : Mu} {Φ : D → Mu → Prop}
end
end
end Du
namespace Du
open PySem L2
def th13 : List Str := [("BadTruth" : Str), ("BadTests" : Str), ("BadDeeds" : Str), ("BadTruths" : Str), ("NoDeed" : Str), ("BadCount" : Str), ("NoPlace" : Str), ("BadSize" : Str), ("NoState" : Str), ("BadRow" : Str), ("BadIndex" : Str), ("NoRow" : Str), ("BadPurse" : Str)]
def nm9 : List Str := [("BadName" : Str), ("NoTest" : Str), ("BadSet" : Str), ("BadWays" : Str), ("NoName" : Str), ("Leaned" : Str), ("BadCosts" : Str), ("BadWeights" : Str), ("BadEquation" : Str)]
def ix4 : List Str := [("BadTerm" : Str), ("BadPromise" : Str), ("BadLine" : Str), ("BadBar" : Str)]
def all32 : List Str := ((th13 ++ nm9) ++ ix4) ++ [("Broken" : Str), ("Refused" : Str), ("UnlikeBooks" : Str), ("BadText" : Str), ("NothingToUndo" : Str), ("NotSure" : Str)]
structure TEr (K : PySem.W.Frag) (mg : Str → Option Value) (ca : Str → Addr) : Prop extends Bn mg where
  ValueError : mg "ValueError" = none
  g_BadTruth : mg "BadTruth" = some (.ref (ca "BadTruth"))
  g_BadTests : mg "BadTests" = some (.ref (ca "BadTests"))
  g_BadDeeds : mg "BadDeeds" = some (.ref (ca "BadDeeds"))
  g_BadTruths : mg "BadTruths" = some (.ref (ca "BadTruths"))
  g_NoDeed : mg "NoDeed" = some (.ref (ca "NoDeed"))
  g_BadCount : mg "BadCount" = some (.ref (ca "BadCount"))
  g_NoPlace : mg "NoPlace" = some (.ref (ca "NoPlace"))
  g_BadSize : mg "BadSize" = some (.ref (ca "BadSize"))
  g_NoState : mg "NoState" = some (.ref (ca "NoState"))
  g_BadRow : mg "BadRow" = some (.ref (ca "BadRow"))
  g_BadIndex : mg "BadIndex" = some (.ref (ca "BadIndex"))
  g_NoRow : mg "NoRow" = some (.ref (ca "NoRow"))
  g_BadPurse : mg "BadPurse" = some (.ref (ca "BadPurse"))
  g_BadName : mg "BadName" = some (.ref (ca "BadName"))
  g_NoTest : mg "NoTest" = some (.ref (ca "NoTest"))
  g_BadSet : mg "BadSet" = some (.ref (ca "BadSet"))
  g_BadWays : mg "BadWays" = some (.ref (ca "BadWays"))
  g_NoName : mg "NoName" = some (.ref (ca "NoName"))
  g_Leaned : mg "Leaned" = some (.ref (ca "Leaned"))
  g_BadCosts : mg "BadCosts" = some (.ref (ca "BadCosts"))
  g_BadWeights : mg "BadWeights" = some (.ref (ca "BadWeights"))
  g_BadEquation : mg "BadEquation" = some (.ref (ca "BadEquation"))
  g_BadTerm : mg "BadTerm" = some (.ref (ca "BadTerm"))
  g_BadPromise : mg "BadPromise" = some (.ref (ca "BadPromise"))
  g_BadLine : mg "BadLine" = some (.ref (ca "BadLine"))
  g_BadBar : mg "BadBar" = some (.ref (ca "BadBar"))
  g_Broken : mg "Broken" = some (.ref (ca "Broken"))
  g_Refused : mg "Refused" = some (.ref (ca "Refused"))
  g_UnlikeBooks : mg "UnlikeBooks" = some (.ref (ca "UnlikeBooks"))
  g_BadText : mg "BadText" = some (.ref (ca "BadText"))
  g_NothingToUndo : mg "NothingToUndo" = some (.ref (ca "NothingToUndo"))
  g_NotSure : mg "NotSure" = some (.ref (ca "NotSure"))
  g_DeedError : mg "DeedError" = some (.ref (ca "DeedError"))
structure UE (P : Program) (w : World) (K : PySem.W.Frag) (mg : Str → Option Value) (base : Heap) (ca : Str → Addr) : Prop where
  U_BadTruth : ErrG P w K mg base 1 (ca "BadTruth") "BadTruth" "thing"
  U_BadTests : ErrG P w K mg base 1 (ca "BadTests") "BadTests" "thing"
  U_BadDeeds : ErrG P w K mg base 1 (ca "BadDeeds") "BadDeeds" "thing"
  U_BadTruths : ErrG P w K mg base 1 (ca "BadTruths") "BadTruths" "thing"
  U_NoDeed : ErrG P w K mg base 1 (ca "NoDeed") "NoDeed" "thing"
  U_BadCount : ErrG P w K mg base 1 (ca "BadCount") "BadCount" "thing"
  U_NoPlace : ErrG P w K mg base 1 (ca "NoPlace") "NoPlace" "thing"
  U_BadSize : ErrG P w K mg base 1 (ca "BadSize") "BadSize" "thing"
  U_NoState : ErrG P w K mg base 1 (ca "NoState") "NoState" "thing"
  U_BadRow : ErrG P w K mg base 1 (ca "BadRow") "BadRow" "thing"
  U_BadIndex : ErrG P w K mg base 1 (ca "BadIndex") "BadIndex" "thing"
  U_NoRow : ErrG P w K mg base 1 (ca "NoRow") "NoRow" "thing"
  U_BadPurse : ErrG P w K mg base 1 (ca "BadPurse") "BadPurse" "thing"
  U_BadName : ErrG P w K mg base 1 (ca "BadName") "BadName" "name"
  U_NoTest : ErrG P w K mg base 1 (ca "NoTest") "NoTest" "name"
  U_BadSet : ErrG P w K mg base 1 (ca "BadSet") "BadSet" "name"
  U_BadWays : ErrG P w K mg base 1 (ca "BadWays") "BadWays" "name"
  U_NoName : ErrG P w K mg base 1 (ca "NoName") "NoName" "name"
  U_Leaned : ErrG P w K mg base 1 (ca "Leaned") "Leaned" "name"
  U_BadCosts : ErrG P w K mg base 1 (ca "BadCosts") "BadCosts" "name"
  U_BadWeights : ErrG P w K mg base 1 (ca "BadWeights") "BadWeights" "name"
  U_BadEquation : ErrG P w K mg base 1 (ca "BadEquation") "BadEquation" "name"
  U_BadTerm : ErrG P w K mg base 1 (ca "BadTerm") "BadTerm" "index"
  U_BadPromise : ErrG P w K mg base 1 (ca "BadPromise") "BadPromise" "index"
  U_BadLine : ErrG P w K mg base 1 (ca "BadLine") "BadLine" "index"
  U_BadBar : ErrG P w K mg base 1 (ca "BadBar") "BadBar" "index"
  U_Broken : ErrG P w K mg base 1 (ca "Broken") "Broken" "promise"
  U_Refused : ErrG P w K mg base 1 (ca "Refused") "Refused" "row"
  U_UnlikeBooks : ErrZ P w K mg base 1 (ca "UnlikeBooks") "UnlikeBooks"
  U_BadText : ErrZ P w K mg base 1 (ca "BadText") "BadText"
  U_NothingToUndo : ErrZ P w K mg base 1 (ca "NothingToUndo") "NothingToUndo"
  U_NotSure : ErrZ P w K mg base 1 (ca "NotSure") "NotSure"
/-- what isinstance tells of the errors -/
structure IE (K : PySem.W.Frag) (ca : Str → Addr) : Prop where
  ei : ∀ n ∈ all32, ErrI K (ca n)
  one : ∀ n ∈ all32, ∀ m ∈ all32, PySem.W.kitOne K (.ref (ca n)) (.ref (ca m)) = some (decide (n = m))
  de : ∀ n ∈ all32, PySem.W.kitOne K (.ref (ca n)) (.ref (ca "DeedError")) = some true
  ve : ∀ n ∈ all32, PySem.W.kitOne K (.ref (ca n)) (.type "ValueError") = some true
def errD (ca : Str → Addr) (f : Str) (d : D) (n : Str) : D := .err (ca n) [(f, d)]
/-- an error, made by place and by name -/
def pairE (ca : Str → Addr) (f : Str) (d : D) (n : Str) : D := .tup [errD ca f d n, errD ca f d n]
/-- .. and what was handed in, twice -/
def rowE (ca : Str → Addr) (f : Str) (d : D) (n : Str) : D := .tup [errD ca f d n, errD ca f d n, d, d]
def thingsD (ca : Str → Addr) (d : D) : List D := th13.map (rowE ca "thing" d)
def namesD (ca : Str → Addr) (d : D) : List D := nm9.map (rowE ca "name" d)
def othersD (ca : Str → Addr) (d : D) : List D := (ix4.map (rowE ca "index" d) ++ [rowE ca "promise" d "Broken"]) ++ [rowE ca "row" d "Refused"]
theorem evC {ρ : Rho} {C : Addr} : Ev (tC (.ref C)) ρ (.ptr C) := fun _ _ H _ _ _ q => q _ H (Ex.rf H) (.ptr C)
theorem evTy {ρ : Rho} {x : String} : Ev (tC (.ty x)) ρ (.ty x) := fun _ _ H _ _ _ q => q _ H (Ex.rf H) (.ty x)
theorem ev_pairE {ρ : Rho} {ca : Str → Addr} {f n : Str} {d : D} {te : TE} (h : Ev te ρ d) : Ev (tTup (tCons (tErr (ca n) f (tCons te tNil)) (tCons (tErr (ca n) f (tCons te tNil)) tNil))) ρ (pairE ca f d n) := ev_tup (ev_cons (ev_err h) (ev_cons (ev_err h) ev_nil)) (by simp)
section
variable {P : Program} {w : World} {K : PySem.W.Frag} {mg : Str → Option Value} {base : Heap} {ca : Str → Addr} {ρ : Rho}
theorem ev_rowE {f n : Str} {d : D} {i j : Nat} (V : XfC K (ca n)) (no : PySem.W.findIn K (.ref (ca n)) f = some none) (hi : ρ[i]? = some (some (errD ca f d n))) (hj : ρ[j]? = some (some (errD ca f d n))) : Ev (tTup (tCons (tVar i) (tCons (tVar j) (tCons (tEf K (tVar i) f) (tCons (tEf K (tVar j) f) tNil))))) ρ (rowE ca f d n) :=
  ev_tup (ev_cons (ev_var hi) (ev_cons (ev_var hj) (ev_cons (ev_ef (ev_var hi) V no (by simp [List.lookup])) (ev_cons (ev_ef (ev_var hj) V no (by simp [List.lookup])) ev_nil)))) (by simp)
def RThings (ca : Str → Addr) (ds : List D) (d : D) : Prop := ∃ x : D, ds = [x] ∧ d = .lst (thingsD ca x)
abbrev s_law_things : Stmt := top 38
abbrev n_law_things : List Str := ["_law_x", "_law_found", "_law_one", "_law_other"]
theorem sc_law_things : FnScope n_law_things ["_law_x"] (defScope s_law_things) := ⟨rfl, rfl, rfl, by decide +kernel, rfl, by decide +kernel, by decide +kernel⟩

theorem ok_law_things {f : Addr} {fd : FuncData} (F : Fun K "_law_things" "_law_things" s_law_things f fd) (T : TEr K mg ca) (V : UE P w K mg base ca) : FnOk P w K mg base CX0 3 f fd ["_law_x"] (spP (RThings ca)) := by
  refine pure_ok F sc_law_things (fun ds d h => ?_) (fun cdv A outer s H E hr => ?_)
  · obtain ⟨x, rfl, _⟩ := h; rfl
  · obtain ⟨U_BadTruth, U_BadTests, U_BadDeeds, U_BadTruths, U_NoDeed, U_BadCount, U_NoPlace, U_BadSize, U_NoState, U_BadRow, U_BadIndex, U_NoRow, U_BadPurse, U_BadName, U_NoTest, U_BadSet, U_BadWays, U_NoName, U_Leaned, U_BadCosts, U_BadWeights, U_BadEquation, U_BadTerm, U_BadPromise, U_BadLine, U_BadBar, U_Broken, U_Refused, U_UnlikeBooks, U_BadText, U_NothingToUndo, U_NotSure⟩ := V
    refine ⟨_, (pss_cons (ps_set (i := 1) sc_law_things.nd rfl (by first | exact Or.inl rfl | exact Or.inr rfl) (pe_lst (pa_cons (pe_tup (pa_cons (pe_err U_BadTruth hr (by omega) rfl (pv 0)) (pa_cons (pe_errK U_BadTruth hr (by omega) rfl (pv 0)) pa_nil))) (pa_cons (pe_tup (pa_cons (pe_err U_BadTests hr (by omega) rfl (pv 0)) (pa_cons (pe_errK U_BadTests hr (by omega) rfl (pv 0)) pa_nil))) (pa_cons (pe_tup (pa_cons (pe_err U_BadDeeds hr (by omega) rfl (pv 0)) (pa_cons (pe_errK U_BadDeeds hr (by omega) rfl (pv 0)) pa_nil))) pa_nil))))) (pss_cons (ps_expr (k_bm (K := K) rfl PySem.F.plainAttrs_list PySem.F.slot_list_extend PySem.F.type_list_extend mt_extend (pv 1) (pa_cons (pe_lst (pa_cons (pe_tup (pa_cons (pe_err U_BadTruths hr (by omega) rfl (pv 0)) (pa_cons (pe_errK U_BadTruths hr (by omega) rfl (pv 0)) pa_nil))) (pa_cons (pe_tup (pa_cons (pe_err U_NoDeed hr (by omega) rfl (pv 0)) (pa_cons (pe_errK U_NoDeed hr (by omega) rfl (pv 0)) pa_nil))) (pa_cons (pe_tup (pa_cons (pe_err U_BadCount hr (by omega) rfl (pv 0)) (pa_cons (pe_errK U_BadCount hr (by omega) rfl (pv 0)) pa_nil))) pa_nil)))) pa_nil))) (pss_cons (ps_expr (k_bm (K := K) rfl PySem.F.plainAttrs_list PySem.F.slot_list_extend PySem.F.type_list_extend mt_extend (pv 1) (pa_cons (pe_lst (pa_cons (pe_tup (pa_cons (pe_err U_NoPlace hr (by omega) rfl (pv 0)) (pa_cons (pe_errK U_NoPlace hr (by omega) rfl (pv 0)) pa_nil))) (pa_cons (pe_tup (pa_cons (pe_err U_BadSize hr (by omega) rfl (pv 0)) (pa_cons (pe_errK U_BadSize hr (by omega) rfl (pv 0)) pa_nil))) (pa_cons (pe_tup (pa_cons (pe_err U_NoState hr (by omega) rfl (pv 0)) (pa_cons (pe_errK U_NoState hr (by omega) rfl (pv 0)) pa_nil))) pa_nil)))) pa_nil))) (pss_cons (ps_expr (k_bm (K := K) rfl PySem.F.plainAttrs_list PySem.F.slot_list_extend PySem.F.type_list_extend mt_extend (pv 1) (pa_cons (pe_lst (pa_cons (pe_tup (pa_cons (pe_err U_BadRow hr (by omega) rfl (pv 0)) (pa_cons (pe_errK U_BadRow hr (by omega) rfl (pv 0)) pa_nil))) (pa_cons (pe_tup (pa_cons (pe_err U_BadIndex hr (by omega) rfl (pv 0)) (pa_cons (pe_errK U_BadIndex hr (by omega) rfl (pv 0)) pa_nil))) (pa_cons (pe_tup (pa_cons (pe_err U_NoRow hr (by omega) rfl (pv 0)) (pa_cons (pe_errK U_NoRow hr (by omega) rfl (pv 0)) pa_nil))) pa_nil)))) pa_nil))) (pss_cons (ps_expr (k_bm (K := K) rfl PySem.F.plainAttrs_list PySem.F.slot_list_append PySem.F.type_list_append mt_append (pv 1) (pa_cons (pe_tup (pa_cons (pe_err U_BadPurse hr (by omega) rfl (pv 0)) (pa_cons (pe_errK U_BadPurse hr (by omega) rfl (pv 0)) pa_nil))) pa_nil))) (pss_one (ps_ret (pe_lc (own := [("_law_one", 2), ("_law_other", 3)]) rfl sc_law_things.nd (k_seq (K := K) rfl (pv 1)) (blkOk_by (own := [("_law_one", 2), ("_law_other", 3)]) (N := n_law_things) (sc := defScope s_law_things) (by decide +kernel)) (fun _ _ _ _ _ => (k_pgt (K := K) (n := 2) rfl rfl (pgs_cons (pg_name (i := 2) sc_law_things.nd rfl (by first | exact Or.inl rfl | exact Or.inr rfl)) (pgs_cons (pg_name (i := 3) sc_law_things.nd rfl (by first | exact Or.inl rfl | exact Or.inr rfl)) pgs_nil)))) (fun _ _ _ _ _ => pts_nil) (fun _ _ _ _ _ => (pe_tup (pa_cons (pv 2) (pa_cons (pv 3) (pa_cons (pe_ef (K := K) rfl (pv 2)) (pa_cons (pe_ef (K := K) rfl (pv 3)) pa_nil)))))))))))))), ?_⟩
    intro ds d h
    obtain ⟨x, rfl, rfl⟩ := h
    have xf : ∀ n ∈ ([("BadTruth" : Str), ("BadTests" : Str), ("BadDeeds" : Str), ("BadTruths" : Str), ("NoDeed" : Str), ("BadCount" : Str), ("NoPlace" : Str), ("BadSize" : Str), ("NoState" : Str), ("BadRow" : Str), ("BadIndex" : Str), ("NoRow" : Str), ("BadPurse" : Str)] : List Str), XfC K (ca n) ∧ PySem.W.findIn K (.ref (ca n)) "thing" = some none := fun n hn => by
      simp only [List.mem_cons, List.not_mem_nil, or_false] at hn
      rcases hn with rfl | rfl | rfl | rfl | rfl | rfl | rfl | rfl | rfl | rfl | rfl | rfl | rfl
      · exact ⟨U_BadTruth.xf, U_BadTruth.no⟩
      · exact ⟨U_BadTests.xf, U_BadTests.no⟩
      · exact ⟨U_BadDeeds.xf, U_BadDeeds.no⟩
      · exact ⟨U_BadTruths.xf, U_BadTruths.no⟩
      · exact ⟨U_NoDeed.xf, U_NoDeed.no⟩
      · exact ⟨U_BadCount.xf, U_BadCount.no⟩
      · exact ⟨U_NoPlace.xf, U_NoPlace.no⟩
      · exact ⟨U_BadSize.xf, U_BadSize.no⟩
      · exact ⟨U_NoState.xf, U_NoState.no⟩
      · exact ⟨U_BadRow.xf, U_BadRow.no⟩
      · exact ⟨U_BadIndex.xf, U_BadIndex.no⟩
      · exact ⟨U_NoRow.xf, U_NoRow.no⟩
      · exact ⟨U_BadPurse.xf, U_BadPurse.no⟩
    refine .inl (st_gs (gs_own (gea_ev (ds := [pairE ca "thing" x "BadTruth", pairE ca "thing" x "BadTests", pairE ca "thing" x "BadDeeds"]) (ev_cons (ev_pairE (n := "BadTruth") (ev_var rfl)) (ev_cons (ev_pairE (n := "BadTests") (ev_var rfl)) (ev_cons (ev_pairE (n := "BadDeeds") (ev_var rfl)) ev_nil))) ⟨by simp, fun a ha => ?_⟩)))
    refine gs_seq (gs_drop (ge_extend (ge_ev (ev_var rfl) ⟨a, 0, _, rfl, rfl, gea_ev (ev_cons (ev_lst (ds := [pairE ca "thing" x "BadTruths", pairE ca "thing" x "NoDeed", pairE ca "thing" x "BadCount"]) (ev_cons (ev_pairE (n := "BadTruths") (ev_var rfl)) (ev_cons (ev_pairE (n := "NoDeed") (ev_var rfl)) (ev_cons (ev_pairE (n := "BadCount") (ev_var rfl)) ev_nil))) (by simp)) ev_nil) ⟨_, _, rfl, rfl, by simp, ?_⟩⟩)))
    refine gs_seq (gs_drop (ge_extend (ge_ev (ev_var rfl) ⟨a, 0, _, rfl, rfl, gea_ev (ev_cons (ev_lst (ds := [pairE ca "thing" x "NoPlace", pairE ca "thing" x "BadSize", pairE ca "thing" x "NoState"]) (ev_cons (ev_pairE (n := "NoPlace") (ev_var rfl)) (ev_cons (ev_pairE (n := "BadSize") (ev_var rfl)) (ev_cons (ev_pairE (n := "NoState") (ev_var rfl)) ev_nil))) (by simp)) ev_nil) ⟨_, _, rfl, rfl, by simp, ?_⟩⟩)))
    refine gs_seq (gs_drop (ge_extend (ge_ev (ev_var rfl) ⟨a, 0, _, rfl, rfl, gea_ev (ev_cons (ev_lst (ds := [pairE ca "thing" x "BadRow", pairE ca "thing" x "BadIndex", pairE ca "thing" x "NoRow"]) (ev_cons (ev_pairE (n := "BadRow") (ev_var rfl)) (ev_cons (ev_pairE (n := "BadIndex") (ev_var rfl)) (ev_cons (ev_pairE (n := "NoRow") (ev_var rfl)) ev_nil))) (by simp)) ev_nil) ⟨_, _, rfl, rfl, by simp, ?_⟩⟩)))
    refine gs_seq (gs_drop (ge_append (ge_ev (ev_var rfl) ⟨a, 0, _, rfl, rfl, gea_ev (ev_cons (ev_pairE (n := "BadPurse") (ev_var rfl)) ev_nil) ⟨_, _, rfl, rfl, by simp, ?_⟩⟩)))
    refine gs_freeze (i := 1) (ds := th13.map (pairE ca "thing" x)) rfl (gs_ret (ge_ev (d := .lst (thingsD ca x)) ?_ ⟨[], .inl ⟨rfl, by simp [dom]⟩, rfl⟩))
    exact ev_lc1 (xs := th13) (φ := pairE ca "thing" x) (fe := rowE ca "thing" x) (ei_seqL (ev_var rfl)) (by decide) fun n hn => ⟨_, gw_tup (gws_cons (gw_name (by simp)) (gws_cons (gw_name (by simp)) gws_nil)) rfl, ev_rowE (xf n hn).1 (xf n hn).2 rfl rfl⟩
def RNamesE (ca : Str → Addr) (ds : List D) (d : D) : Prop := ∃ x : D, ds = [x] ∧ d = .lst (namesD ca x)
abbrev s_law_names : Stmt := top 39
abbrev n_law_names : List Str := ["_law_x", "_law_found", "_law_one", "_law_other"]
theorem sc_law_names : FnScope n_law_names ["_law_x"] (defScope s_law_names) := ⟨rfl, rfl, rfl, by decide +kernel, rfl, by decide +kernel, by decide +kernel⟩

theorem ok_law_names {f : Addr} {fd : FuncData} (F : Fun K "_law_names" "_law_names" s_law_names f fd) (T : TEr K mg ca) (V : UE P w K mg base ca) : FnOk P w K mg base CX0 3 f fd ["_law_x"] (spP (RNamesE ca)) := by
  refine pure_ok F sc_law_names (fun ds d h => ?_) (fun cdv A outer s H E hr => ?_)
  · obtain ⟨x, rfl, _⟩ := h; rfl
  · obtain ⟨U_BadTruth, U_BadTests, U_BadDeeds, U_BadTruths, U_NoDeed, U_BadCount, U_NoPlace, U_BadSize, U_NoState, U_BadRow, U_BadIndex, U_NoRow, U_BadPurse, U_BadName, U_NoTest, U_BadSet, U_BadWays, U_NoName, U_Leaned, U_BadCosts, U_BadWeights, U_BadEquation, U_BadTerm, U_BadPromise, U_BadLine, U_BadBar, U_Broken, U_Refused, U_UnlikeBooks, U_BadText, U_NothingToUndo, U_NotSure⟩ := V
    refine ⟨_, (pss_cons (ps_set (i := 1) sc_law_names.nd rfl (by first | exact Or.inl rfl | exact Or.inr rfl) (pe_lst (pa_cons (pe_tup (pa_cons (pe_err U_BadName hr (by omega) rfl (pv 0)) (pa_cons (pe_errK U_BadName hr (by omega) rfl (pv 0)) pa_nil))) (pa_cons (pe_tup (pa_cons (pe_err U_NoTest hr (by omega) rfl (pv 0)) (pa_cons (pe_errK U_NoTest hr (by omega) rfl (pv 0)) pa_nil))) (pa_cons (pe_tup (pa_cons (pe_err U_BadSet hr (by omega) rfl (pv 0)) (pa_cons (pe_errK U_BadSet hr (by omega) rfl (pv 0)) pa_nil))) pa_nil))))) (pss_cons (ps_expr (k_bm (K := K) rfl PySem.F.plainAttrs_list PySem.F.slot_list_extend PySem.F.type_list_extend mt_extend (pv 1) (pa_cons (pe_lst (pa_cons (pe_tup (pa_cons (pe_err U_BadWays hr (by omega) rfl (pv 0)) (pa_cons (pe_errK U_BadWays hr (by omega) rfl (pv 0)) pa_nil))) (pa_cons (pe_tup (pa_cons (pe_err U_NoName hr (by omega) rfl (pv 0)) (pa_cons (pe_errK U_NoName hr (by omega) rfl (pv 0)) pa_nil))) (pa_cons (pe_tup (pa_cons (pe_err U_Leaned hr (by omega) rfl (pv 0)) (pa_cons (pe_errK U_Leaned hr (by omega) rfl (pv 0)) pa_nil))) pa_nil)))) pa_nil))) (pss_cons (ps_expr (k_bm (K := K) rfl PySem.F.plainAttrs_list PySem.F.slot_list_extend PySem.F.type_list_extend mt_extend (pv 1) (pa_cons (pe_lst (pa_cons (pe_tup (pa_cons (pe_err U_BadCosts hr (by omega) rfl (pv 0)) (pa_cons (pe_errK U_BadCosts hr (by omega) rfl (pv 0)) pa_nil))) (pa_cons (pe_tup (pa_cons (pe_err U_BadWeights hr (by omega) rfl (pv 0)) (pa_cons (pe_errK U_BadWeights hr (by omega) rfl (pv 0)) pa_nil))) pa_nil))) pa_nil))) (pss_cons (ps_expr (k_bm (K := K) rfl PySem.F.plainAttrs_list PySem.F.slot_list_append PySem.F.type_list_append mt_append (pv 1) (pa_cons (pe_tup (pa_cons (pe_err U_BadEquation hr (by omega) rfl (pv 0)) (pa_cons (pe_errK U_BadEquation hr (by omega) rfl (pv 0)) pa_nil))) pa_nil))) (pss_one (ps_ret (pe_lc (own := [("_law_one", 2), ("_law_other", 3)]) rfl sc_law_names.nd (k_seq (K := K) rfl (pv 1)) (blkOk_by (own := [("_law_one", 2), ("_law_other", 3)]) (N := n_law_names) (sc := defScope s_law_names) (by decide +kernel)) (fun _ _ _ _ _ => (k_pgt (K := K) (n := 2) rfl rfl (pgs_cons (pg_name (i := 2) sc_law_names.nd rfl (by first | exact Or.inl rfl | exact Or.inr rfl)) (pgs_cons (pg_name (i := 3) sc_law_names.nd rfl (by first | exact Or.inl rfl | exact Or.inr rfl)) pgs_nil)))) (fun _ _ _ _ _ => pts_nil) (fun _ _ _ _ _ => (pe_tup (pa_cons (pv 2) (pa_cons (pv 3) (pa_cons (pe_ef (K := K) rfl (pv 2)) (pa_cons (pe_ef (K := K) rfl (pv 3)) pa_nil))))))))))))), ?_⟩
    intro ds d h
    obtain ⟨x, rfl, rfl⟩ := h
    have xf : ∀ n ∈ ([("BadName" : Str), ("NoTest" : Str), ("BadSet" : Str), ("BadWays" : Str), ("NoName" : Str), ("Leaned" : Str), ("BadCosts" : Str), ("BadWeights" : Str), ("BadEquation" : Str)] : List Str), XfC K (ca n) ∧ PySem.W.findIn K (.ref (ca n)) "name" = some none := fun n hn => by
      simp only [List.mem_cons, List.not_mem_nil, or_false] at hn
      rcases hn with rfl | rfl | rfl | rfl | rfl | rfl | rfl | rfl | rfl
      · exact ⟨U_BadName.xf, U_BadName.no⟩
      · exact ⟨U_NoTest.xf, U_NoTest.no⟩
      · exact ⟨U_BadSet.xf, U_BadSet.no⟩
      · exact ⟨U_BadWays.xf, U_BadWays.no⟩
      · exact ⟨U_NoName.xf, U_NoName.no⟩
      · exact ⟨U_Leaned.xf, U_Leaned.no⟩
      · exact ⟨U_BadCosts.xf, U_BadCosts.no⟩
      · exact ⟨U_BadWeights.xf, U_BadWeights.no⟩
      · exact ⟨U_BadEquation.xf, U_BadEquation.no⟩
    refine .inl (st_gs (gs_own (gea_ev (ds := [pairE ca "name" x "BadName", pairE ca "name" x "NoTest", pairE ca "name" x "BadSet"]) (ev_cons (ev_pairE (n := "BadName") (ev_var rfl)) (ev_cons (ev_pairE (n := "NoTest") (ev_var rfl)) (ev_cons (ev_pairE (n := "BadSet") (ev_var rfl)) ev_nil))) ⟨by simp, fun a ha => ?_⟩)))
    refine gs_seq (gs_drop (ge_extend (ge_ev (ev_var rfl) ⟨a, 0, _, rfl, rfl, gea_ev (ev_cons (ev_lst (ds := [pairE ca "name" x "BadWays", pairE ca "name" x "NoName", pairE ca "name" x "Leaned"]) (ev_cons (ev_pairE (n := "BadWays") (ev_var rfl)) (ev_cons (ev_pairE (n := "NoName") (ev_var rfl)) (ev_cons (ev_pairE (n := "Leaned") (ev_var rfl)) ev_nil))) (by simp)) ev_nil) ⟨_, _, rfl, rfl, by simp, ?_⟩⟩)))
    refine gs_seq (gs_drop (ge_extend (ge_ev (ev_var rfl) ⟨a, 0, _, rfl, rfl, gea_ev (ev_cons (ev_lst (ds := [pairE ca "name" x "BadCosts", pairE ca "name" x "BadWeights"]) (ev_cons (ev_pairE (n := "BadCosts") (ev_var rfl)) (ev_cons (ev_pairE (n := "BadWeights") (ev_var rfl)) ev_nil)) (by simp)) ev_nil) ⟨_, _, rfl, rfl, by simp, ?_⟩⟩)))
    refine gs_seq (gs_drop (ge_append (ge_ev (ev_var rfl) ⟨a, 0, _, rfl, rfl, gea_ev (ev_cons (ev_pairE (n := "BadEquation") (ev_var rfl)) ev_nil) ⟨_, _, rfl, rfl, by simp, ?_⟩⟩)))
    refine gs_freeze (i := 1) (ds := nm9.map (pairE ca "name" x)) rfl (gs_ret (ge_ev (d := .lst (namesD ca x)) ?_ ⟨[], .inl ⟨rfl, by simp [dom]⟩, rfl⟩))
    exact ev_lc1 (xs := nm9) (φ := pairE ca "name" x) (fe := rowE ca "name" x) (ei_seqL (ev_var rfl)) (by decide) fun n hn => ⟨_, gw_tup (gws_cons (gw_name (by simp)) (gws_cons (gw_name (by simp)) gws_nil)) rfl, ev_rowE (xf n hn).1 (xf n hn).2 rfl rfl⟩
def ROthers (ca : Str → Addr) (ds : List D) (d : D) : Prop := ∃ x : D, ds = [x] ∧ d = .lst (othersD ca x)
abbrev s_law_others : Stmt := top 40
abbrev n_law_others : List Str := ["_law_x", "_law_found", "_law_rows", "_law_one", "_law_other"]
theorem sc_law_others : FnScope n_law_others ["_law_x"] (defScope s_law_others) := ⟨rfl, rfl, rfl, by decide +kernel, rfl, by decide +kernel, by decide +kernel⟩

theorem ok_law_others {f : Addr} {fd : FuncData} (F : Fun K "_law_others" "_law_others" s_law_others f fd) (T : TEr K mg ca) (V : UE P w K mg base ca) : FnOk P w K mg base CX0 3 f fd ["_law_x"] (spP (ROthers ca)) := by
  refine pure_ok F sc_law_others (fun ds d h => ?_) (fun cdv A outer s H E hr => ?_)
  · obtain ⟨x, rfl, _⟩ := h; rfl
  · obtain ⟨U_BadTruth, U_BadTests, U_BadDeeds, U_BadTruths, U_NoDeed, U_BadCount, U_NoPlace, U_BadSize, U_NoState, U_BadRow, U_BadIndex, U_NoRow, U_BadPurse, U_BadName, U_NoTest, U_BadSet, U_BadWays, U_NoName, U_Leaned, U_BadCosts, U_BadWeights, U_BadEquation, U_BadTerm, U_BadPromise, U_BadLine, U_BadBar, U_Broken, U_Refused, U_UnlikeBooks, U_BadText, U_NothingToUndo, U_NotSure⟩ := V
    refine ⟨_, (pss_cons (ps_set (i := 1) sc_law_others.nd rfl (by first | exact Or.inl rfl | exact Or.inr rfl) (pe_lst (pa_cons (pe_tup (pa_cons (pe_err U_BadTerm hr (by omega) rfl (pv 0)) (pa_cons (pe_errK U_BadTerm hr (by omega) rfl (pv 0)) pa_nil))) (pa_cons (pe_tup (pa_cons (pe_err U_BadPromise hr (by omega) rfl (pv 0)) (pa_cons (pe_errK U_BadPromise hr (by omega) rfl (pv 0)) pa_nil))) (pa_cons (pe_tup (pa_cons (pe_err U_BadLine hr (by omega) rfl (pv 0)) (pa_cons (pe_errK U_BadLine hr (by omega) rfl (pv 0)) pa_nil))) pa_nil))))) (pss_cons (ps_expr (k_bm (K := K) rfl PySem.F.plainAttrs_list PySem.F.slot_list_append PySem.F.type_list_append mt_append (pv 1) (pa_cons (pe_tup (pa_cons (pe_err U_BadBar hr (by omega) rfl (pv 0)) (pa_cons (pe_errK U_BadBar hr (by omega) rfl (pv 0)) pa_nil))) pa_nil))) (pss_cons (ps_setLc (i := 2) (own := [("_law_one", 3), ("_law_other", 4)]) rfl sc_law_others.nd rfl rfl (sw_true rfl rfl rfl (by decide +kernel)) (k_seq (K := K) rfl (pv 1)) (blkOk_by (own := [("_law_one", 3), ("_law_other", 4)]) (N := n_law_others) (sc := defScope s_law_others) (by decide +kernel)) (fun _ _ _ _ _ => (k_pgt (K := K) (n := 2) rfl rfl (pgs_cons (pg_name (i := 3) sc_law_others.nd rfl (by first | exact Or.inl rfl | exact Or.inr rfl)) (pgs_cons (pg_name (i := 4) sc_law_others.nd rfl (by first | exact Or.inl rfl | exact Or.inr rfl)) pgs_nil)))) (fun _ _ _ _ _ => pts_nil) (fun _ _ _ _ _ => (pe_tup (pa_cons (pv 3) (pa_cons (pv 4) (pa_cons (pe_ef (K := K) rfl (pv 3)) (pa_cons (pe_ef (K := K) rfl (pv 4)) pa_nil))))))) (pss_cons (ps_expr (k_bm (K := K) rfl PySem.F.plainAttrs_list PySem.F.slot_list_append PySem.F.type_list_append mt_append (pv 2) (pa_cons (pe_tup (pa_cons (pe_err U_Broken hr (by omega) rfl (pv 0)) (pa_cons (pe_errK U_Broken hr (by omega) rfl (pv 0)) (pa_cons (pe_ef (K := K) rfl (pe_err U_Broken hr (by omega) rfl (pv 0))) (pa_cons (pe_ef (K := K) rfl (pe_errK U_Broken hr (by omega) rfl (pv 0))) pa_nil))))) pa_nil))) (pss_one (ps_ret (pe_op (k_addU (K := K) rfl) (pv 2) (pe_lst (pa_cons (pe_tup (pa_cons (pe_err U_Refused hr (by omega) rfl (pv 0)) (pa_cons (pe_errK U_Refused hr (by omega) rfl (pv 0)) (pa_cons (pe_ef (K := K) rfl (pe_err U_Refused hr (by omega) rfl (pv 0))) (pa_cons (pe_ef (K := K) rfl (pe_errK U_Refused hr (by omega) rfl (pv 0))) pa_nil))))) pa_nil))))))))), ?_⟩
    intro ds d h
    obtain ⟨x, rfl, rfl⟩ := h
    have xf : ∀ n ∈ ([("BadTerm" : Str), ("BadPromise" : Str), ("BadLine" : Str), ("BadBar" : Str)] : List Str), XfC K (ca n) ∧ PySem.W.findIn K (.ref (ca n)) "index" = some none := fun n hn => by
      simp only [List.mem_cons, List.not_mem_nil, or_false] at hn
      rcases hn with rfl | rfl | rfl | rfl
      · exact ⟨U_BadTerm.xf, U_BadTerm.no⟩
      · exact ⟨U_BadPromise.xf, U_BadPromise.no⟩
      · exact ⟨U_BadLine.xf, U_BadLine.no⟩
      · exact ⟨U_BadBar.xf, U_BadBar.no⟩
    refine .inl (st_gs (gs_own (gea_ev (ds := [pairE ca "index" x "BadTerm", pairE ca "index" x "BadPromise", pairE ca "index" x "BadLine"]) (ev_cons (ev_pairE (n := "BadTerm") (ev_var rfl)) (ev_cons (ev_pairE (n := "BadPromise") (ev_var rfl)) (ev_cons (ev_pairE (n := "BadLine") (ev_var rfl)) ev_nil))) ⟨by simp, fun a ha => ?_⟩)))
    refine gs_seq (gs_drop (ge_append (ge_ev (ev_var rfl) ⟨a, 0, _, rfl, rfl, gea_ev (ev_cons (ev_pairE (n := "BadBar") (ev_var rfl)) ev_nil) ⟨_, _, rfl, rfl, by simp, ?_⟩⟩)))
    refine gs_freeze (i := 1) (ds := ix4.map (pairE ca "index" x)) rfl (gs_ownF (i := 2) (c := .lst (ix4.map (rowE ca "index" x))) (ef_lc1 (xs := ix4) (φ := pairE ca "index" x) (fe := rowE ca "index" x) (ei_seqL (ev_var rfl)) (by decide) fun n hn => ⟨_, gw_tup (gws_cons (gw_name (by simp)) (gws_cons (gw_name (by simp)) gws_nil)) rfl, ev_rowE (xf n hn).1 (xf n hn).2 rfl rfl⟩) fun b hb => ?_)
    refine gs_seq (gs_drop (ge_append (ge_ev (ev_var rfl) ⟨b, 0, _, rfl, rfl, gea_ev (ev_cons (d := rowE ca "promise" x "Broken") ?_ ev_nil) ⟨_, _, rfl, rfl, by simp [ix4], ?_⟩⟩)))
    · exact ev_tup (ev_cons (ev_err (ev_var rfl)) (ev_cons (ev_err (ev_var rfl)) (ev_cons (ev_ef (ev_err (ev_var rfl)) U_Broken.xf U_Broken.no rfl) (ev_cons (ev_ef (ev_err (ev_var rfl)) U_Broken.xf U_Broken.no rfl) ev_nil)))) (by simp)
    refine gs_freeze (i := 2) (ds := ix4.map (rowE ca "index" x) ++ [rowE ca "promise" x "Broken"]) rfl (gs_ret (ge_ev (d := .lst (othersD ca x)) ?_ ⟨[], .inl ⟨rfl, by simp [dom]⟩, [], .inl ⟨rfl, by simp [dom]⟩, rfl⟩))
    refine ev_op (ev_var rfl) (ev_lst (ds := [rowE ca "row" x "Refused"]) (ev_cons ?_ ev_nil) (by simp)) (rd_addL (by simp [ix4]))
    exact ev_tup (ev_cons (ev_err (ev_var rfl)) (ev_cons (ev_err (ev_var rfl)) (ev_cons (ev_ef (ev_err (ev_var rfl)) U_Refused.xf U_Refused.no rfl) (ev_cons (ev_ef (ev_err (ev_var rfl)) U_Refused.xf U_Refused.no rfl) ev_nil)))) (by simp)
def clsD (n : Str) : List D := all32.map fun m => .bl (decide (n = m))
def RClasses (ca : Str → Addr) (ds : List D) (d : D) : Prop := ∃ (n : Str) (fs : List (Str × D)), ds = [.err (ca n) fs] ∧ n ∈ all32 ∧ d = .lst (clsD n)
abbrev s_law_classes : Stmt := top 41
abbrev n_law_classes : List Str := ["_law_e", "_law_found"]
theorem sc_law_classes : FnScope n_law_classes ["_law_e"] (defScope s_law_classes) := ⟨rfl, rfl, rfl, by decide +kernel, rfl, by decide +kernel, by decide +kernel⟩

theorem ok_law_classes {f : Addr} {fd : FuncData} (F : Fun K "_law_classes" "_law_classes" s_law_classes f fd) (T : TEr K mg ca) (I : IE K ca) : FnOk P w K mg base CX0 1 f fd ["_law_e"] (spP (RClasses ca)) := by
  refine pure_ok F sc_law_classes (fun ds d h => ?_) (fun cdv A outer s H E hr => ?_)
  · obtain ⟨n, fs, rfl, _⟩ := h; rfl
  · refine ⟨_, (pss_cons (ps_set (i := 1) sc_law_classes.nd rfl (by first | exact Or.inl rfl | exact Or.inr rfl) (pe_lst (pa_cons (pe_callB (k_isiE (K := K) rfl) (by rfl) T.isinstance (by decide +kernel) (pa_cons (pv 0) (pa_cons (pe_glob (v := .ref _) rfl T.g_BadTruth rfl) pa_nil))) (pa_cons (pe_callB (k_isiE (K := K) rfl) (by rfl) T.isinstance (by decide +kernel) (pa_cons (pv 0) (pa_cons (pe_glob (v := .ref _) rfl T.g_BadTests rfl) pa_nil))) (pa_cons (pe_callB (k_isiE (K := K) rfl) (by rfl) T.isinstance (by decide +kernel) (pa_cons (pv 0) (pa_cons (pe_glob (v := .ref _) rfl T.g_BadDeeds rfl) pa_nil))) (pa_cons (pe_callB (k_isiE (K := K) rfl) (by rfl) T.isinstance (by decide +kernel) (pa_cons (pv 0) (pa_cons (pe_glob (v := .ref _) rfl T.g_BadTruths rfl) pa_nil))) pa_nil)))))) (pss_cons (ps_expr (k_bm (K := K) rfl PySem.F.plainAttrs_list PySem.F.slot_list_extend PySem.F.type_list_extend mt_extend (pv 1) (pa_cons (pe_lst (pa_cons (pe_callB (k_isiE (K := K) rfl) (by rfl) T.isinstance (by decide +kernel) (pa_cons (pv 0) (pa_cons (pe_glob (v := .ref _) rfl T.g_NoDeed rfl) pa_nil))) (pa_cons (pe_callB (k_isiE (K := K) rfl) (by rfl) T.isinstance (by decide +kernel) (pa_cons (pv 0) (pa_cons (pe_glob (v := .ref _) rfl T.g_BadCount rfl) pa_nil))) (pa_cons (pe_callB (k_isiE (K := K) rfl) (by rfl) T.isinstance (by decide +kernel) (pa_cons (pv 0) (pa_cons (pe_glob (v := .ref _) rfl T.g_NoPlace rfl) pa_nil))) (pa_cons (pe_callB (k_isiE (K := K) rfl) (by rfl) T.isinstance (by decide +kernel) (pa_cons (pv 0) (pa_cons (pe_glob (v := .ref _) rfl T.g_BadSize rfl) pa_nil))) pa_nil))))) pa_nil))) (pss_cons (ps_expr (k_bm (K := K) rfl PySem.F.plainAttrs_list PySem.F.slot_list_extend PySem.F.type_list_extend mt_extend (pv 1) (pa_cons (pe_lst (pa_cons (pe_callB (k_isiE (K := K) rfl) (by rfl) T.isinstance (by decide +kernel) (pa_cons (pv 0) (pa_cons (pe_glob (v := .ref _) rfl T.g_NoState rfl) pa_nil))) (pa_cons (pe_callB (k_isiE (K := K) rfl) (by rfl) T.isinstance (by decide +kernel) (pa_cons (pv 0) (pa_cons (pe_glob (v := .ref _) rfl T.g_BadRow rfl) pa_nil))) (pa_cons (pe_callB (k_isiE (K := K) rfl) (by rfl) T.isinstance (by decide +kernel) (pa_cons (pv 0) (pa_cons (pe_glob (v := .ref _) rfl T.g_BadIndex rfl) pa_nil))) (pa_cons (pe_callB (k_isiE (K := K) rfl) (by rfl) T.isinstance (by decide +kernel) (pa_cons (pv 0) (pa_cons (pe_glob (v := .ref _) rfl T.g_NoRow rfl) pa_nil))) pa_nil))))) pa_nil))) (pss_cons (ps_expr (k_bm (K := K) rfl PySem.F.plainAttrs_list PySem.F.slot_list_extend PySem.F.type_list_extend mt_extend (pv 1) (pa_cons (pe_lst (pa_cons (pe_callB (k_isiE (K := K) rfl) (by rfl) T.isinstance (by decide +kernel) (pa_cons (pv 0) (pa_cons (pe_glob (v := .ref _) rfl T.g_BadPurse rfl) pa_nil))) (pa_cons (pe_callB (k_isiE (K := K) rfl) (by rfl) T.isinstance (by decide +kernel) (pa_cons (pv 0) (pa_cons (pe_glob (v := .ref _) rfl T.g_BadName rfl) pa_nil))) (pa_cons (pe_callB (k_isiE (K := K) rfl) (by rfl) T.isinstance (by decide +kernel) (pa_cons (pv 0) (pa_cons (pe_glob (v := .ref _) rfl T.g_NoTest rfl) pa_nil))) (pa_cons (pe_callB (k_isiE (K := K) rfl) (by rfl) T.isinstance (by decide +kernel) (pa_cons (pv 0) (pa_cons (pe_glob (v := .ref _) rfl T.g_BadSet rfl) pa_nil))) pa_nil))))) pa_nil))) (pss_cons (ps_expr (k_bm (K := K) rfl PySem.F.plainAttrs_list PySem.F.slot_list_extend PySem.F.type_list_extend mt_extend (pv 1) (pa_cons (pe_lst (pa_cons (pe_callB (k_isiE (K := K) rfl) (by rfl) T.isinstance (by decide +kernel) (pa_cons (pv 0) (pa_cons (pe_glob (v := .ref _) rfl T.g_BadWays rfl) pa_nil))) (pa_cons (pe_callB (k_isiE (K := K) rfl) (by rfl) T.isinstance (by decide +kernel) (pa_cons (pv 0) (pa_cons (pe_glob (v := .ref _) rfl T.g_NoName rfl) pa_nil))) (pa_cons (pe_callB (k_isiE (K := K) rfl) (by rfl) T.isinstance (by decide +kernel) (pa_cons (pv 0) (pa_cons (pe_glob (v := .ref _) rfl T.g_Leaned rfl) pa_nil))) (pa_cons (pe_callB (k_isiE (K := K) rfl) (by rfl) T.isinstance (by decide +kernel) (pa_cons (pv 0) (pa_cons (pe_glob (v := .ref _) rfl T.g_BadCosts rfl) pa_nil))) pa_nil))))) pa_nil))) (pss_cons (ps_expr (k_bm (K := K) rfl PySem.F.plainAttrs_list PySem.F.slot_list_extend PySem.F.type_list_extend mt_extend (pv 1) (pa_cons (pe_lst (pa_cons (pe_callB (k_isiE (K := K) rfl) (by rfl) T.isinstance (by decide +kernel) (pa_cons (pv 0) (pa_cons (pe_glob (v := .ref _) rfl T.g_BadWeights rfl) pa_nil))) (pa_cons (pe_callB (k_isiE (K := K) rfl) (by rfl) T.isinstance (by decide +kernel) (pa_cons (pv 0) (pa_cons (pe_glob (v := .ref _) rfl T.g_BadEquation rfl) pa_nil))) (pa_cons (pe_callB (k_isiE (K := K) rfl) (by rfl) T.isinstance (by decide +kernel) (pa_cons (pv 0) (pa_cons (pe_glob (v := .ref _) rfl T.g_BadTerm rfl) pa_nil))) pa_nil)))) pa_nil))) (pss_cons (ps_expr (k_bm (K := K) rfl PySem.F.plainAttrs_list PySem.F.slot_list_extend PySem.F.type_list_extend mt_extend (pv 1) (pa_cons (pe_lst (pa_cons (pe_callB (k_isiE (K := K) rfl) (by rfl) T.isinstance (by decide +kernel) (pa_cons (pv 0) (pa_cons (pe_glob (v := .ref _) rfl T.g_BadPromise rfl) pa_nil))) (pa_cons (pe_callB (k_isiE (K := K) rfl) (by rfl) T.isinstance (by decide +kernel) (pa_cons (pv 0) (pa_cons (pe_glob (v := .ref _) rfl T.g_BadLine rfl) pa_nil))) (pa_cons (pe_callB (k_isiE (K := K) rfl) (by rfl) T.isinstance (by decide +kernel) (pa_cons (pv 0) (pa_cons (pe_glob (v := .ref _) rfl T.g_BadBar rfl) pa_nil))) (pa_cons (pe_callB (k_isiE (K := K) rfl) (by rfl) T.isinstance (by decide +kernel) (pa_cons (pv 0) (pa_cons (pe_glob (v := .ref _) rfl T.g_Broken rfl) pa_nil))) pa_nil))))) pa_nil))) (pss_cons (ps_expr (k_bm (K := K) rfl PySem.F.plainAttrs_list PySem.F.slot_list_extend PySem.F.type_list_extend mt_extend (pv 1) (pa_cons (pe_lst (pa_cons (pe_callB (k_isiE (K := K) rfl) (by rfl) T.isinstance (by decide +kernel) (pa_cons (pv 0) (pa_cons (pe_glob (v := .ref _) rfl T.g_Refused rfl) pa_nil))) (pa_cons (pe_callB (k_isiE (K := K) rfl) (by rfl) T.isinstance (by decide +kernel) (pa_cons (pv 0) (pa_cons (pe_glob (v := .ref _) rfl T.g_UnlikeBooks rfl) pa_nil))) (pa_cons (pe_callB (k_isiE (K := K) rfl) (by rfl) T.isinstance (by decide +kernel) (pa_cons (pv 0) (pa_cons (pe_glob (v := .ref _) rfl T.g_BadText rfl) pa_nil))) pa_nil)))) pa_nil))) (pss_one (ps_ret (pe_op (k_addU (K := K) rfl) (pv 1) (pe_lst (pa_cons (pe_callB (k_isiE (K := K) rfl) (by rfl) T.isinstance (by decide +kernel) (pa_cons (pv 0) (pa_cons (pe_glob (v := .ref _) rfl T.g_NothingToUndo rfl) pa_nil))) (pa_cons (pe_callB (k_isiE (K := K) rfl) (by rfl) T.isinstance (by decide +kernel) (pa_cons (pv 0) (pa_cons (pe_glob (v := .ref _) rfl T.g_NotSure rfl) pa_nil))) pa_nil)))))))))))))), ?_⟩
    intro ds d h
    obtain ⟨n, fs, rfl, hn, rfl⟩ := h
    have isi : ∀ {ρ : Rho} (m : Str), ρ[0]? = some (some (.err (ca n) fs)) → m ∈ all32 → Ev (tCB (rIsiE K) (tCons (tVar 0) (tCons (tC (.ref (ca m))) tNil))) ρ (.bl (decide (n = m))) := fun m h0 hm => ev_cb (ev_cons (ev_var h0) (ev_cons evC ev_nil)) (rl_isiE (I.ei n hn) (.inr ⟨_, rfl, rfl⟩) (I.one n hn m hm))
    refine .inl (st_gs (gs_own (gea_ev (ds := [.bl (decide (n = "BadTruth")), .bl (decide (n = "BadTests")), .bl (decide (n = "BadDeeds")), .bl (decide (n = "BadTruths"))]) (ev_cons (isi "BadTruth" rfl (by decide +kernel)) (ev_cons (isi "BadTests" rfl (by decide +kernel)) (ev_cons (isi "BadDeeds" rfl (by decide +kernel)) (ev_cons (isi "BadTruths" rfl (by decide +kernel)) ev_nil)))) ⟨by simp, fun a ha => ?_⟩)))
    refine gs_seq (gs_drop (ge_extend (ge_ev (ev_var rfl) ⟨a, 0, _, rfl, rfl, gea_ev (ev_cons (ev_lst (ds := [.bl (decide (n = "NoDeed")), .bl (decide (n = "BadCount")), .bl (decide (n = "NoPlace")), .bl (decide (n = "BadSize"))]) ?_ (by simp)) ev_nil) ⟨_, _, rfl, rfl, by simp, ?_⟩⟩)))
    · exact (ev_cons (isi "NoDeed" rfl (by decide +kernel)) (ev_cons (isi "BadCount" rfl (by decide +kernel)) (ev_cons (isi "NoPlace" rfl (by decide +kernel)) (ev_cons (isi "BadSize" rfl (by decide +kernel)) ev_nil))))
    refine gs_seq (gs_drop (ge_extend (ge_ev (ev_var rfl) ⟨a, 0, _, rfl, rfl, gea_ev (ev_cons (ev_lst (ds := [.bl (decide (n = "NoState")), .bl (decide (n = "BadRow")), .bl (decide (n = "BadIndex")), .bl (decide (n = "NoRow"))]) ?_ (by simp)) ev_nil) ⟨_, _, rfl, rfl, by simp, ?_⟩⟩)))
    · exact (ev_cons (isi "NoState" rfl (by decide +kernel)) (ev_cons (isi "BadRow" rfl (by decide +kernel)) (ev_cons (isi "BadIndex" rfl (by decide +kernel)) (ev_cons (isi "NoRow" rfl (by decide +kernel)) ev_nil))))
    refine gs_seq (gs_drop (ge_extend (ge_ev (ev_var rfl) ⟨a, 0, _, rfl, rfl, gea_ev (ev_cons (ev_lst (ds := [.bl (decide (n = "BadPurse")), .bl (decide (n = "BadName")), .bl (decide (n = "NoTest")), .bl (decide (n = "BadSet"))]) ?_ (by simp)) ev_nil) ⟨_, _, rfl, rfl, by simp, ?_⟩⟩)))
    · exact (ev_cons (isi "BadPurse" rfl (by decide +kernel)) (ev_cons (isi "BadName" rfl (by decide +kernel)) (ev_cons (isi "NoTest" rfl (by decide +kernel)) (ev_cons (isi "BadSet" rfl (by decide +kernel)) ev_nil))))
    refine gs_seq (gs_drop (ge_extend (ge_ev (ev_var rfl) ⟨a, 0, _, rfl, rfl, gea_ev (ev_cons (ev_lst (ds := [.bl (decide (n = "BadWays")), .bl (decide (n = "NoName")), .bl (decide (n = "Leaned")), .bl (decide (n = "BadCosts"))]) ?_ (by simp)) ev_nil) ⟨_, _, rfl, rfl, by simp, ?_⟩⟩)))
    · exact (ev_cons (isi "BadWays" rfl (by decide +kernel)) (ev_cons (isi "NoName" rfl (by decide +kernel)) (ev_cons (isi "Leaned" rfl (by decide +kernel)) (ev_cons (isi "BadCosts" rfl (by decide +kernel)) ev_nil))))
    refine gs_seq (gs_drop (ge_extend (ge_ev (ev_var rfl) ⟨a, 0, _, rfl, rfl, gea_ev (ev_cons (ev_lst (ds := [.bl (decide (n = "BadWeights")), .bl (decide (n = "BadEquation")), .bl (decide (n = "BadTerm"))]) ?_ (by simp)) ev_nil) ⟨_, _, rfl, rfl, by simp, ?_⟩⟩)))
    · exact (ev_cons (isi "BadWeights" rfl (by decide +kernel)) (ev_cons (isi "BadEquation" rfl (by decide +kernel)) (ev_cons (isi "BadTerm" rfl (by decide +kernel)) ev_nil)))
    refine gs_seq (gs_drop (ge_extend (ge_ev (ev_var rfl) ⟨a, 0, _, rfl, rfl, gea_ev (ev_cons (ev_lst (ds := [.bl (decide (n = "BadPromise")), .bl (decide (n = "BadLine")), .bl (decide (n = "BadBar")), .bl (decide (n = "Broken"))]) ?_ (by simp)) ev_nil) ⟨_, _, rfl, rfl, by simp, ?_⟩⟩)))
    · exact (ev_cons (isi "BadPromise" rfl (by decide +kernel)) (ev_cons (isi "BadLine" rfl (by decide +kernel)) (ev_cons (isi "BadBar" rfl (by decide +kernel)) (ev_cons (isi "Broken" rfl (by decide +kernel)) ev_nil))))
    refine gs_seq (gs_drop (ge_extend (ge_ev (ev_var rfl) ⟨a, 0, _, rfl, rfl, gea_ev (ev_cons (ev_lst (ds := [.bl (decide (n = "Refused")), .bl (decide (n = "UnlikeBooks")), .bl (decide (n = "BadText"))]) ?_ (by simp)) ev_nil) ⟨_, _, rfl, rfl, by simp, ?_⟩⟩)))
    · exact (ev_cons (isi "Refused" rfl (by decide +kernel)) (ev_cons (isi "UnlikeBooks" rfl (by decide +kernel)) (ev_cons (isi "BadText" rfl (by decide +kernel)) ev_nil)))
    refine gs_freeze (i := 1) (ds := [.bl (decide (n = "BadTruth")), .bl (decide (n = "BadTests")), .bl (decide (n = "BadDeeds")), .bl (decide (n = "BadTruths")), .bl (decide (n = "NoDeed")), .bl (decide (n = "BadCount")), .bl (decide (n = "NoPlace")), .bl (decide (n = "BadSize")), .bl (decide (n = "NoState")), .bl (decide (n = "BadRow")), .bl (decide (n = "BadIndex")), .bl (decide (n = "NoRow")), .bl (decide (n = "BadPurse")), .bl (decide (n = "BadName")), .bl (decide (n = "NoTest")), .bl (decide (n = "BadSet")), .bl (decide (n = "BadWays")), .bl (decide (n = "NoName")), .bl (decide (n = "Leaned")), .bl (decide (n = "BadCosts")), .bl (decide (n = "BadWeights")), .bl (decide (n = "BadEquation")), .bl (decide (n = "BadTerm")), .bl (decide (n = "BadPromise")), .bl (decide (n = "BadLine")), .bl (decide (n = "BadBar")), .bl (decide (n = "Broken")), .bl (decide (n = "Refused")), .bl (decide (n = "UnlikeBooks")), .bl (decide (n = "BadText"))]) rfl (gs_ret (ge_ev (d := .lst (clsD n)) ?_ ⟨[], .inl ⟨rfl, by simp [dom]⟩, rfl⟩))
    refine ev_op (ev_var rfl) (ev_lst (ds := [.bl (decide (n = "NothingToUndo")), .bl (decide (n = "NotSure"))]) ?_ (by simp)) (rd_addL (by simp))
    exact (ev_cons (isi "NothingToUndo" rfl (by decide +kernel)) (ev_cons (isi "NotSure" rfl (by decide +kernel)) ev_nil))
theorem eqD_bls : ∀ bs : List Bool, eqD (.lst (bs.map D.bl)) (.lst (bs.map D.bl)) = true
  | [] => by simp [eqD, toP, toPs, PyData.eqv, PyData.eqvAll]
  | b :: bs => by
    have ih := eqD_bls bs
    simp only [eqD, toP, PyData.eqv, List.map_cons, toPs, PyData.eqvAll] at ih ⊢
    rw [ih]; cases b <;> simp
theorem all32_nd : all32.Nodup ∧ all32.length = 32 := by decide +kernel
theorem cls_tab : ∀ i, i < 32 → (all32.map fun m => decide (all32.getD i "" = m)) = (List.range 32).map fun k => decide (k = i) := by decide +kernel
theorem cls_at {n : Str} {i : Nat} (h : all32[i]? = some n) : clsD n = (List.range 32).map fun k => .bl (decide (k = i)) := by
  obtain ⟨hi, e⟩ := List.getElem?_eq_some_iff.mp h
  rw [all32_nd.2] at hi
  have h2 := cls_tab i hi
  rw [List.getD_eq_getElem?_getD, h] at h2
  have h3 := congrArg (List.map D.bl) h2
  rw [List.map_map, List.map_map] at h3
  exact h3
def RAlone (ca : Str → Addr) (ds : List D) (d : D) : Prop := ∃ (n : Str) (fs : List (Str × D)) (i : Nat), ds = [.err (ca n) fs, .int (i : Nat)] ∧ all32[i]? = some n ∧ d = .bl true
abbrev s_law_is_alone : Stmt := top 42
abbrev n_law_is_alone : List Str := ["_law_e", "_law_at", "_law_found", "_law_k"]
theorem sc_law_is_alone : FnScope n_law_is_alone ["_law_e", "_law_at"] (defScope s_law_is_alone) := ⟨rfl, rfl, rfl, by decide +kernel, rfl, by decide +kernel, by decide +kernel⟩

theorem ok_law_is_alone {f : Addr} {fd : FuncData} (F : Fun K "_law_is_alone" "_law_is_alone" s_law_is_alone f fd) (T : TEr K mg ca) (I : IE K ca) (c_law_classes : C8.Cal P w K mg base 1 "_law_classes" (spP (RClasses ca)) []) : FnOk P w K mg base CX0 2 f fd ["_law_e", "_law_at"] (spP (RAlone ca)) := by
  refine pure_ok F sc_law_is_alone (fun ds d h => ?_) (fun cdv A outer s H E hr => ?_)
  · obtain ⟨n, fs, i, rfl, _⟩ := h; rfl
  · refine ⟨_, (pss_cons (ps_set (i := 2) sc_law_is_alone.nd rfl (by first | exact Or.inl rfl | exact Or.inr rfl) (C8.pe_c c_law_classes hr (by omega) rfl (pa_cons (pv 0) pa_nil))) (pss_one (ps_ret (pe_and (pe_callB (k_isiE (K := K) rfl) (by rfl) T.isinstance (by decide +kernel) (pa_cons (pv 0) (pa_cons (pe_glob (v := .ref _) rfl T.g_DeedError rfl) pa_nil))) (pe_and (pe_callB (k_isiE (K := K) rfl) (by rfl) T.isinstance (by decide +kernel) (pa_cons (pv 0) (pa_cons (pe_bltn (v := .ty "ValueError") (by rfl) T.ValueError (by decide +kernel) rfl) pa_nil))) (pe_one (pe_cmpR (k_eq (K := K) rfl hr) (pv 2) (pe_lc (own := [("_law_k", 3)]) rfl sc_law_is_alone.nd (pi_range1 (by rfl) T.range (pa_cons (pe_callB (k_len (K := K) rfl) (by rfl) T.len (by decide +kernel) (pa_cons (pv 2) pa_nil)) pa_nil)) (blkOk_by (own := [("_law_k", 3)]) (N := n_law_is_alone) (sc := defScope s_law_is_alone) (by decide +kernel)) (fun _ _ _ _ _ => (pg_name (i := 3) sc_law_is_alone.nd rfl (by first | exact Or.inl rfl | exact Or.inr rfl))) (fun _ _ _ _ _ => pts_nil) (fun _ _ _ _ _ => (pe_cmpR (k_eq (K := K) rfl hr) (pv 3) (pv 1) (nomark _)))) (nomark _)))))))), ?_⟩
    intro ds d h
    obtain ⟨n, fs, i, rfl, hi, rfl⟩ := h
    have hn : n ∈ all32 := List.mem_of_getElem? hi
    have hc := cls_at hi
    have hcl : (clsD n).length = 32 := by unfold clsD; rw [List.length_map]; exact all32_nd.2
    have e1 : clsD n = (all32.map fun m => decide (n = m)).map D.bl := by unfold clsD; rw [List.map_map]; rfl
    have ok : okE (.lst (clsD n)) := (okN_lst (n := 0) fun d hd => by
      rw [e1] at hd
      obtain ⟨b, _, rfl⟩ := List.mem_map.mp hd
      exact okN_bl).e (by decide)
    have eq1 : eqD (.lst (clsD n)) (.lst (clsD n)) = true := by rw [e1]; exact eqD_bls _
    refine .inl (st_seq (st_asg (ev_call (ev_cons (ev_var rfl) ev_nil) ⟨n, fs, rfl, hn, rfl⟩) ga_name) (st_ret ?_))
    refine ev_andV (b := true) (c := true) (ev_cb (ev_cons (ev_var rfl) (ev_cons evC ev_nil)) (rl_isiE (I.ei n hn) (.inr ⟨_, rfl, rfl⟩) (I.de n hn))) fun _ => ev_andV (b := true) (c := true) (ev_cb (ev_cons (ev_var rfl) (ev_cons evTy ev_nil)) (rl_isiE (I.ei n hn) (.inl ⟨_, rfl, rfl⟩) (I.ve n hn))) fun _ => ?_
    rw [← eq1]
    refine ev_op (ev_var rfl) ?_ (rd_eq ok ok)
    rw [hc]
    refine ev_lc1 (xs := List.range 32) (φ := fun k : Nat => .int (k : Nat)) (fe := fun k => .bl (decide (k = i))) (ei_range1 (n := 32) (ev_cons (d := .int (32 : Nat)) ?_ ev_nil) (by decide)) (by simp) fun k hk => ⟨_, gw_name (by simp), ?_⟩
    · have := ev_cb (ev_cons (ev_var (ρ := (rho0 n_law_is_alone [.err (ca n) fs, .int (i : Nat)]).set 2 (some (.lst ((List.range 32).map fun k => .bl (decide (k = i)))))) (i := 2) rfl) ev_nil) (rl_lenL (K := K))
      rw [List.length_map, List.length_range] at this; exact this
    · have e : decide (k = i) = eqD (.int (k : Nat)) (.int (i : Nat)) := by rw [eqD_int, decide_eq_decide]; omega
      rw [e]
      exact ev_op (ev_var rfl) (ev_var rfl) (rd_eq ok_int ok_int)
end
end Du
namespace Du
open PySem L2
section
variable {P : Program} {w : World} {K : PySem.W.Frag} {mg : Str → Option Value} {base : Heap}
abbrev s_law_draw : Stmt := top 36
abbrev n_law_draw : List Str := ["_law_spring_here", "_law_many", "_law_mixed", "_law_cell", "_law_digit"]
theorem sc_law_draw : FnScope n_law_draw ["_law_spring_here", "_law_many"] (defScope s_law_draw) := ⟨rfl, rfl, rfl, by decide +kernel, rfl, by decide +kernel, by decide +kernel⟩

def spr (a c : Addr) (cs : List Int) (r n m : Int) : Mu := [(a, .lst [.ptr c, .int r, .int n, .int m]), (c, .lst (cs.map D.int))]
def SprOk (r n m : Int) (N : Nat) : Prop := 0 ≤ r ∧ 0 ≤ n ∧ n ≤ N ∧ 0 ≤ m ∧ m < 2147483647
def SpS (a c : Addr) (N : Nat) (μ : Mu) : Prop := ∃ (cs : List Int) (r n m : Int), μ = spr a c cs r n m ∧ SprOk r n m N
theorem SpS.up {a c : Addr} {N M : Nat} {μ : Mu} (h : SpS a c N μ) (hn : N ≤ M) : SpS a c M μ := by
  obtain ⟨cs, r, n, m, e, h1, h2, h3, h4, h5⟩ := h
  exact ⟨cs, r, n, m, e, h1, h2, by omega, h4, h5⟩
theorem SpS.fst {a c : Addr} {N : Nat} {μ : Mu} (h : SpS a c N μ) : μ.map (·.1) = [a, c] := by
  obtain ⟨cs, r, n, m, rfl, _⟩ := h; rfl
def RDraw (ds : List D) (μ : Mu) (Φ : D → Mu → Prop) : Prop := ∃ (a c : Addr) (N k : Nat), ds = [.ptr a, .int k] ∧ SpS a c N μ ∧ N < 100000 ∧ 0 < k ∧ k < 100000 ∧
  ∀ (μ' : Mu) (d : Nat), SpS a c (N + 1) μ' → d < k → Φ (.int d) μ'
theorem rd_pow {i j : Int} (h : CPow i j) : R2D (rI CPow fun i j => .int (i ^ j.toNat)) (.int i) (.int j) (.int (i ^ j.toNat)) := fun Z H x y Q k r1 r2 q => by
  cases r1; cases r2; exact ⟨i, j, rfl, rfl, h, q _ H (Ex.rf H) (.int _)⟩
theorem rd_fdiv {i j : Int} (h : CDiv i j) : R2D (rI CDiv fun i j => .int (i / j)) (.int i) (.int j) (.int (i / j)) := fun Z H x y Q k r1 r2 q => by
  cases r1; cases r2; exact ⟨i, j, rfl, rfl, h, q _ H (Ex.rf H) (.int _)⟩
theorem rd_gt {i j : Int} : R2D (rI0 fun i j => .bl (decide (j < i))) (.int i) (.int j) (.bl (decide (j < i))) := rd_I0 (z := fun i j => .bl (decide (j < i))) fun _ _ => .bl _
theorem rd_ge {i j : Int} : R2D (rI0 fun i j => .bl (decide (j ≤ i))) (.int i) (.int j) (.bl (decide (j ≤ i))) := rd_I0 (z := fun i j => .bl (decide (j ≤ i))) fun _ _ => .bl _
theorem okE_ints (cs : List Int) : okE (.lst (cs.map D.int)) := (okN_lst (n := 0) fun d hd => by obtain ⟨i, _, rfl⟩ := List.mem_map.mp hd; exact okN_int).e (by decide)
theorem ge_rd {ρ : Rho} {K : PySem.W.Frag} {a c : Addr} {cs : List Int} {r n m : Int} {Φ : D → Mu → Prop} (j : Nat) {z : D} (h0 : ρ[0]? = some (some (.ptr a))) (hz : [D.ptr c, .int r, .int n, .int m][j]? = some z) (q : Φ z (spr a c cs r n m)) : GE (tOp (rIx K) (tVar 0) (tC (.int (j : Int)))) ρ (spr a c cs r n m) Φ :=
  ge_ixO (ge_ev (ev_var h0) (ge_ev ev_int ⟨a, 0, _, j, z, rfl, rfl, rfl, hz, q⟩))
theorem gs_wr {ρ : Rho} {a c : Addr} {te : TE} {μ : Mu} {N : Rho → Mu → Prop} {R : D → Mu → Prop} (j : Nat) (h0 : ρ[0]? = some (some (.ptr a))) (hj : j < 4) (h : GE te ρ μ fun v μ1 => ∃ cs r n m, μ1 = spr a c cs r n m ∧ N ρ [(a, .lst ([D.ptr c, .int r, .int n, .int m].set j v)), (c, .lst (cs.map D.int))]) : GS (tAsg te (gSub (tVar 0) (tC (.int (j : Int))) rSetL)) ρ μ N R :=
  gs_setO (h.mono fun v μ1 ⟨cs, r, n, m, e, q⟩ => by subst e; exact ge_ev (ev_var h0) (ge_ev ev_int ⟨a, 0, _, j, rfl, rfl, rfl, hj, q⟩))
theorem ok_law_draw {f : Addr} {fd : FuncData} (F : Fun K "_law_draw" "_law_draw" s_law_draw f fd) (T : Bn mg) : FnOk P w K mg base CX0 1 f fd ["_law_spring_here", "_law_many"] (spM RDraw) := by
  refine eff_ok F sc_law_draw (fun ds μ Φ h => ?_) (fun cdv A outer s H E hr => ?_)
  · obtain ⟨a, c, N, k, rfl, _⟩ := h; rfl
  · refine ⟨_, (pss_cons (ps_asg (pe_op (k_addU (K := K) rfl) (pe_ix (k_ix (K := K) rfl) (pv 0) pe_int (fun _ _ => rfl)) pe_int) (pg_sub (pv 0) pe_int set_list)) (pss_cons (ps_if (PW.pt (pw_and (pt_cmpR (k_eq (K := K) rfl hr) (pe_ix (k_ix (K := K) rfl) (pv 0) pe_int (fun _ _ => rfl)) pe_int (nomark _)) (pw_and1 (pt_cmpR (k_ne (K := K) rfl hr) (pe_ix (k_ix (K := K) rfl) (pv 0) pe_int (fun _ _ => rfl)) (pe_lst pa_nil) (nomark _))))) (pss_cons (ps_set (i := 3) sc_law_draw.nd rfl (by first | exact Or.inl rfl | exact Or.inr rfl) (k_bm (K := K) rfl PySem.F.plainAttrs_list PySem.F.slot_list_pop PySem.F.type_list_pop mt_popAt (pe_ix (k_ix (K := K) rfl) (pv 0) pe_int (fun _ _ => rfl)) (pa_cons pe_int pa_nil))) (pss_cons (ps_asg (pe_op op_mod (pe_callTy call_int1 (by rfl) T.int (by decide +kernel) (pa_cons (pe_op (k_addU (K := K) rfl) (pe_op (k_addU (K := K) rfl) (pe_op op_mulU (pe_ix (k_ix (K := K) rfl) (pv 0) pe_int (fun _ _ => rfl)) pe_int) (pv 3)) pe_int) pa_nil)) pe_int) (pg_sub (pv 0) pe_int set_list)) (pss_one (ps_if (pt_cmpR op_ge (pv 3) (pe_op op_pow pe_int pe_int) (nomark _)) (pss_one (ps_asg (pv 3) (pg_sub (pv 0) pe_int set_list))) pss_nil)))) pss_nil) (pss_cons (ps_if (pt_cmpR op_gt (pe_ix (k_ix (K := K) rfl) (pv 0) pe_int (fun _ _ => rfl)) pe_int (nomark _)) (pss_cons (ps_set (i := 4) sc_law_draw.nd rfl (by first | exact Or.inl rfl | exact Or.inr rfl) (pe_op op_mod (pe_callTy call_int1 (by rfl) T.int (by decide +kernel) (pa_cons (pe_ix (k_ix (K := K) rfl) (pv 0) pe_int (fun _ _ => rfl)) pa_nil)) (pv 1))) (pss_cons (ps_asg (pe_op op_fdiv (pe_ix (k_ix (K := K) rfl) (pv 0) pe_int (fun _ _ => rfl)) (pv 1)) (pg_sub (pv 0) pe_int set_list)) (pss_one (ps_ret (pv 4))))) pss_nil) (pss_cons (ps_set (i := 2) sc_law_draw.nd rfl (by first | exact Or.inl rfl | exact Or.inr rfl) (pe_op op_mod (pe_callTy call_int1 (by rfl) T.int (by decide +kernel) (pa_cons (pe_op op_pow (pe_op (k_addU (K := K) rfl) (pe_op (k_addU (K := K) rfl) (pe_ix (k_ix (K := K) rfl) (pv 0) pe_int (fun _ _ => rfl)) (pe_op op_mulU pe_int (pe_ix (k_ix (K := K) rfl) (pv 0) pe_int (fun _ _ => rfl)))) pe_int) pe_int) pa_nil)) pe_int)) (pss_cons (ps_set (i := 2) sc_law_draw.nd rfl (by first | exact Or.inl rfl | exact Or.inr rfl) (pe_op (k_addU (K := K) rfl) (pe_op (k_addU (K := K) rfl) (pe_op op_mulU (pv 2) pe_int) (pe_op op_mulU (pe_op op_mulU pe_int (pe_ix (k_ix (K := K) rfl) (pv 0) pe_int (fun _ _ => rfl))) (pe_ix (k_ix (K := K) rfl) (pv 0) pe_int (fun _ _ => rfl)))) pe_int)) (pss_one (ps_ret (pe_op op_mod (pe_op op_mod (pe_callTy call_int1 (by rfl) T.int (by decide +kernel) (pa_cons (pe_op op_pow (pv 2) pe_int) pa_nil)) pe_int) (pv 1))))))))), ?_⟩
    intro ds μ Φ h
    obtain ⟨a, c, N, k, rfl, ⟨cs, r, n, m, rfl, ⟨hr0, hn0, hnN, hm0, hm1⟩⟩, hN, hk0, hk1, q0⟩ := h
    have q : ∀ (cs' : List Int) (r' n' m' : Int) (d : Nat), SprOk r' n' m' (N + 1) → d < k → Φ (.int d) (spr a c cs' r' n' m') := fun cs' r' n' m' d ok hd => q0 _ d ⟨cs', r', n', m', rfl, ok⟩ hd
    refine gs_seq (gs_wr (a := a) (c := c) 2 rfl (by decide) (ge_op (ge_rd 2 rfl rfl (ge_ev ev_int ⟨_, rd_addI, cs, r, n, m, rfl, ?_⟩))))
    refine gs_mid (fun ρ' μ' => ∃ o3 cs' r' m', ρ' = [some (.ptr a), some (.int k), none, o3, none] ∧ μ' = spr a c cs' r' (n + 1) m' ∧ 0 ≤ r' ∧ 0 ≤ m' ∧ m' < 2147483647) (gs_if ?_) ?_
    · refine gt_and (gt_test (ge_op (ge_rd 1 rfl rfl (ge_ev ev_int ⟨_, rd_eq ok_int ok_int, _, rfl, ?_⟩))))
      rw [eqD_int]
      by_cases h : r = 0
      · rw [if_pos (by simpa using h)]
        refine gt_test (ge_opO (ge_rd 0 rfl rfl (ge_ev (ev_lst ev_nil (by decide)) ⟨c, 1, _, _, rfl, rfl, rd_ne (okE_ints cs) (okE_ints []), rfl, _, rfl, ?_⟩)))
        rw [eqD_lst0]
        cases cs with
        | nil => exact gs_next ⟨none, [], r, m, rfl, rfl, hr0, hm0, hm1⟩
        | cons x cs =>
          rw [if_pos (by rfl)]
          refine gs_seq (gs_asg (ge_popO (ge_rd 0 rfl rfl ⟨c, 1, _, rfl, rfl, gea_ev (ev_cons ev_int ev_nil) ⟨_, 0, _, rfl, rfl, by decide, rfl, ?_⟩⟩)))
          refine gs_seq (gs_wr (a := a) (c := c) 3 rfl (by decide) (ge_op (ge_cb (gea_cons (ge_op (ge_op (ge_op (ge_rd (cs := cs) 3 rfl rfl (ge_ev ev_int ⟨_, rd_mulI (.inr ⟨by decide, by decide⟩), ge_ev (ev_var rfl) ⟨_, rd_addI, ge_ev ev_int ⟨_, rd_addI, gea_nil ⟨_, rl_intI, ge_ev ev_int ⟨_, rd_mod (by decide), cs, r, n + 1, m, rfl, ?_⟩⟩⟩⟩⟩)))))))))
          have hmm := Int.emod_nonneg (m * 4099 + x + 13) (show (2147483647 : Int) ≠ 0 by decide)
          have hml := Int.emod_lt_of_pos (m * 4099 + x + 13) (show (0 : Int) < 2147483647 by decide)
          refine gs_if (gt_test (ge_ev (ev_op (ev_var rfl) (ev_op ev_int ev_int (rd_pow ⟨by decide, by decide, by decide⟩)) rd_ge) ⟨_, rfl, ?_⟩))
          by_cases hx : (10 : Int) ^ 18 ≤ x
          · rw [if_pos (by simpa using hx)]
            refine gs_wr (a := a) (c := c) 1 rfl (by decide) (ge_ev (ev_var rfl) ⟨cs, r, n + 1, _, rfl, some (.int x), cs, x, _, rfl, rfl, ?_, hmm, hml⟩)
            have : (0 : Int) ≤ 10 ^ 18 := by decide
            omega
          · rw [if_neg (by simpa using hx)]
            exact gs_next ⟨some (.int x), cs, r, _, rfl, rfl, hr0, hmm, hml⟩
      · rw [if_neg (by simpa using h)]
        exact gs_next ⟨none, cs, r, m, rfl, rfl, hr0, hm0, hm1⟩
    · rintro ρ' μ' ⟨o3, cs', r', m', rfl, rfl, hr', hm0', hm1'⟩
      have okf : ∀ r'', 0 ≤ r'' → SprOk r'' (n + 1) m' (N + 1) := fun r'' h => ⟨h, by omega, by omega, hm0', hm1'⟩
      refine gs_mid (fun ρ' μ' => ρ' = [some (.ptr a), some (.int k), none, o3, none] ∧ μ' = spr a c cs' r' (n + 1) m') (gs_if (gt_test (ge_op (ge_rd 1 rfl rfl (ge_ev ev_int ⟨_, rd_gt, _, rfl, ?_⟩))))) ?_
      · by_cases h : 0 < r'
        · rw [if_pos (by simpa using h)]
          refine gs_seq (gs_asg (ge_op (ge_cb (gea_cons (ge_rd 1 rfl rfl (gea_nil ⟨_, rl_intI, ge_ev (ev_var rfl) ⟨_, rd_mod (by omega), ?_⟩⟩))))))
          refine gs_seq (gs_wr (a := a) (c := c) 1 rfl (by decide) (ge_op (ge_rd 1 rfl rfl (ge_ev (ev_var rfl) ⟨_, rd_fdiv ⟨by omega, by omega⟩, cs', r', n + 1, m', rfl, ?_⟩))))
          have e : r' % (k : Int) = ((r'.toNat % k : Nat) : Int) := by rw [Int.natCast_emod, Int.toNat_of_nonneg hr']
          have qq := q cs' (r' / k) (n + 1) m' (r'.toNat % k) (okf _ (Int.ediv_nonneg hr' (by omega))) (Nat.mod_lt _ hk0)
          rw [← e] at qq
          exact gs_ret (ge_ev (ev_var rfl) ⟨rfl, qq⟩)
        · rw [if_neg (by simpa using h)]
          exact gs_next ⟨rfl, rfl⟩
      · rintro ρ' μ' ⟨rfl, rfl⟩
        have hp : CPow (m' + 7919 * (n + 1) + 104729) 5 := ⟨by decide, by decide, by omega⟩
        refine gs_seq (gs_asg (ge_op (ge_cb (gea_cons (ge_op (ge_op (ge_op (ge_rd 3 rfl rfl (ge_op (ge_ev ev_int (ge_rd 2 rfl rfl ⟨_, rd_mulI (.inl ⟨by decide, by decide⟩), _, rd_addI, ge_ev ev_int ⟨_, rd_addI, ge_ev ev_int ⟨_, rd_pow hp, gea_nil ⟨_, rl_intI, ge_ev ev_int ⟨_, rd_mod (by decide), ?_⟩⟩⟩⟩⟩)))))))))))
        generalize hX : (m' + 7919 * (n + 1) + 104729) ^ (5 : Int).toNat % 2147483629 = X
        have hX0 : 0 ≤ X := by rw [← hX]; exact Int.emod_nonneg _ (by decide)
        have hX1 : X < 2147483629 := by rw [← hX]; exact Int.emod_lt_of_pos _ (by decide)
        have hnn : 0 ≤ (n + 1) * (n + 1) ∧ (n + 1) * (n + 1) ≤ 100001 * 100001 := ⟨Int.mul_nonneg (by omega) (by omega), Int.mul_le_mul (by omega) (by omega) (by omega) (by omega)⟩
        have hmul : 40503 * (n + 1) * (n + 1) = 40503 * ((n + 1) * (n + 1)) := Int.mul_assoc _ _ _
        refine gs_seq (gs_asg (ge_op (ge_op (ge_ev (ev_op (ev_var rfl) ev_int (rd_mulI (.inr ⟨by decide, by decide⟩))) (ge_op (ge_op (ge_ev ev_int (ge_rd 2 rfl rfl ⟨_, rd_mulI (.inl ⟨by decide, by decide⟩), ge_rd 2 rfl rfl ⟨_, rd_mulI (.inr ⟨by omega, by omega⟩), _, rd_addI, ge_ev ev_int ⟨_, rd_addI, ?_⟩⟩⟩))))))))
        have hp3 : CPow (X * 48271 + 40503 * (n + 1) * (n + 1) + 29) 3 := ⟨by decide, by decide, by omega⟩
        refine gs_ret (ge_ev (ev_op (ev_op (ev_cb (ev_cons (ev_op (ev_var rfl) ev_int (rd_pow hp3)) ev_nil) rl_intI) ev_int (rd_mod (by decide))) (ev_var rfl) (rd_mod (by omega))) ⟨rfl, ?_⟩)
        generalize (X * 48271 + 40503 * (n + 1) * (n + 1) + 29) ^ (3 : Int).toNat % 1000000007 = Y
        have hk' : (0 : Int) < k := by omega
        have e1 := Int.emod_nonneg Y (show (k : Int) ≠ 0 by omega)
        have e2 := Int.emod_lt_of_pos Y hk'
        have e : Y % (k : Int) = (((Y % (k : Int)).toNat : Nat) : Int) := (Int.toNat_of_nonneg e1).symm
        rw [e]
        exact q cs' r' (n + 1) m' _ (okf _ hr') (by omega)
end
end Du
namespace Du
open PySem L2
section
variable {P : Program} {w : World} {K : PySem.W.Frag} {mg : Str → Option Value} {base : Heap} {C : Addr} {ρ : Rho}
def spSpring (K : PySem.W.Frag) : Sp := fun vs H Q _ => ∃ (p : Addr) (cs : List Int), vs = [.ref p] ∧ SqL K H p (cs.map V.int) ∧
  ∀ c a, H c = none → a ≠ c → H a = none → Q (.ref a) (upd (upd H c (.lst (cs.map V.int))) a (.lst [.ref c, .int 0, .int 0, .int 7]))
abbrev s_law_spring : Stmt := top 35
abbrev n_law_spring : List Str := ["_law_script"]
theorem sc_law_spring : FnScope n_law_spring ["_law_script"] (defScope s_law_spring) := ⟨rfl, rfl, rfl, by decide +kernel, rfl, by decide +kernel, by decide +kernel⟩

theorem ok_law_spring {f : Addr} {fd : FuncData} (F : Fun K "_law_spring" "_law_spring" s_law_spring f fd) (T : Bn mg) : FnOk P w K mg base CX0 1 f fd ["_law_script"] (spSpring K) := by
  refine F.ok sc_law_spring (fun vs H Q E h => ?_) (fun cdv A outer s H vs Q E hr h => ?_)
  · obtain ⟨p, cs, rfl, _⟩ := h; rfl
  · obtain ⟨p, cs, rfl, hp, q⟩ := h
    refine ⟨_, (pss_one (ps_ret (pe_lst (pa_cons (pe_callTy (k_listOf (K := K) rfl) (by rfl) T.list (by decide +kernel) (pa_cons (pv 0) pa_nil)) (pa_cons pe_int (pa_cons pe_int (pa_cons pe_int pa_nil))))))), ?_⟩
    refine ⟨_, rfl, p, cs.map V.int, rfl, .inl hp, fun c hc => ⟨show (4 : Nat) ≤ sizeLine by decide, fun a ha => ?_⟩⟩
    have ne : a ≠ c := fun e => by rw [e, upd_same] at ha; cases ha
    rw [upd_ne ne] at ha
    exact q c a hc ne ha
theorem reps_int (Z : Addr → Prop) (H : Hp) : ∀ cs : List Int, Reps Z H (cs.map V.int) (cs.map Du.D.int)
  | [] => .nil
  | x :: cs => .cons (.int x) (reps_int Z H cs)
/-- a law's first row: the spring; then what is shown of the rest -/
def RPick (ds : List D) (μ : Mu) (Φ : D → Mu → Prop) : Prop := ∃ (a c : Addr) (N : Nat) (xs : List D), ds = [.ptr a, .lst xs] ∧ SpS a c N μ ∧ N < 100000 ∧ 0 < xs.length ∧ xs.length < 100000 ∧
  ∀ (μ' : Mu) (d : D), SpS a c (N + 1) μ' → d ∈ xs → Φ d μ'
abbrev s_law_pick : Stmt := top 37
abbrev n_law_pick : List Str := ["_law_spring_here", "_law_things_here"]
theorem sc_law_pick : FnScope n_law_pick ["_law_spring_here", "_law_things_here"] (defScope s_law_pick) := ⟨rfl, rfl, rfl, by decide +kernel, rfl, by decide +kernel, by decide +kernel⟩

theorem ok_law_pick {f : Addr} {fd : FuncData} (F : Fun K "_law_pick" "_law_pick" s_law_pick f fd) (T : Bn mg) (c_law_draw : C8.Cal P w K mg base 1 "_law_draw" (spM RDraw) []) : FnOk P w K mg base CX0 2 f fd ["_law_spring_here", "_law_things_here"] (spM RPick) := by
  refine eff_ok F sc_law_pick (fun ds μ Φ h => ?_) (fun cdv A outer s H E hr => ?_)
  · obtain ⟨a, c, N, xs, rfl, _⟩ := h; rfl
  · refine ⟨_, (pss_one (ps_ret (pe_ix (k_ix (K := K) rfl) (pv 1) (C8.pe_c c_law_draw hr (by omega) rfl (pa_cons (pv 0) (pa_cons (pe_callB (k_len (K := K) rfl) (by rfl) T.len (by decide +kernel) (pa_cons (pv 1) pa_nil)) pa_nil))) (fun _ _ => rfl)))), ?_⟩
    intro ds μ Φ h
    obtain ⟨a, c, N, xs, rfl, hs, hN, h0, h1, q⟩ := h
    refine gs_ret (ge_op (ge_ev (ev_var rfl) (ge_callA (gea_ev (ev_cons (ev_var rfl) (ev_cons (ev_cb (ev_cons (ev_var rfl) ev_nil) rl_lenL) ev_nil)) ⟨a, c, N, xs.length, rfl, hs, hN, h0, h1, fun μ' d hs' hd => ⟨xs[d], rd_ixL (List.getElem?_eq_getElem hd), ?_, q μ' _ hs' (List.getElem_mem hd)⟩⟩))))
    rw [hs'.fst, hs.fst]
def spLaw (K : PySem.W.Frag) : Sp := fun vs H Q _ => ∃ (p : Addr) (cs : List Int), vs = [.ref p] ∧ SqL K H p (cs.map V.int) ∧ ∀ H', Q (.bl true) H'
/-! the first row -/
theorem law_startN {us : TS} {m : Nat} {p : Addr} {cs : List Int} {H : Hp} {E : Ends} {E' : XK} (hp : SqL K H p (cs.map V.int)) (hq : ∀ H', E.rt (.bl true) H')
    (hg : ∀ a c, GN us (none :: some (.ptr a) :: List.replicate m none) (spr a c cs 0 0 7) (fun _ _ => False) (fun d _ => d = .bl true)) :
    tSeq (tAsg (tCall (spSpring K) [] E' (tCons (tVar 0) tNil)) (gName 1)) us E (some (.ref p) :: none :: List.replicate m none) H := by
  refine ⟨_, rfl, p, cs, rfl, hp, fun c a hc ne ha => ?_⟩
  dsimp only [gName]
  have ho : okZ (fun b => b = a ∨ b = c) (upd (upd H c (.lst (cs.map V.int))) a (.lst [.ref c, .int 0, .int 0, .int 7])) := fun b hb => by
    rcases hb with rfl | rfl
    · exact ⟨_, upd_same, rfl⟩
    · exact ⟨_, by rw [upd_ne ne.symm]; exact upd_same, rfl⟩
  have hm : Mem (fun b => b = a ∨ b = c) (upd (upd H c (.lst (cs.map V.int))) a (.lst [.ref c, .int 0, .int 0, .int 7])) (spr a c cs 0 0 7) := by
    refine ⟨fun x hx => ?_, ?_⟩
    · rcases List.mem_cons.mp hx with rfl | hx
      · exact ⟨.inl rfl, .lst upd_same (.cons (.ptr c) (.cons (.int 0) (.cons (.int 0) (.cons (.int 7) .nil))))⟩
      · have := List.mem_singleton.mp hx
        subst this
        exact ⟨.inr rfl, .lst (by rw [upd_ne ne.symm]; exact upd_same) (reps_int _ _ cs)⟩
    · simp [spr]; exact ne
  have hsr : SRep (fun b => b = a ∨ b = c) (upd (upd H c (.lst (cs.map V.int))) a (.lst [.ref c, .int 0, .int 0, .int 7])) (some (.ref p) :: some (.ref a) :: List.replicate m none) (none :: some (.ptr a) :: List.replicate m none) := by
    refine ⟨by simp, fun i d hi => ?_⟩
    match i, hi with
    | 0, hi => cases hi
    | 1, hi => cases hi; exact ⟨_, rfl, .ptr a⟩
    | i + 2, hi =>
      have h2 : (List.replicate m (none : Option Du.D))[i]? = some (some d) := hi
      rw [List.getElem?_replicate] at h2
      split at h2 <;> cases h2
  exact hg a c _ _ _ _ ho hsr hm (fun _ _ _ _ _ h => h.elim) fun v H' d μ' Z' e z r => by subst e; cases r; exact hq H'
end
end Du
namespace Du
open PySem L2
/-! {k: v, ..} with texts -/
section
variable {ρ : Rho}
theorem pairs_run : ∀ (rows : List (Str × TE × D)), (∀ r ∈ rows, Ev r.2.1 ρ r.2.2) → ∀ (Z : Addr → Prop) (σ : L2.St) (H : Hp) (Q : List (V × V) → Hp → Prop), okZ Z H → SRep Z H σ ρ →
    (∀ (kvs : List (Key × V)) H', Ex H H' → RepK Z H' kvs (rows.map fun r => ((.inr r.1 : Key), r.2.2)) → Q (kvs.map fun kv => (kV kv.1, kv.2)) H') → tPairs (rows.map fun r => (tC (.str r.1), r.2.1)) σ H Q
  | [], _, Z, σ, H, Q, k, s, q => q [] H (Ex.rf H) .nil
  | r :: rows, h, Z, σ, H, Q, k, s, q =>
    h r List.mem_cons_self Z σ H _ k s fun y H2 x2 r2 => pairs_run rows (fun z hz => h z (List.mem_cons_of_mem _ hz)) Z σ H2 _ (k.ex x2) (s.mono x2.to) fun kvs H3 x3 r3 => q ((.inr r.1, y) :: kvs) H3 (x2.tr x3) (.cons (r2.mono x3.to) r3)
theorem repK_keys {Z : Addr → Prop} {H : Hp} : ∀ {kvs : List (Key × V)} {ds : List (Key × D)}, RepK Z H kvs ds → kvs.map (·.1) = ds.map (·.1)
  | [], _, .nil => rfl
  | _ :: _, _, .cons _ t => by rw [List.map_cons, List.map_cons, repK_keys t]
theorem merge_self : ∀ (kvs acc : List (Key × V)), ((acc ++ kvs).map (·.1)).Nodup → kvs.foldl (fun acc kv => putK acc kv.1 kv.2) acc = acc ++ kvs
  | [], acc, _ => by simp
  | p :: kvs, acc, h => by
    have hp : (acc.any fun kv => decide (kv.1 = p.1)) = false := by
      rw [List.any_eq_false]
      intro q hq
      have h2 := h
      rw [List.map_append, List.map_cons] at h2
      have := (List.nodup_append.mp h2).2.2 q.1 (List.mem_map_of_mem hq) p.1 List.mem_cons_self
      simpa using this
    rw [List.foldl_cons]
    unfold putK
    rw [hp, if_neg Bool.false_ne_true]
    have := merge_self kvs (acc ++ [(p.1, p.2)]) (by simpa [List.append_assoc] using h)
    unfold putK at this
    rw [this]; simp
theorem ev_disp {rows : List (Str × TE × D)} (h : ∀ r ∈ rows, Ev r.2.1 ρ r.2.2) (nd : (rows.map (·.1)).Nodup) (hl : rows.length ≤ 15) : Ev (tDisp (rows.map fun r => (tC (.str r.1), r.2.1))) ρ (.dK (rows.map fun r => ((.inr r.1 : Key), r.2.2))) := fun Z σ H Q k s q p hp => by
  have k1 : okZ (fun a => Z a ∨ a = p) (L2.upd H p (.dK [])) := k.add rfl
  have hz' : ∀ a, (Z a ∨ a = p) → Z a ∨ H a = none := fun a z => z.imp id fun (e : a = p) => by rw [e]; exact hp
  have s1 : SRep (fun a => Z a ∨ a = p) (L2.upd H p (.dK [])) σ ρ := (s.zs hz').mono (Ext.new hp)
  refine pairs_run rows h _ σ _ _ k1 s1 fun kvs H2 x2 r2 => ?_
  have hk := repK_keys r2
  have hnd : (kvs.map (·.1)).Nodup := by
    rw [hk, List.map_map]
    exact List.pairwise_map.mpr ((List.pairwise_map.mp nd).imp fun hab e => hab (Sum.inr.inj e))
  have hlen : kvs.length ≤ 15 := by
    have := congrArg List.length hk
    rw [List.length_map, List.length_map, List.length_map] at this
    omega
  refine ⟨x2 _ _ upd_same, kvs, rfl, hlen, ?_⟩
  have em : mergeK [] kvs = kvs := by
    unfold mergeK
    rw [merge_self kvs [] (by simpa using hnd)]; rfl
  rw [em]
  refine q _ _ (fun a o ha => ?_) (.dK (k.no hp) (.inl upd_same) ((r2.mono ((Ext.rf H2).mut (.inr rfl))).zs fun a z => .inl (.inl z)))
  have hne : a ≠ p := fun e => by rw [e, hp] at ha; cases ha
  rw [upd_ne hne]
  exact x2 a o (by rw [upd_ne hne]; exact ha)
end
end Du
namespace Du
open PySem L2
/-- a list literal that is owned, with owned things in it -/
theorem gx_lstO {ρ : Rho} {μ : Mu} {Φ : D → Mu → Prop} {ta : TA} (h : GXA ta ρ μ fun ds μ1 => ds.length ≤ 100000 ∧ ∀ a, ¬ dom μ1 a → Φ (.ptr a) ((a, .lst ds) :: μ1)) : GX (tLst ta) ρ μ Φ := fun Z σ H Q k s m f =>
  h Z σ H _ k s m fun vs H1 ds μ1 Z1 ⟨hz, q⟩ n1 r1 => ⟨Nat.le_trans (by rw [r1.len]; exact hz) (by decide), fun p hp =>
    f _ _ _ _ _ (q p fun h => n1.ok.no hp (n1.mem.dz h)) (n1.tr k m (Nw.own n1.ok n1.mem hp rfl (.lst upd_same ((r1.zs fun b z => z.imp id fun (e : b = p) => by rw [e]; exact hp).mono (Ext.new hp))))) (.ptr p)⟩
theorem ef_disp {ρ : Rho} {rows : List (Str × TE × D)} (h : ∀ r ∈ rows, Ev r.2.1 ρ r.2.2) (nd : (rows.map (·.1)).Nodup) (hl : rows.length ≤ 15) : EvF (tDisp (rows.map fun r => (tC (.str r.1), r.2.1))) ρ (.dK (rows.map fun r => ((.inr r.1 : Key), r.2.2))) := fun Z σ H Q k s q p hp => by
  have k1 : okZ (fun a => Z a ∨ a = p) (L2.upd H p (.dK [])) := k.add rfl
  have hz' : ∀ a, (Z a ∨ a = p) → Z a ∨ H a = none := fun a z => z.imp id fun (e : a = p) => by rw [e]; exact hp
  have s1 : SRep (fun a => Z a ∨ a = p) (L2.upd H p (.dK [])) σ ρ := (s.zs hz').mono (Ext.new hp)
  refine pairs_run rows h _ σ _ _ k1 s1 fun kvs H2 x2 r2 => ?_
  have hk := repK_keys r2
  have hnd : (kvs.map (·.1)).Nodup := by
    rw [hk, List.map_map]
    exact List.pairwise_map.mpr ((List.pairwise_map.mp nd).imp fun hab e => hab (Sum.inr.inj e))
  have hlen : kvs.length ≤ 15 := by
    have := congrArg List.length hk
    rw [List.length_map, List.length_map, List.length_map] at this
    omega
  refine ⟨x2 _ _ upd_same, kvs, rfl, hlen, ?_⟩
  have em : mergeK [] kvs = kvs := by
    unfold mergeK
    rw [merge_self kvs [] (by simpa using hnd)]; rfl
  rw [em]
  have e3 : L2.upd H2 p (.dK kvs) = L2.upd (L2.del H2 p) p (.dK kvs) := by
    funext b
    by_cases hb : b = p
    · rw [hb, upd_same, upd_same]
    · rw [upd_ne hb, upd_ne hb, L2.del_ne hb]
  rw [e3]
  refine q p (L2.del H2 p) _ (fun a o ha => ?_) L2.del_same rfl (.dK upd_same ?_)
  · have hne : a ≠ p := fun e => by rw [e, hp] at ha; cases ha
    rw [L2.del_ne hne]
    exact x2 a o (by rw [upd_ne hne]; exact ha)
  · rw [← e3]
    exact r2.mono ((Ext.rf H2).mut (.inr rfl))
/-! the rows, all of them -/
def fld28 : List (Str × Str) := ((th13.map fun n => (n, ("thing" : Str))) ++ (nm9.map fun n => (n, ("name" : Str)))) ++ ((ix4.map fun n => (n, ("index" : Str))) ++ [(("Broken" : Str), ("promise" : Str)), (("Refused" : Str), ("row" : Str))])
def rowsX (ca : Str → Addr) (d : D) : List D := fld28.map fun p => rowE ca p.2 d p.1
theorem rowsX_eq (ca : Str → Addr) (d : D) : (thingsD ca d ++ namesD ca d) ++ othersD ca d = rowsX ca d := by
  unfold thingsD namesD othersD rowsX fld28
  simp only [List.map_append, List.map_map, List.map_cons, List.map_nil, List.append_assoc]
  rfl
theorem fld_at : ∀ k, k < 28 → all32[k]? = some (fld28.getD k ("", "")).1 := by decide +kernel
theorem fld_len : fld28.length = 28 ∧ all32[28]? = some ("UnlikeBooks" : Str) ∧ all32[29]? = some ("BadText" : Str) ∧ all32[30]? = some ("NothingToUndo" : Str) ∧ all32[31]? = some ("NotSure" : Str) := by decide +kernel
theorem row_at {ca : Str → Addr} {d r : D} {k : Nat} (h : (rowsX ca d)[k]? = some r) : ∃ n f, r = rowE ca f d n ∧ all32[k]? = some n := by
  unfold rowsX at h
  rw [List.getElem?_map] at h
  obtain ⟨p, hp, rfl⟩ := Option.map_eq_some_iff.mp h
  have hk : k < 28 := by have := (List.getElem?_eq_some_iff.mp hp).1; rwa [fld_len.1] at this
  refine ⟨p.1, p.2, rfl, ?_⟩
  rw [fld_at k hk, List.getD_eq_getElem?_getD, hp]; rfl
def xs4 : List Str := ["UnlikeBooks", "BadText", "NothingToUndo", "NotSure"]
theorem xs4_at : ∀ k, k < 4 → all32[28 + k]? = xs4[k]? := by decide +kernel
theorem unx_map {α : Type} {μ : Mu} {f g : α → D} (h : ∀ p, UnX μ (f p) (g p)) : ∀ l : List α, UnXs μ (l.map f) (l.map g)
  | [] => .nil
  | p :: l => .cons (h p) (unx_map h l)
def xs10 : List D := [.non, .int 5, .int (-1), .bl true, .str "a", .str "", .tup [.str "a", .int 1], .lst [.str "b", .tup []], .dK [(.inr "c", .int 1)], .int ((10 : Int) ^ (30 : Int).toNat)]
theorem r1_negI {i : Int} : R1D (rU fun i => .int (-i)) (.int i) (.int (-i)) := fun Z H x Q k r q => by
  cases r; exact ⟨i, rfl, q _ H (Ex.rf H) (.int _)⟩
theorem shw_c {d : D} (h : (shX d && ((toX d).showable && ((toX d).leavesShort 8 && (decide ((toX d).depth ≤ 20) && decide ((toX d).bulk ≤ 2 ^ 20))))) = true) : ShW d 20 (2 ^ 20) := by
  simp only [Bool.and_eq_true, decide_eq_true_eq] at h
  exact ⟨h.1, h.2.1, h.2.2.1, h.2.2.2.1, h.2.2.2.2⟩
theorem repr_int {i : Int} (h : i.natAbs.log2 < 1920) : ∃ t, ReprT (.int i) t := ⟨Str.ofString (toString i), .inr (by
  show (if i.natAbs.log2 < 1920 then some (Str.ofString (toString i)) else none) = _
  rw [if_pos h])⟩
theorem repr_str {x : Str} (h : (reprText x).length ≤ 1000) : ∃ t, ReprT (.str x) t := ⟨reprText x, .inr (by
  show (if (reprText x).length ≤ 1000 then some (reprText x) else none) = _
  rw [if_pos h])⟩
theorem xs10_repr : ∀ d ∈ xs10, ∃ t, ReprT d t := by
  intro d hd
  simp only [xs10, List.mem_cons, List.not_mem_nil, or_false] at hd
  rcases hd with rfl | rfl | rfl | rfl | rfl | rfl | rfl | rfl | rfl | rfl
  · exact ⟨_, .inr rfl⟩
  · exact repr_int (by decide +kernel)
  · exact repr_int (by decide +kernel)
  · exact ⟨_, .inr rfl⟩
  · exact repr_str (by decide +kernel)
  · exact repr_str (by decide +kernel)
  · exact ⟨_, .inl ⟨rfl, shw_c (by decide +kernel), rfl⟩⟩
  · exact ⟨_, .inl ⟨rfl, shw_c (by decide +kernel), rfl⟩⟩
  · exact ⟨_, .inl ⟨rfl, shw_c (by decide +kernel), rfl⟩⟩
  · exact repr_int (by decide +kernel)
/-- what is kept, as it is at the end -/
def keptD : D := .lst [.str "b", .lst [.int 1, .int 3], .dK [(.inr "c", .lst [.int 2]), (.inr "d", .int 4)], .str "more"]
theorem kept_repr : ReprT keptD (toX keptD).shown ∧ PyData.strOk (toX keptD).shown = true := ⟨.inl ⟨rfl, shw_c (by decide +kernel), rfl⟩, by decide +kernel⟩
section
variable {P : Program} {w : World} {K : PySem.W.Frag} {mg : Str → Option Value} {base : Heap} {ca : Str → Addr} {ρ : Rho}
abbrev s_law : Stmt := top 43
abbrev n_law : List Str := ["_law_script", "_law_spring_here", "_law_turn", "_law_kept", "_law_rows", "_law_x", "_law_at", "_law_e", "_law_one", "_law_other", "_law_first", "_law_second"]
theorem sc_law : FnScope n_law ["_law_script"] (defScope s_law) := ⟨rfl, rfl, rfl, by decide +kernel, rfl, by decide +kernel, by decide +kernel⟩

theorem ok_law {f : Addr} {fd : FuncData} (F : Fun K "law" "law" s_law f fd) (T : TEr K mg ca) (V : UE P w K mg base ca) (hsm : (List.lookup PySem.sysModules K).isSome = true)
    (c_law_spring : C8.Cal P w K mg base 1 "_law_spring" (spSpring K) []) (c_law_pick : C8.Cal P w K mg base 2 "_law_pick" (spM RPick) []) (c_law_things : C8.Cal P w K mg base 3 "_law_things" (spP (RThings ca)) []) (c_law_names : C8.Cal P w K mg base 3 "_law_names" (spP (RNamesE ca)) []) (c_law_others : C8.Cal P w K mg base 3 "_law_others" (spP (ROthers ca)) []) (c_law_is_alone : C8.Cal P w K mg base 2 "_law_is_alone" (spP (RAlone ca)) []) : FnG P w K mg base 4 f fd ["_law_script"] (spLaw K) := by
  refine Fun.okG F sc_law (fun vs H Q E h => ?_) (fun cdv s H vs Q E hr h => ?_)
  · obtain ⟨p, cs, rfl, _⟩ := h; rfl
  · obtain ⟨p, cs, rfl, hp, q⟩ := h
    obtain ⟨U_BadTruth, U_BadTests, U_BadDeeds, U_BadTruths, U_NoDeed, U_BadCount, U_NoPlace, U_BadSize, U_NoState, U_BadRow, U_BadIndex, U_NoRow, U_BadPurse, U_BadName, U_NoTest, U_BadSet, U_BadWays, U_NoName, U_Leaned, U_BadCosts, U_BadWeights, U_BadEquation, U_BadTerm, U_BadPromise, U_BadLine, U_BadBar, U_Broken, U_Refused, U_UnlikeBooks, U_BadText, U_NothingToUndo, U_NotSure⟩ := V
    refine ⟨_, (pss_cons (ps_set (i := 1) sc_law.nd rfl (by first | exact Or.inl rfl | exact Or.inr rfl) (C8.pe_c c_law_spring hr (by omega) rfl (pa_cons (pv 0) pa_nil))) (pss_cons (ps_for PassesOwn.never rfl (pi_range1 (by rfl) T.range (pa_cons pe_int pa_nil)) (pg_name (i := 2) sc_law.nd rfl (by first | exact Or.inl rfl | exact Or.inr rfl)) (pss_cons (ps_set (i := 5) sc_law.nd rfl (by first | exact Or.inl rfl | exact Or.inr rfl) (C8.pe_c c_law_pick hr (by omega) rfl (pa_cons (pv 1) (pa_cons (pe_lst (pa_cons pe_non (pa_cons pe_int (pa_cons (pe_un un_neg pe_int) (pa_cons pe_bl (pa_cons pe_str (pa_cons pe_str (pa_cons (pe_tup (pa_cons pe_str (pa_cons pe_int pa_nil))) (pa_cons (pe_lst (pa_cons pe_str (pa_cons (pe_tup pa_nil) pa_nil))) (pa_cons (pe_disp (pps_cons pe_str pe_int pps_nil) (by rfl) (by rfl) (by simp) (by decide)) (pa_cons (pe_op op_pow pe_int pe_int) pa_nil))))))))))) pa_nil)))) (pss_one (ps_for PassesOwn.never rfl (pi_enumA (K := K) rfl (by rfl) T.enumerate (pa_cons (pe_op (k_addU (K := K) rfl) (pe_op (k_addU (K := K) rfl) (C8.pe_c c_law_things hr (by omega) rfl (pa_cons (pv 5) pa_nil)) (C8.pe_c c_law_names hr (by omega) rfl (pa_cons (pv 5) pa_nil))) (C8.pe_c c_law_others hr (by omega) rfl (pa_cons (pv 5) pa_nil))) pa_nil)) (k_pgt (K := K) (n := 2) rfl rfl (pgs_cons (pg_name (i := 6) sc_law.nd rfl (by first | exact Or.inl rfl | exact Or.inr rfl)) (pgs_cons (k_pgt (K := K) (n := 4) rfl rfl (pgs_cons (pg_name (i := 8) sc_law.nd rfl (by first | exact Or.inl rfl | exact Or.inr rfl)) (pgs_cons (pg_name (i := 9) sc_law.nd rfl (by first | exact Or.inl rfl | exact Or.inr rfl)) (pgs_cons (pg_name (i := 10) sc_law.nd rfl (by first | exact Or.inl rfl | exact Or.inr rfl)) (pgs_cons (pg_name (i := 11) sc_law.nd rfl (by first | exact Or.inl rfl | exact Or.inr rfl)) pgs_nil))))) pgs_nil))) (pss_cons (ps_if (PW.pt (pw_or (pt_cmpR op_ne (pe_callB (k_reprY (K := K) rfl hsm hr rfl) (by rfl) T.repr (by decide +kernel) (pa_cons (pv 10) pa_nil)) (pe_callB (k_reprY (K := K) rfl hsm hr rfl) (by rfl) T.repr (by decide +kernel) (pa_cons (pv 5) pa_nil)) (nomark _)) (pw_or1 (pt_cmpR op_ne (pe_callB (k_reprY (K := K) rfl hsm hr rfl) (by rfl) T.repr (by decide +kernel) (pa_cons (pv 11) pa_nil)) (pe_callB (k_reprY (K := K) rfl hsm hr rfl) (by rfl) T.repr (by decide +kernel) (pa_cons (pv 5) pa_nil)) (nomark _))))) (pss_one (ps_ret pe_bl)) pss_nil) (pss_one (ps_if (PW.pt (pw_or (pt_not (pt_val (C8.pe_c c_law_is_alone hr (by omega) rfl (pa_cons (pv 8) (pa_cons (pv 6) pa_nil))))) (pw_or1 (pt_not (pt_val (C8.pe_c c_law_is_alone hr (by omega) rfl (pa_cons (pv 9) (pa_cons (pv 6) pa_nil)))))))) (pss_one (ps_ret pe_bl)) pss_nil))))))) (pss_cons (ps_set (i := 3) sc_law.nd rfl (by first | exact Or.inl rfl | exact Or.inr rfl) (pe_lst (pa_cons pe_str (pa_cons (pe_lst (pa_cons pe_int pa_nil)) (pa_cons (pe_disp (pps_cons pe_str (pe_lst (pa_cons pe_int pa_nil)) pps_nil) (by rfl) (by rfl) (by simp) (by decide)) pa_nil))))) (pss_cons (ps_set (i := 4) sc_law.nd rfl (by first | exact Or.inl rfl | exact Or.inr rfl) (pe_op (k_addU (K := K) rfl) (pe_op (k_addU (K := K) rfl) (C8.pe_c c_law_things hr (by omega) rfl (pa_cons (pv 3) pa_nil)) (C8.pe_c c_law_names hr (by omega) rfl (pa_cons (pv 3) pa_nil))) (C8.pe_c c_law_others hr (by omega) rfl (pa_cons (pv 3) pa_nil)))) (pss_cons (ps_expr (k_bm (K := K) rfl PySem.F.plainAttrs_list PySem.F.slot_list_append PySem.F.type_list_append mt_append (pv 3) (pa_cons pe_str pa_nil))) (pss_cons (ps_expr (k_bm (K := K) rfl PySem.F.plainAttrs_list PySem.F.slot_list_append PySem.F.type_list_append mt_append (pe_ix (k_ix (K := K) rfl) (pv 3) pe_int (fun _ _ => rfl)) (pa_cons pe_int pa_nil))) (pss_cons (ps_dput (hu_of hr) (pe_ix (k_ix (K := K) rfl) (pv 3) pe_int (fun _ _ => rfl)) pe_str pe_int rfl) (pss_cons (ps_if (pt_not (pt_val (pe_callB (k_all (K := K) rfl rfl) (by rfl) T.all (by decide +kernel) (pa_cons (pe_lc (own := [("_law_one", 8), ("_law_other", 9), ("_law_first", 10), ("_law_second", 11)]) rfl sc_law.nd (k_seq (K := K) rfl (pv 4)) (blkOk_by (own := [("_law_one", 8), ("_law_other", 9), ("_law_first", 10), ("_law_second", 11)]) (N := n_law) (sc := defScope s_law) (by decide +kernel)) (fun _ _ _ _ _ => (k_pgt (K := K) (n := 4) rfl rfl (pgs_cons (pg_name (i := 8) sc_law.nd rfl (by first | exact Or.inl rfl | exact Or.inr rfl)) (pgs_cons (pg_name (i := 9) sc_law.nd rfl (by first | exact Or.inl rfl | exact Or.inr rfl)) (pgs_cons (pg_name (i := 10) sc_law.nd rfl (by first | exact Or.inl rfl | exact Or.inr rfl)) (pgs_cons (pg_name (i := 11) sc_law.nd rfl (by first | exact Or.inl rfl | exact Or.inr rfl)) pgs_nil)))))) (fun _ _ _ _ _ => pts_nil) (fun _ _ _ _ _ => (pe_and (pe_cmpR (k_eq (K := K) rfl hr) (pe_callB (k_reprY (K := K) rfl hsm hr rfl) (by rfl) T.repr (by decide +kernel) (pa_cons (pv 10) pa_nil)) (pe_callB (k_reprY (K := K) rfl hsm hr rfl) (by rfl) T.repr (by decide +kernel) (pa_cons (pv 3) pa_nil)) (nomark _)) (pe_one (pe_cmpR (k_eq (K := K) rfl hr) (pe_callB (k_reprY (K := K) rfl hsm hr rfl) (by rfl) T.repr (by decide +kernel) (pa_cons (pv 11) pa_nil)) (pe_callB (k_reprY (K := K) rfl hsm hr rfl) (by rfl) T.repr (by decide +kernel) (pa_cons (pv 3) pa_nil)) (nomark _)))))) pa_nil)))) (pss_one (ps_ret pe_bl)) pss_nil) (pss_cons (ps_for PassesOwn.never rfl (pi_enumA (K := K) rfl (by rfl) T.enumerate (pa_cons (pe_lst (pa_cons (pe_err0 U_UnlikeBooks hr (by omega) rfl) (pa_cons (pe_err0 U_BadText hr (by omega) rfl) (pa_cons (pe_err0 U_NothingToUndo hr (by omega) rfl) (pa_cons (pe_err0 U_NotSure hr (by omega) rfl) pa_nil))))) pa_nil)) (k_pgt (K := K) (n := 2) rfl rfl (pgs_cons (pg_name (i := 6) sc_law.nd rfl (by first | exact Or.inl rfl | exact Or.inr rfl)) (pgs_cons (pg_name (i := 7) sc_law.nd rfl (by first | exact Or.inl rfl | exact Or.inr rfl)) pgs_nil))) (pss_one (ps_if (pt_not (pt_val (C8.pe_c c_law_is_alone hr (by omega) rfl (pa_cons (pv 7) (pa_cons (pe_op (k_addU (K := K) rfl) pe_int (pv 6)) pa_nil))))) (pss_one (ps_ret pe_bl)) pss_nil))) (pss_one (ps_ret pe_bl))))))))))), ?_⟩
    refine law_startN (m := 10) hp q fun a c => ?_
    have evRows : ∀ {ρ : Rho} {i : Nat} {d : Du.D}, ρ[i]? = some (some d) → Ev (tOp (rAddU K) (tOp (rAddU K) (tCall (spP (RThings ca)) [] C8.E0 (tCons (tVar i) tNil)) (tCall (spP (RNamesE ca)) [] C8.E0 (tCons (tVar i) tNil))) (tCall (spP (ROthers ca)) [] C8.E0 (tCons (tVar i) tNil))) ρ (.lst (rowsX ca d)) := fun {ρ i d} h => by
      rw [← rowsX_eq]
      exact ev_op (ev_op (ev_call (ev_cons (ev_var h) ev_nil) ⟨_, rfl, rfl⟩) (ev_call (ev_cons (ev_var h) ev_nil) ⟨_, rfl, rfl⟩) (rd_addL (by simp [thingsD, namesD, th13, nm9]))) (ev_call (ev_cons (ev_var h) ev_nil) ⟨_, rfl, rfl⟩) (rd_addL (by simp [thingsD, namesD, othersD, th13, nm9, ix4]))
    refine gn_sq (gs_for (fun i ρ' μ' => ρ' = [none, some (.ptr a), none, none, none, none, none, none, none, none, none, none] ∧ SpS a c i μ') (ei_range1 (n := 3) (ev_cons ev_int ev_nil) (by decide)) (Lq.rf _) ⟨rfl, cs, 0, 0, 7, rfl, by decide, by decide, by decide, by decide, by decide⟩ ?_ ?_)
    · rintro i di ρi μ1 hdi ⟨rfl, hs⟩
      have hi : i < 3 := by have := (List.getElem?_eq_some_iff.mp hdi).1; simpa using this
      refine ⟨_, ga_name, ?_⟩
      refine gs_seq (gs_asg (ge_callA (gea_ev (ev_cons (ev_var rfl) (ev_cons (d := .lst xs10) (ev_lst ?_ (by simp [xs10])) ev_nil)) ⟨a, c, _, xs10, rfl, hs, by omega, by simp [xs10], by simp [xs10], fun μ2 d hs2 hd => ?_⟩)))
      · refine ev_cons ev_non ?_
        refine ev_cons ev_int ?_
        refine ev_cons (ev_un ev_int r1_negI) ?_
        refine ev_cons ev_bl ?_
        refine ev_cons ev_str ?_
        refine ev_cons ev_str ?_
        refine ev_cons (ev_tup (ev_cons ev_str (ev_cons ev_int ev_nil)) (by simp)) ?_
        refine ev_cons (ev_lst (ev_cons ev_str (ev_cons (ev_tup ev_nil (by simp)) ev_nil)) (by simp)) ?_
        refine ev_cons (ev_disp (rows := [("c", tC (.int 1), .int 1)]) (fun r hr => by rw [List.mem_singleton.mp hr]; exact ev_int) (by simp) (by simp)) ?_
        exact ev_cons (ev_op ev_int ev_int (rd_pow ⟨by decide, by decide, by decide⟩)) ev_nil
      · obtain ⟨t, ht⟩ := xs10_repr d hd
        have ev : ∀ {ρ : Rho} {i : Nat}, ρ[i]? = some (some d) → Ev (tCB rReprY (tCons (tVar i) tNil)) ρ (.str t) := fun h => ev_cb (ev_cons (ev_var h) ev_nil) (rl_reprY ht)
        have ne : R2D rNe (.str t) (.str t) (.bl false) := by have := rd_neS (s := t) (t := t); rwa [decide_eq_true rfl] at this
        refine gs_for (fun k ρ' μ' => ρ' = [none, some (.ptr a), none, none, none, some (d), none, none, none, none, none, none] ∧ SpS a c (i + 1) μ') (ei_enumL (ev_cons (evRows rfl) ev_nil)) (.skip (.keep (.skip (.skip (.skip (.keep (.skip (.skip (.skip (.skip (.skip (.skip .nil)))))))))))) ⟨rfl, hs2⟩ ?_ ?_
        · rintro k dk ρk μk hdk ⟨rfl, hsk⟩
          rw [List.getElem?_map] at hdk
          obtain ⟨q1, hq1, rfl⟩ := Option.map_eq_some_iff.mp hdk
          rw [List.getElem?_zipIdx] at hq1
          obtain ⟨r, hr, rfl⟩ := Option.map_eq_some_iff.mp hq1
          obtain ⟨n, f, rfl, hn⟩ := row_at hr
          refine ⟨_, ga_tup (gas_cons ga_name (gas_cons (ga_tup (gas_cons ga_name (gas_cons ga_name (gas_cons ga_name (gas_cons ga_name gas_nil)))) rfl) gas_nil)) rfl, ?_⟩
          refine gs_seq (gs_st (st_if (b := false) (et_or (b := false) (c := false) (et_test (ev_op (ev rfl) (ev rfl) ne)) fun _ => et_test (ev_op (ev rfl) (ev rfl) ne)) (fun h => by cases h) fun _ => st_next) ?_)
          refine gs_st (st_if (b := false) (et_or (b := false) (c := false) (et_not (b := true) (et_B (ev_call (ev_cons (ev_var rfl) (ev_cons (ev_var rfl) ev_nil)) ⟨n, [(f, d)], 0 + k, rfl, by rw [Nat.zero_add]; exact hn, rfl⟩))) fun _ => et_not (b := true) (et_B (ev_call (ev_cons (ev_var rfl) (ev_cons (ev_var rfl) ev_nil)) ⟨n, [(f, d)], 0 + k, rfl, by rw [Nat.zero_add]; exact hn, rfl⟩))) (fun h => by cases h) fun _ => st_next) ⟨_, (.skip (.keep (.skip (.skip (.skip (.keep (.skip (.skip (.skip (.skip (.skip (.skip .nil)))))))))))), rfl, hsk⟩
        · rintro ρ' μ' ⟨rfl, hs3⟩
          exact ⟨_, (.skip (.keep (.skip (.skip (.skip (.skip (.skip (.skip (.skip (.skip (.skip (.skip .nil)))))))))))), rfl, hs3⟩
    · rintro ρ' μ1 ⟨rfl, hs⟩
      refine gn_seq (gn_asg (gx_lstO (gxa_cons (gx_ge (ge_ev ev_str (gxa_cons (gx_new (ef_lst (ds := [.int 1]) (ev_cons ev_int ev_nil) (by simp)) fun p1 hp1 => gxa_cons (gx_new (ef_disp (rows := [("c", tLst (tCons (tC (.int 2)) tNil), .lst [.int 2])]) (fun r hr => by rw [List.mem_singleton.mp hr]; exact ev_lst (ev_cons ev_int ev_nil) (by simp)) (by simp) (by simp)) fun p2 hp2 => gxa_nil ⟨by simp, fun a0 ha0 => ?_⟩) )))))))
      refine gn_sq (gs_st (st_asg (evRows rfl) ga_name) ?_)
      refine gn_sq (gs_drop (ge_append (ge_ev (ev_var rfl) ⟨a0, 0, _, rfl, rfl, gea_ev (ev_cons ev_str ev_nil) ⟨_, _, rfl, rfl, by simp, ?_⟩⟩)))
      refine gn_sq (gs_drop (ge_append (ge_ixO (ge_ev (ev_var rfl) (ge_ev ev_int ⟨a0, 0, _, 1, .ptr p1, rfl, rfl, rfl, rfl, p1, 2, _, rfl, rfl, gea_ev (ev_cons ev_int ev_nil) ⟨_, _, rfl, rfl, by simp, ?_⟩⟩)))))
      refine gn_sq (gs_kput (ge_ev ev_int (ge_ixO (ge_ev (ev_var rfl) (ge_ev ev_int ⟨a0, 0, _, 2, .ptr p2, rfl, rfl, rfl, rfl, ge_ev ev_str ⟨p2, 1, _, "d", rfl, rfl, rfl, by simp, ?_⟩⟩)))))
      have hk := kept_repr
      have evk : ∀ {ρ : Rho} {i : Nat}, ρ[i]? = some (some keptD) → Ev (tCB rReprY (tCons (tVar i) tNil)) ρ (.str (toX keptD).shown) := fun h => ev_cb (ev_cons (ev_var h) ev_nil) (rl_reprY hk.1)
      have eqk : R2D (rEqD K) (.str (toX keptD).shown) (.str (toX keptD).shown) (.bl true) := by
        have := rd_eq (K := K) (ok_str hk.2) (ok_str hk.2)
        rwa [eqD_str, decide_eq_true rfl] at this
      let μL : Mu := [(a0, .lst [.str "b", .ptr p1, .ptr p2, .str "more"]), (p2, .dK [((.inr "c" : Key), .lst [.int 2]), ((.inr "d" : Key), .int 4)]), (p1, .lst [.int 1, .int 3])]
      have uk : UnX μL (.ptr a0) keptD := .ptr (ds := [.str "b", .ptr p1, .ptr p2, .str "more"]) (by simp [μL]) (.cons (.rf _) (.cons (.ptr (ds := [.int 1, .int 3]) (by simp [μL]) (UnXs.rfs _)) (.cons (.dk (ds := [((.inr "c" : Key), .lst [.int 2]), ((.inr "d" : Key), .int 4)]) (by simp [μL]) (UnXk.rfs _)) (.cons (.rf _) .nil))))
      let row : Str × Str → Du.D := fun p => .tup [errD ca p.2 (.ptr a0) p.1, errD ca p.2 (.ptr a0) p.1, keptD, keptD]
      have ur : UnX μL (.lst (rowsX ca (.ptr a0))) (.lst (fld28.map row)) := .lst (unx_map (fun p => .tup (.cons (.rf _) (.cons (.rf _) (.cons uk (.cons uk .nil))))) fld28)
      refine (?_ : GN _ _ (μL ++ μ1) _ _)
      refine gn_seq (gn_if (gt_lendX (ρ' := [none, none, none, some (keptD), some (.lst (fld28.map row)), none, none, none, none, none, none, none]) (b := false) μL (fun p hp => List.mem_append_left _ hp) (.no (.no (.no (.yes uk (.yes ur (.no (.no (.no (.no (.no (.no (.no .nil)))))))))))) (et_not (b := true) (et_B ?_)) ?_))
      · have ea : true = ((fld28.map fun _ => true).all id) := by simp
        rw [ea]
        refine ev_cb (ev_cons (d := .lst ((fld28.map fun _ => true).map Du.D.bl)) ?_ ev_nil) rl_all
        rw [List.map_map]
        exact ev_lc1 (xs := fld28) (φ := row) (fe := fun _ => .bl true) (ei_seqL (ev_var rfl)) (by rw [fld_len.1]; decide) fun p hp => ⟨_, gw_tup (gws_cons (gw_name (by simp)) (gws_cons (gw_name (by simp)) (gws_cons (gw_name (by simp)) (gws_cons (gw_name (by simp)) gws_nil)))) rfl, ev_andV (b := true) (c := true) (ev_op (evk rfl) (evk rfl) eqk) fun _ => ev_op (evk rfl) (evk rfl) eqk⟩
      rw [if_neg (by simp)]
      refine gn_gs (gs_next ?_)
      refine gn_sq (gs_st (st_for (fun _ => [none, some (.ptr a), none, none, none, none, none, none, none, none, none, none]) (ei_enumL (ev_cons (ev_lst (ds := xs4.map fun n => .err (ca n) []) (ev_cons ev_err0 (ev_cons ev_err0 (ev_cons ev_err0 (ev_cons ev_err0 ev_nil)))) (by simp [xs4])) ev_nil)) (.skip (.keep (.skip (.skip (.skip (.skip (.skip (.skip (.skip (.skip (.skip (.skip .nil)))))))))))) fun k d hd => ?_) ?_)
      · rw [List.getElem?_map] at hd
        obtain ⟨q1, hq1, rfl⟩ := Option.map_eq_some_iff.mp hd
        rw [List.getElem?_zipIdx] at hq1
        obtain ⟨r, hr, rfl⟩ := Option.map_eq_some_iff.mp hq1
        rw [List.getElem?_map] at hr
        obtain ⟨n, hn, rfl⟩ := Option.map_eq_some_iff.mp hr
        have hk4 : k < 4 := by have := (List.getElem?_eq_some_iff.mp hn).1; simpa [xs4] using this
        have hx := xs4_at k hk4
        rw [hn] at hx
        have radd : R2D (rAddU K) (.int 28) (.int ((0 + k : Nat) : Int)) (.int ((28 + k : Nat) : Int)) := by
          have := rd_addI (K := K) (i := 28) (j := ((0 + k : Nat) : Int))
          rwa [show (28 : Int) + ((0 + k : Nat) : Int) = ((28 + k : Nat) : Int) by push_cast; omega] at this
        exact ⟨_, _, ga_tup (gas_cons ga_name (gas_cons ga_name gas_nil)) rfl, st_if (b := false) (et_not (b := true) (et_B (ev_call (ev_cons (ev_var rfl) (ev_cons (ev_op ev_int (ev_var rfl) radd) ev_nil)) ⟨n, [], 28 + k, rfl, hx, rfl⟩))) (fun h => by cases h) fun _ => st_next, (.skip (.keep (.skip (.skip (.skip (.skip (.skip (.skip (.skip (.skip (.skip (.skip .nil))))))))))))⟩
      · exact gn_ret (gx_ge (ge_ev ev_bl rfl))
end
end Du
namespace Du
open PySem L2
section
variable {P : Program} {w : World} {K : PySem.W.Frag} {mg : Str → Option Value} {base : Heap} {C : Addr}
abbrev s_BadTruth_init : Stmt := inClass (top 3) 0
abbrev n_BadTruth_init : List Str := ["self", "thing"]
theorem sc_BadTruth_init : FnScope n_BadTruth_init ["self", "thing"] (defScope s_BadTruth_init) := ⟨rfl, rfl, rfl, by decide +kernel, rfl, by decide +kernel, by decide +kernel⟩

theorem ok_E1_init {DE f : Addr} {mc : Value} {fd : FuncData} (F : Fun K "__init__" "BadTruth.__init__" s_BadTruth_init f fd) (gD : mg "DeedError" = some (.ref DE)) (rd : ClX.CRead K DE mc) (fc : PySem.W.findCls K (.ref DE) mc "__init__" = some (.val (.builtin "ValueError.__init__"))) (T : OexC K C) (no : PySem.W.findIn K (.ref C) "thing" = some none) : FnOk P w K mg base CX0 1 f fd ["self", "thing"] (spInF C "thing") := by
  refine F.ok sc_BadTruth_init (fun vs H Q E h => ?_) (fun cdv A outer s H vs Q E hr h => ?_)
  · obtain ⟨a, v, rfl, _⟩ := h; rfl
  · obtain ⟨a, v, rfl, ha, q⟩ := h
    refine ⟨_, pss_cons (ps_expr (pe_deinit (pe_glob (v := .ref _) rfl gD rfl) rd fc (pa_cons (pv 0) (pa_cons pe_str pa_nil)))) (pss_one (ps_ost (pv 0) (pv 1))), ?_⟩
    exact ⟨rfl, _, rfl, a, C, [.str _], rfl, by decide, T, ha, _, rfl, _, rfl, a, C, rfl, T, no, .inl ⟨ha, q⟩⟩
abbrev s_BadTests_init : Stmt := inClass (top 5) 0
abbrev n_BadTests_init : List Str := ["self", "thing"]
theorem sc_BadTests_init : FnScope n_BadTests_init ["self", "thing"] (defScope s_BadTests_init) := ⟨rfl, rfl, rfl, by decide +kernel, rfl, by decide +kernel, by decide +kernel⟩

theorem ok_E2_init {DE f : Addr} {mc : Value} {fd : FuncData} (F : Fun K "__init__" "BadTests.__init__" s_BadTests_init f fd) (gD : mg "DeedError" = some (.ref DE)) (rd : ClX.CRead K DE mc) (fc : PySem.W.findCls K (.ref DE) mc "__init__" = some (.val (.builtin "ValueError.__init__"))) (T : OexC K C) (no : PySem.W.findIn K (.ref C) "thing" = some none) : FnOk P w K mg base CX0 1 f fd ["self", "thing"] (spInF C "thing") := by
  refine F.ok sc_BadTests_init (fun vs H Q E h => ?_) (fun cdv A outer s H vs Q E hr h => ?_)
  · obtain ⟨a, v, rfl, _⟩ := h; rfl
  · obtain ⟨a, v, rfl, ha, q⟩ := h
    refine ⟨_, pss_cons (ps_expr (pe_deinit (pe_glob (v := .ref _) rfl gD rfl) rd fc (pa_cons (pv 0) (pa_cons pe_str pa_nil)))) (pss_one (ps_ost (pv 0) (pv 1))), ?_⟩
    exact ⟨rfl, _, rfl, a, C, [.str _], rfl, by decide, T, ha, _, rfl, _, rfl, a, C, rfl, T, no, .inl ⟨ha, q⟩⟩
abbrev s_BadDeeds_init : Stmt := inClass (top 6) 0
abbrev n_BadDeeds_init : List Str := ["self", "thing"]
theorem sc_BadDeeds_init : FnScope n_BadDeeds_init ["self", "thing"] (defScope s_BadDeeds_init) := ⟨rfl, rfl, rfl, by decide +kernel, rfl, by decide +kernel, by decide +kernel⟩

theorem ok_E3_init {DE f : Addr} {mc : Value} {fd : FuncData} (F : Fun K "__init__" "BadDeeds.__init__" s_BadDeeds_init f fd) (gD : mg "DeedError" = some (.ref DE)) (rd : ClX.CRead K DE mc) (fc : PySem.W.findCls K (.ref DE) mc "__init__" = some (.val (.builtin "ValueError.__init__"))) (T : OexC K C) (no : PySem.W.findIn K (.ref C) "thing" = some none) : FnOk P w K mg base CX0 1 f fd ["self", "thing"] (spInF C "thing") := by
  refine F.ok sc_BadDeeds_init (fun vs H Q E h => ?_) (fun cdv A outer s H vs Q E hr h => ?_)
  · obtain ⟨a, v, rfl, _⟩ := h; rfl
  · obtain ⟨a, v, rfl, ha, q⟩ := h
    refine ⟨_, pss_cons (ps_expr (pe_deinit (pe_glob (v := .ref _) rfl gD rfl) rd fc (pa_cons (pv 0) (pa_cons pe_str pa_nil)))) (pss_one (ps_ost (pv 0) (pv 1))), ?_⟩
    exact ⟨rfl, _, rfl, a, C, [.str _], rfl, by decide, T, ha, _, rfl, _, rfl, a, C, rfl, T, no, .inl ⟨ha, q⟩⟩
abbrev s_BadTruths_init : Stmt := inClass (top 8) 0
abbrev n_BadTruths_init : List Str := ["self", "thing"]
theorem sc_BadTruths_init : FnScope n_BadTruths_init ["self", "thing"] (defScope s_BadTruths_init) := ⟨rfl, rfl, rfl, by decide +kernel, rfl, by decide +kernel, by decide +kernel⟩

theorem ok_E4_init {DE f : Addr} {mc : Value} {fd : FuncData} (F : Fun K "__init__" "BadTruths.__init__" s_BadTruths_init f fd) (gD : mg "DeedError" = some (.ref DE)) (rd : ClX.CRead K DE mc) (fc : PySem.W.findCls K (.ref DE) mc "__init__" = some (.val (.builtin "ValueError.__init__"))) (T : OexC K C) (no : PySem.W.findIn K (.ref C) "thing" = some none) : FnOk P w K mg base CX0 1 f fd ["self", "thing"] (spInF C "thing") := by
  refine F.ok sc_BadTruths_init (fun vs H Q E h => ?_) (fun cdv A outer s H vs Q E hr h => ?_)
  · obtain ⟨a, v, rfl, _⟩ := h; rfl
  · obtain ⟨a, v, rfl, ha, q⟩ := h
    refine ⟨_, pss_cons (ps_expr (pe_deinit (pe_glob (v := .ref _) rfl gD rfl) rd fc (pa_cons (pv 0) (pa_cons pe_str pa_nil)))) (pss_one (ps_ost (pv 0) (pv 1))), ?_⟩
    exact ⟨rfl, _, rfl, a, C, [.str _], rfl, by decide, T, ha, _, rfl, _, rfl, a, C, rfl, T, no, .inl ⟨ha, q⟩⟩
abbrev s_NoDeed_init : Stmt := inClass (top 9) 0
abbrev n_NoDeed_init : List Str := ["self", "thing"]
theorem sc_NoDeed_init : FnScope n_NoDeed_init ["self", "thing"] (defScope s_NoDeed_init) := ⟨rfl, rfl, rfl, by decide +kernel, rfl, by decide +kernel, by decide +kernel⟩

theorem ok_E5_init {DE f : Addr} {mc : Value} {fd : FuncData} (F : Fun K "__init__" "NoDeed.__init__" s_NoDeed_init f fd) (gD : mg "DeedError" = some (.ref DE)) (rd : ClX.CRead K DE mc) (fc : PySem.W.findCls K (.ref DE) mc "__init__" = some (.val (.builtin "ValueError.__init__"))) (T : OexC K C) (no : PySem.W.findIn K (.ref C) "thing" = some none) : FnOk P w K mg base CX0 1 f fd ["self", "thing"] (spInF C "thing") := by
  refine F.ok sc_NoDeed_init (fun vs H Q E h => ?_) (fun cdv A outer s H vs Q E hr h => ?_)
  · obtain ⟨a, v, rfl, _⟩ := h; rfl
  · obtain ⟨a, v, rfl, ha, q⟩ := h
    refine ⟨_, pss_cons (ps_expr (pe_deinit (pe_glob (v := .ref _) rfl gD rfl) rd fc (pa_cons (pv 0) (pa_cons pe_str pa_nil)))) (pss_one (ps_ost (pv 0) (pv 1))), ?_⟩
    exact ⟨rfl, _, rfl, a, C, [.str _], rfl, by decide, T, ha, _, rfl, _, rfl, a, C, rfl, T, no, .inl ⟨ha, q⟩⟩
abbrev s_BadCount_init : Stmt := inClass (top 12) 0
abbrev n_BadCount_init : List Str := ["self", "thing"]
theorem sc_BadCount_init : FnScope n_BadCount_init ["self", "thing"] (defScope s_BadCount_init) := ⟨rfl, rfl, rfl, by decide +kernel, rfl, by decide +kernel, by decide +kernel⟩

theorem ok_E6_init {DE f : Addr} {mc : Value} {fd : FuncData} (F : Fun K "__init__" "BadCount.__init__" s_BadCount_init f fd) (gD : mg "DeedError" = some (.ref DE)) (rd : ClX.CRead K DE mc) (fc : PySem.W.findCls K (.ref DE) mc "__init__" = some (.val (.builtin "ValueError.__init__"))) (T : OexC K C) (no : PySem.W.findIn K (.ref C) "thing" = some none) : FnOk P w K mg base CX0 1 f fd ["self", "thing"] (spInF C "thing") := by
  refine F.ok sc_BadCount_init (fun vs H Q E h => ?_) (fun cdv A outer s H vs Q E hr h => ?_)
  · obtain ⟨a, v, rfl, _⟩ := h; rfl
  · obtain ⟨a, v, rfl, ha, q⟩ := h
    refine ⟨_, pss_cons (ps_expr (pe_deinit (pe_glob (v := .ref _) rfl gD rfl) rd fc (pa_cons (pv 0) (pa_cons pe_str pa_nil)))) (pss_one (ps_ost (pv 0) (pv 1))), ?_⟩
    exact ⟨rfl, _, rfl, a, C, [.str _], rfl, by decide, T, ha, _, rfl, _, rfl, a, C, rfl, T, no, .inl ⟨ha, q⟩⟩
abbrev s_NoPlace_init : Stmt := inClass (top 13) 0
abbrev n_NoPlace_init : List Str := ["self", "thing"]
theorem sc_NoPlace_init : FnScope n_NoPlace_init ["self", "thing"] (defScope s_NoPlace_init) := ⟨rfl, rfl, rfl, by decide +kernel, rfl, by decide +kernel, by decide +kernel⟩

theorem ok_E7_init {DE f : Addr} {mc : Value} {fd : FuncData} (F : Fun K "__init__" "NoPlace.__init__" s_NoPlace_init f fd) (gD : mg "DeedError" = some (.ref DE)) (rd : ClX.CRead K DE mc) (fc : PySem.W.findCls K (.ref DE) mc "__init__" = some (.val (.builtin "ValueError.__init__"))) (T : OexC K C) (no : PySem.W.findIn K (.ref C) "thing" = some none) : FnOk P w K mg base CX0 1 f fd ["self", "thing"] (spInF C "thing") := by
  refine F.ok sc_NoPlace_init (fun vs H Q E h => ?_) (fun cdv A outer s H vs Q E hr h => ?_)
  · obtain ⟨a, v, rfl, _⟩ := h; rfl
  · obtain ⟨a, v, rfl, ha, q⟩ := h
    refine ⟨_, pss_cons (ps_expr (pe_deinit (pe_glob (v := .ref _) rfl gD rfl) rd fc (pa_cons (pv 0) (pa_cons pe_str pa_nil)))) (pss_one (ps_ost (pv 0) (pv 1))), ?_⟩
    exact ⟨rfl, _, rfl, a, C, [.str _], rfl, by decide, T, ha, _, rfl, _, rfl, a, C, rfl, T, no, .inl ⟨ha, q⟩⟩
abbrev s_BadSize_init : Stmt := inClass (top 14) 0
abbrev n_BadSize_init : List Str := ["self", "thing"]
theorem sc_BadSize_init : FnScope n_BadSize_init ["self", "thing"] (defScope s_BadSize_init) := ⟨rfl, rfl, rfl, by decide +kernel, rfl, by decide +kernel, by decide +kernel⟩

theorem ok_E8_init {DE f : Addr} {mc : Value} {fd : FuncData} (F : Fun K "__init__" "BadSize.__init__" s_BadSize_init f fd) (gD : mg "DeedError" = some (.ref DE)) (rd : ClX.CRead K DE mc) (fc : PySem.W.findCls K (.ref DE) mc "__init__" = some (.val (.builtin "ValueError.__init__"))) (T : OexC K C) (no : PySem.W.findIn K (.ref C) "thing" = some none) : FnOk P w K mg base CX0 1 f fd ["self", "thing"] (spInF C "thing") := by
  refine F.ok sc_BadSize_init (fun vs H Q E h => ?_) (fun cdv A outer s H vs Q E hr h => ?_)
  · obtain ⟨a, v, rfl, _⟩ := h; rfl
  · obtain ⟨a, v, rfl, ha, q⟩ := h
    refine ⟨_, pss_cons (ps_expr (pe_deinit (pe_glob (v := .ref _) rfl gD rfl) rd fc (pa_cons (pv 0) (pa_cons pe_str pa_nil)))) (pss_one (ps_ost (pv 0) (pv 1))), ?_⟩
    exact ⟨rfl, _, rfl, a, C, [.str _], rfl, by decide, T, ha, _, rfl, _, rfl, a, C, rfl, T, no, .inl ⟨ha, q⟩⟩
abbrev s_NoState_init : Stmt := inClass (top 18) 0
abbrev n_NoState_init : List Str := ["self", "thing"]
theorem sc_NoState_init : FnScope n_NoState_init ["self", "thing"] (defScope s_NoState_init) := ⟨rfl, rfl, rfl, by decide +kernel, rfl, by decide +kernel, by decide +kernel⟩

theorem ok_E9_init {DE f : Addr} {mc : Value} {fd : FuncData} (F : Fun K "__init__" "NoState.__init__" s_NoState_init f fd) (gD : mg "DeedError" = some (.ref DE)) (rd : ClX.CRead K DE mc) (fc : PySem.W.findCls K (.ref DE) mc "__init__" = some (.val (.builtin "ValueError.__init__"))) (T : OexC K C) (no : PySem.W.findIn K (.ref C) "thing" = some none) : FnOk P w K mg base CX0 1 f fd ["self", "thing"] (spInF C "thing") := by
  refine F.ok sc_NoState_init (fun vs H Q E h => ?_) (fun cdv A outer s H vs Q E hr h => ?_)
  · obtain ⟨a, v, rfl, _⟩ := h; rfl
  · obtain ⟨a, v, rfl, ha, q⟩ := h
    refine ⟨_, pss_cons (ps_expr (pe_deinit (pe_glob (v := .ref _) rfl gD rfl) rd fc (pa_cons (pv 0) (pa_cons pe_str pa_nil)))) (pss_one (ps_ost (pv 0) (pv 1))), ?_⟩
    exact ⟨rfl, _, rfl, a, C, [.str _], rfl, by decide, T, ha, _, rfl, _, rfl, a, C, rfl, T, no, .inl ⟨ha, q⟩⟩
abbrev s_BadRow_init : Stmt := inClass (top 19) 0
abbrev n_BadRow_init : List Str := ["self", "thing"]
theorem sc_BadRow_init : FnScope n_BadRow_init ["self", "thing"] (defScope s_BadRow_init) := ⟨rfl, rfl, rfl, by decide +kernel, rfl, by decide +kernel, by decide +kernel⟩

theorem ok_E10_init {DE f : Addr} {mc : Value} {fd : FuncData} (F : Fun K "__init__" "BadRow.__init__" s_BadRow_init f fd) (gD : mg "DeedError" = some (.ref DE)) (rd : ClX.CRead K DE mc) (fc : PySem.W.findCls K (.ref DE) mc "__init__" = some (.val (.builtin "ValueError.__init__"))) (T : OexC K C) (no : PySem.W.findIn K (.ref C) "thing" = some none) : FnOk P w K mg base CX0 1 f fd ["self", "thing"] (spInF C "thing") := by
  refine F.ok sc_BadRow_init (fun vs H Q E h => ?_) (fun cdv A outer s H vs Q E hr h => ?_)
  · obtain ⟨a, v, rfl, _⟩ := h; rfl
  · obtain ⟨a, v, rfl, ha, q⟩ := h
    refine ⟨_, pss_cons (ps_expr (pe_deinit (pe_glob (v := .ref _) rfl gD rfl) rd fc (pa_cons (pv 0) (pa_cons pe_str pa_nil)))) (pss_one (ps_ost (pv 0) (pv 1))), ?_⟩
    exact ⟨rfl, _, rfl, a, C, [.str _], rfl, by decide, T, ha, _, rfl, _, rfl, a, C, rfl, T, no, .inl ⟨ha, q⟩⟩
abbrev s_BadIndex_init : Stmt := inClass (top 27) 0
abbrev n_BadIndex_init : List Str := ["self", "thing"]
theorem sc_BadIndex_init : FnScope n_BadIndex_init ["self", "thing"] (defScope s_BadIndex_init) := ⟨rfl, rfl, rfl, by decide +kernel, rfl, by decide +kernel, by decide +kernel⟩

theorem ok_E11_init {DE f : Addr} {mc : Value} {fd : FuncData} (F : Fun K "__init__" "BadIndex.__init__" s_BadIndex_init f fd) (gD : mg "DeedError" = some (.ref DE)) (rd : ClX.CRead K DE mc) (fc : PySem.W.findCls K (.ref DE) mc "__init__" = some (.val (.builtin "ValueError.__init__"))) (T : OexC K C) (no : PySem.W.findIn K (.ref C) "thing" = some none) : FnOk P w K mg base CX0 1 f fd ["self", "thing"] (spInF C "thing") := by
  refine F.ok sc_BadIndex_init (fun vs H Q E h => ?_) (fun cdv A outer s H vs Q E hr h => ?_)
  · obtain ⟨a, v, rfl, _⟩ := h; rfl
  · obtain ⟨a, v, rfl, ha, q⟩ := h
    refine ⟨_, pss_cons (ps_expr (pe_deinit (pe_glob (v := .ref _) rfl gD rfl) rd fc (pa_cons (pv 0) (pa_cons pe_str pa_nil)))) (pss_one (ps_ost (pv 0) (pv 1))), ?_⟩
    exact ⟨rfl, _, rfl, a, C, [.str _], rfl, by decide, T, ha, _, rfl, _, rfl, a, C, rfl, T, no, .inl ⟨ha, q⟩⟩
abbrev s_NoRow_init : Stmt := inClass (top 28) 0
abbrev n_NoRow_init : List Str := ["self", "thing"]
theorem sc_NoRow_init : FnScope n_NoRow_init ["self", "thing"] (defScope s_NoRow_init) := ⟨rfl, rfl, rfl, by decide +kernel, rfl, by decide +kernel, by decide +kernel⟩

theorem ok_E12_init {DE f : Addr} {mc : Value} {fd : FuncData} (F : Fun K "__init__" "NoRow.__init__" s_NoRow_init f fd) (gD : mg "DeedError" = some (.ref DE)) (rd : ClX.CRead K DE mc) (fc : PySem.W.findCls K (.ref DE) mc "__init__" = some (.val (.builtin "ValueError.__init__"))) (T : OexC K C) (no : PySem.W.findIn K (.ref C) "thing" = some none) : FnOk P w K mg base CX0 1 f fd ["self", "thing"] (spInF C "thing") := by
  refine F.ok sc_NoRow_init (fun vs H Q E h => ?_) (fun cdv A outer s H vs Q E hr h => ?_)
  · obtain ⟨a, v, rfl, _⟩ := h; rfl
  · obtain ⟨a, v, rfl, ha, q⟩ := h
    refine ⟨_, pss_cons (ps_expr (pe_deinit (pe_glob (v := .ref _) rfl gD rfl) rd fc (pa_cons (pv 0) (pa_cons pe_str pa_nil)))) (pss_one (ps_ost (pv 0) (pv 1))), ?_⟩
    exact ⟨rfl, _, rfl, a, C, [.str _], rfl, by decide, T, ha, _, rfl, _, rfl, a, C, rfl, T, no, .inl ⟨ha, q⟩⟩
abbrev s_BadPurse_init : Stmt := inClass (top 30) 0
abbrev n_BadPurse_init : List Str := ["self", "thing"]
theorem sc_BadPurse_init : FnScope n_BadPurse_init ["self", "thing"] (defScope s_BadPurse_init) := ⟨rfl, rfl, rfl, by decide +kernel, rfl, by decide +kernel, by decide +kernel⟩

theorem ok_E13_init {DE f : Addr} {mc : Value} {fd : FuncData} (F : Fun K "__init__" "BadPurse.__init__" s_BadPurse_init f fd) (gD : mg "DeedError" = some (.ref DE)) (rd : ClX.CRead K DE mc) (fc : PySem.W.findCls K (.ref DE) mc "__init__" = some (.val (.builtin "ValueError.__init__"))) (T : OexC K C) (no : PySem.W.findIn K (.ref C) "thing" = some none) : FnOk P w K mg base CX0 1 f fd ["self", "thing"] (spInF C "thing") := by
  refine F.ok sc_BadPurse_init (fun vs H Q E h => ?_) (fun cdv A outer s H vs Q E hr h => ?_)
  · obtain ⟨a, v, rfl, _⟩ := h; rfl
  · obtain ⟨a, v, rfl, ha, q⟩ := h
    refine ⟨_, pss_cons (ps_expr (pe_deinit (pe_glob (v := .ref _) rfl gD rfl) rd fc (pa_cons (pv 0) (pa_cons pe_str pa_nil)))) (pss_one (ps_ost (pv 0) (pv 1))), ?_⟩
    exact ⟨rfl, _, rfl, a, C, [.str _], rfl, by decide, T, ha, _, rfl, _, rfl, a, C, rfl, T, no, .inl ⟨ha, q⟩⟩
abbrev s_BadName_init : Stmt := inClass (top 2) 0
abbrev n_BadName_init : List Str := ["self", "name"]
theorem sc_BadName_init : FnScope n_BadName_init ["self", "name"] (defScope s_BadName_init) := ⟨rfl, rfl, rfl, by decide +kernel, rfl, by decide +kernel, by decide +kernel⟩

theorem ok_E14_init {DE f : Addr} {mc : Value} {fd : FuncData} (F : Fun K "__init__" "BadName.__init__" s_BadName_init f fd) (gD : mg "DeedError" = some (.ref DE)) (rd : ClX.CRead K DE mc) (fc : PySem.W.findCls K (.ref DE) mc "__init__" = some (.val (.builtin "ValueError.__init__"))) (T : OexC K C) (no : PySem.W.findIn K (.ref C) "name" = some none) : FnOk P w K mg base CX0 1 f fd ["self", "name"] (spInF C "name") := by
  refine F.ok sc_BadName_init (fun vs H Q E h => ?_) (fun cdv A outer s H vs Q E hr h => ?_)
  · obtain ⟨a, v, rfl, _⟩ := h; rfl
  · obtain ⟨a, v, rfl, ha, q⟩ := h
    refine ⟨_, pss_cons (ps_expr (pe_deinit (pe_glob (v := .ref _) rfl gD rfl) rd fc (pa_cons (pv 0) (pa_cons pe_str pa_nil)))) (pss_one (ps_ost (pv 0) (pv 1))), ?_⟩
    exact ⟨rfl, _, rfl, a, C, [.str _], rfl, by decide, T, ha, _, rfl, _, rfl, a, C, rfl, T, no, .inl ⟨ha, q⟩⟩
abbrev s_NoTest_init : Stmt := inClass (top 10) 0
abbrev n_NoTest_init : List Str := ["self", "name"]
theorem sc_NoTest_init : FnScope n_NoTest_init ["self", "name"] (defScope s_NoTest_init) := ⟨rfl, rfl, rfl, by decide +kernel, rfl, by decide +kernel, by decide +kernel⟩

theorem ok_E15_init {DE f : Addr} {mc : Value} {fd : FuncData} (F : Fun K "__init__" "NoTest.__init__" s_NoTest_init f fd) (gD : mg "DeedError" = some (.ref DE)) (rd : ClX.CRead K DE mc) (fc : PySem.W.findCls K (.ref DE) mc "__init__" = some (.val (.builtin "ValueError.__init__"))) (T : OexC K C) (no : PySem.W.findIn K (.ref C) "name" = some none) : FnOk P w K mg base CX0 1 f fd ["self", "name"] (spInF C "name") := by
  refine F.ok sc_NoTest_init (fun vs H Q E h => ?_) (fun cdv A outer s H vs Q E hr h => ?_)
  · obtain ⟨a, v, rfl, _⟩ := h; rfl
  · obtain ⟨a, v, rfl, ha, q⟩ := h
    refine ⟨_, pss_cons (ps_expr (pe_deinit (pe_glob (v := .ref _) rfl gD rfl) rd fc (pa_cons (pv 0) (pa_cons pe_str pa_nil)))) (pss_one (ps_ost (pv 0) (pv 1))), ?_⟩
    exact ⟨rfl, _, rfl, a, C, [.str _], rfl, by decide, T, ha, _, rfl, _, rfl, a, C, rfl, T, no, .inl ⟨ha, q⟩⟩
abbrev s_BadSet_init : Stmt := inClass (top 15) 0
abbrev n_BadSet_init : List Str := ["self", "name"]
theorem sc_BadSet_init : FnScope n_BadSet_init ["self", "name"] (defScope s_BadSet_init) := ⟨rfl, rfl, rfl, by decide +kernel, rfl, by decide +kernel, by decide +kernel⟩

theorem ok_E16_init {DE f : Addr} {mc : Value} {fd : FuncData} (F : Fun K "__init__" "BadSet.__init__" s_BadSet_init f fd) (gD : mg "DeedError" = some (.ref DE)) (rd : ClX.CRead K DE mc) (fc : PySem.W.findCls K (.ref DE) mc "__init__" = some (.val (.builtin "ValueError.__init__"))) (T : OexC K C) (no : PySem.W.findIn K (.ref C) "name" = some none) : FnOk P w K mg base CX0 1 f fd ["self", "name"] (spInF C "name") := by
  refine F.ok sc_BadSet_init (fun vs H Q E h => ?_) (fun cdv A outer s H vs Q E hr h => ?_)
  · obtain ⟨a, v, rfl, _⟩ := h; rfl
  · obtain ⟨a, v, rfl, ha, q⟩ := h
    refine ⟨_, pss_cons (ps_expr (pe_deinit (pe_glob (v := .ref _) rfl gD rfl) rd fc (pa_cons (pv 0) (pa_cons pe_str pa_nil)))) (pss_one (ps_ost (pv 0) (pv 1))), ?_⟩
    exact ⟨rfl, _, rfl, a, C, [.str _], rfl, by decide, T, ha, _, rfl, _, rfl, a, C, rfl, T, no, .inl ⟨ha, q⟩⟩
abbrev s_BadWays_init : Stmt := inClass (top 16) 0
abbrev n_BadWays_init : List Str := ["self", "name"]
theorem sc_BadWays_init : FnScope n_BadWays_init ["self", "name"] (defScope s_BadWays_init) := ⟨rfl, rfl, rfl, by decide +kernel, rfl, by decide +kernel, by decide +kernel⟩

theorem ok_E17_init {DE f : Addr} {mc : Value} {fd : FuncData} (F : Fun K "__init__" "BadWays.__init__" s_BadWays_init f fd) (gD : mg "DeedError" = some (.ref DE)) (rd : ClX.CRead K DE mc) (fc : PySem.W.findCls K (.ref DE) mc "__init__" = some (.val (.builtin "ValueError.__init__"))) (T : OexC K C) (no : PySem.W.findIn K (.ref C) "name" = some none) : FnOk P w K mg base CX0 1 f fd ["self", "name"] (spInF C "name") := by
  refine F.ok sc_BadWays_init (fun vs H Q E h => ?_) (fun cdv A outer s H vs Q E hr h => ?_)
  · obtain ⟨a, v, rfl, _⟩ := h; rfl
  · obtain ⟨a, v, rfl, ha, q⟩ := h
    refine ⟨_, pss_cons (ps_expr (pe_deinit (pe_glob (v := .ref _) rfl gD rfl) rd fc (pa_cons (pv 0) (pa_cons pe_str pa_nil)))) (pss_one (ps_ost (pv 0) (pv 1))), ?_⟩
    exact ⟨rfl, _, rfl, a, C, [.str _], rfl, by decide, T, ha, _, rfl, _, rfl, a, C, rfl, T, no, .inl ⟨ha, q⟩⟩
abbrev s_NoName_init : Stmt := inClass (top 21) 0
abbrev n_NoName_init : List Str := ["self", "name"]
theorem sc_NoName_init : FnScope n_NoName_init ["self", "name"] (defScope s_NoName_init) := ⟨rfl, rfl, rfl, by decide +kernel, rfl, by decide +kernel, by decide +kernel⟩

theorem ok_E18_init {DE f : Addr} {mc : Value} {fd : FuncData} (F : Fun K "__init__" "NoName.__init__" s_NoName_init f fd) (gD : mg "DeedError" = some (.ref DE)) (rd : ClX.CRead K DE mc) (fc : PySem.W.findCls K (.ref DE) mc "__init__" = some (.val (.builtin "ValueError.__init__"))) (T : OexC K C) (no : PySem.W.findIn K (.ref C) "name" = some none) : FnOk P w K mg base CX0 1 f fd ["self", "name"] (spInF C "name") := by
  refine F.ok sc_NoName_init (fun vs H Q E h => ?_) (fun cdv A outer s H vs Q E hr h => ?_)
  · obtain ⟨a, v, rfl, _⟩ := h; rfl
  · obtain ⟨a, v, rfl, ha, q⟩ := h
    refine ⟨_, pss_cons (ps_expr (pe_deinit (pe_glob (v := .ref _) rfl gD rfl) rd fc (pa_cons (pv 0) (pa_cons pe_str pa_nil)))) (pss_one (ps_ost (pv 0) (pv 1))), ?_⟩
    exact ⟨rfl, _, rfl, a, C, [.str _], rfl, by decide, T, ha, _, rfl, _, rfl, a, C, rfl, T, no, .inl ⟨ha, q⟩⟩
abbrev s_Leaned_init : Stmt := inClass (top 23) 0
abbrev n_Leaned_init : List Str := ["self", "name"]
theorem sc_Leaned_init : FnScope n_Leaned_init ["self", "name"] (defScope s_Leaned_init) := ⟨rfl, rfl, rfl, by decide +kernel, rfl, by decide +kernel, by decide +kernel⟩

theorem ok_E19_init {DE f : Addr} {mc : Value} {fd : FuncData} (F : Fun K "__init__" "Leaned.__init__" s_Leaned_init f fd) (gD : mg "DeedError" = some (.ref DE)) (rd : ClX.CRead K DE mc) (fc : PySem.W.findCls K (.ref DE) mc "__init__" = some (.val (.builtin "ValueError.__init__"))) (T : OexC K C) (no : PySem.W.findIn K (.ref C) "name" = some none) : FnOk P w K mg base CX0 1 f fd ["self", "name"] (spInF C "name") := by
  refine F.ok sc_Leaned_init (fun vs H Q E h => ?_) (fun cdv A outer s H vs Q E hr h => ?_)
  · obtain ⟨a, v, rfl, _⟩ := h; rfl
  · obtain ⟨a, v, rfl, ha, q⟩ := h
    refine ⟨_, pss_cons (ps_expr (pe_deinit (pe_glob (v := .ref _) rfl gD rfl) rd fc (pa_cons (pv 0) (pa_cons pe_str pa_nil)))) (pss_one (ps_ost (pv 0) (pv 1))), ?_⟩
    exact ⟨rfl, _, rfl, a, C, [.str _], rfl, by decide, T, ha, _, rfl, _, rfl, a, C, rfl, T, no, .inl ⟨ha, q⟩⟩
abbrev s_BadCosts_init : Stmt := inClass (top 29) 0
abbrev n_BadCosts_init : List Str := ["self", "name"]
theorem sc_BadCosts_init : FnScope n_BadCosts_init ["self", "name"] (defScope s_BadCosts_init) := ⟨rfl, rfl, rfl, by decide +kernel, rfl, by decide +kernel, by decide +kernel⟩

theorem ok_E20_init {DE f : Addr} {mc : Value} {fd : FuncData} (F : Fun K "__init__" "BadCosts.__init__" s_BadCosts_init f fd) (gD : mg "DeedError" = some (.ref DE)) (rd : ClX.CRead K DE mc) (fc : PySem.W.findCls K (.ref DE) mc "__init__" = some (.val (.builtin "ValueError.__init__"))) (T : OexC K C) (no : PySem.W.findIn K (.ref C) "name" = some none) : FnOk P w K mg base CX0 1 f fd ["self", "name"] (spInF C "name") := by
  refine F.ok sc_BadCosts_init (fun vs H Q E h => ?_) (fun cdv A outer s H vs Q E hr h => ?_)
  · obtain ⟨a, v, rfl, _⟩ := h; rfl
  · obtain ⟨a, v, rfl, ha, q⟩ := h
    refine ⟨_, pss_cons (ps_expr (pe_deinit (pe_glob (v := .ref _) rfl gD rfl) rd fc (pa_cons (pv 0) (pa_cons pe_str pa_nil)))) (pss_one (ps_ost (pv 0) (pv 1))), ?_⟩
    exact ⟨rfl, _, rfl, a, C, [.str _], rfl, by decide, T, ha, _, rfl, _, rfl, a, C, rfl, T, no, .inl ⟨ha, q⟩⟩
abbrev s_BadWeights_init : Stmt := inClass (top 31) 0
abbrev n_BadWeights_init : List Str := ["self", "name"]
theorem sc_BadWeights_init : FnScope n_BadWeights_init ["self", "name"] (defScope s_BadWeights_init) := ⟨rfl, rfl, rfl, by decide +kernel, rfl, by decide +kernel, by decide +kernel⟩

theorem ok_E21_init {DE f : Addr} {mc : Value} {fd : FuncData} (F : Fun K "__init__" "BadWeights.__init__" s_BadWeights_init f fd) (gD : mg "DeedError" = some (.ref DE)) (rd : ClX.CRead K DE mc) (fc : PySem.W.findCls K (.ref DE) mc "__init__" = some (.val (.builtin "ValueError.__init__"))) (T : OexC K C) (no : PySem.W.findIn K (.ref C) "name" = some none) : FnOk P w K mg base CX0 1 f fd ["self", "name"] (spInF C "name") := by
  refine F.ok sc_BadWeights_init (fun vs H Q E h => ?_) (fun cdv A outer s H vs Q E hr h => ?_)
  · obtain ⟨a, v, rfl, _⟩ := h; rfl
  · obtain ⟨a, v, rfl, ha, q⟩ := h
    refine ⟨_, pss_cons (ps_expr (pe_deinit (pe_glob (v := .ref _) rfl gD rfl) rd fc (pa_cons (pv 0) (pa_cons pe_str pa_nil)))) (pss_one (ps_ost (pv 0) (pv 1))), ?_⟩
    exact ⟨rfl, _, rfl, a, C, [.str _], rfl, by decide, T, ha, _, rfl, _, rfl, a, C, rfl, T, no, .inl ⟨ha, q⟩⟩
abbrev s_BadEquation_init : Stmt := inClass (top 33) 0
abbrev n_BadEquation_init : List Str := ["self", "name"]
theorem sc_BadEquation_init : FnScope n_BadEquation_init ["self", "name"] (defScope s_BadEquation_init) := ⟨rfl, rfl, rfl, by decide +kernel, rfl, by decide +kernel, by decide +kernel⟩

theorem ok_E22_init {DE f : Addr} {mc : Value} {fd : FuncData} (F : Fun K "__init__" "BadEquation.__init__" s_BadEquation_init f fd) (gD : mg "DeedError" = some (.ref DE)) (rd : ClX.CRead K DE mc) (fc : PySem.W.findCls K (.ref DE) mc "__init__" = some (.val (.builtin "ValueError.__init__"))) (T : OexC K C) (no : PySem.W.findIn K (.ref C) "name" = some none) : FnOk P w K mg base CX0 1 f fd ["self", "name"] (spInF C "name") := by
  refine F.ok sc_BadEquation_init (fun vs H Q E h => ?_) (fun cdv A outer s H vs Q E hr h => ?_)
  · obtain ⟨a, v, rfl, _⟩ := h; rfl
  · obtain ⟨a, v, rfl, ha, q⟩ := h
    refine ⟨_, pss_cons (ps_expr (pe_deinit (pe_glob (v := .ref _) rfl gD rfl) rd fc (pa_cons (pv 0) (pa_cons pe_str pa_nil)))) (pss_one (ps_ost (pv 0) (pv 1))), ?_⟩
    exact ⟨rfl, _, rfl, a, C, [.str _], rfl, by decide, T, ha, _, rfl, _, rfl, a, C, rfl, T, no, .inl ⟨ha, q⟩⟩
abbrev s_BadTerm_init : Stmt := inClass (top 4) 0
abbrev n_BadTerm_init : List Str := ["self", "index"]
theorem sc_BadTerm_init : FnScope n_BadTerm_init ["self", "index"] (defScope s_BadTerm_init) := ⟨rfl, rfl, rfl, by decide +kernel, rfl, by decide +kernel, by decide +kernel⟩

theorem ok_E23_init {DE f : Addr} {mc : Value} {fd : FuncData} (F : Fun K "__init__" "BadTerm.__init__" s_BadTerm_init f fd) (gD : mg "DeedError" = some (.ref DE)) (rd : ClX.CRead K DE mc) (fc : PySem.W.findCls K (.ref DE) mc "__init__" = some (.val (.builtin "ValueError.__init__"))) (T : OexC K C) (no : PySem.W.findIn K (.ref C) "index" = some none) : FnOk P w K mg base CX0 1 f fd ["self", "index"] (spInF C "index") := by
  refine F.ok sc_BadTerm_init (fun vs H Q E h => ?_) (fun cdv A outer s H vs Q E hr h => ?_)
  · obtain ⟨a, v, rfl, _⟩ := h; rfl
  · obtain ⟨a, v, rfl, ha, q⟩ := h
    refine ⟨_, pss_cons (ps_expr (pe_deinit (pe_glob (v := .ref _) rfl gD rfl) rd fc (pa_cons (pv 0) (pa_cons pe_str pa_nil)))) (pss_one (ps_ost (pv 0) (pv 1))), ?_⟩
    exact ⟨rfl, _, rfl, a, C, [.str _], rfl, by decide, T, ha, _, rfl, _, rfl, a, C, rfl, T, no, .inl ⟨ha, q⟩⟩
abbrev s_BadPromise_init : Stmt := inClass (top 7) 0
abbrev n_BadPromise_init : List Str := ["self", "index"]
theorem sc_BadPromise_init : FnScope n_BadPromise_init ["self", "index"] (defScope s_BadPromise_init) := ⟨rfl, rfl, rfl, by decide +kernel, rfl, by decide +kernel, by decide +kernel⟩

theorem ok_E24_init {DE f : Addr} {mc : Value} {fd : FuncData} (F : Fun K "__init__" "BadPromise.__init__" s_BadPromise_init f fd) (gD : mg "DeedError" = some (.ref DE)) (rd : ClX.CRead K DE mc) (fc : PySem.W.findCls K (.ref DE) mc "__init__" = some (.val (.builtin "ValueError.__init__"))) (T : OexC K C) (no : PySem.W.findIn K (.ref C) "index" = some none) : FnOk P w K mg base CX0 1 f fd ["self", "index"] (spInF C "index") := by
  refine F.ok sc_BadPromise_init (fun vs H Q E h => ?_) (fun cdv A outer s H vs Q E hr h => ?_)
  · obtain ⟨a, v, rfl, _⟩ := h; rfl
  · obtain ⟨a, v, rfl, ha, q⟩ := h
    refine ⟨_, pss_cons (ps_expr (pe_deinit (pe_glob (v := .ref _) rfl gD rfl) rd fc (pa_cons (pv 0) (pa_cons pe_str pa_nil)))) (pss_one (ps_ost (pv 0) (pv 1))), ?_⟩
    exact ⟨rfl, _, rfl, a, C, [.str _], rfl, by decide, T, ha, _, rfl, _, rfl, a, C, rfl, T, no, .inl ⟨ha, q⟩⟩
abbrev s_BadLine_init : Stmt := inClass (top 20) 0
abbrev n_BadLine_init : List Str := ["self", "index"]
theorem sc_BadLine_init : FnScope n_BadLine_init ["self", "index"] (defScope s_BadLine_init) := ⟨rfl, rfl, rfl, by decide +kernel, rfl, by decide +kernel, by decide +kernel⟩

theorem ok_E25_init {DE f : Addr} {mc : Value} {fd : FuncData} (F : Fun K "__init__" "BadLine.__init__" s_BadLine_init f fd) (gD : mg "DeedError" = some (.ref DE)) (rd : ClX.CRead K DE mc) (fc : PySem.W.findCls K (.ref DE) mc "__init__" = some (.val (.builtin "ValueError.__init__"))) (T : OexC K C) (no : PySem.W.findIn K (.ref C) "index" = some none) : FnOk P w K mg base CX0 1 f fd ["self", "index"] (spInF C "index") := by
  refine F.ok sc_BadLine_init (fun vs H Q E h => ?_) (fun cdv A outer s H vs Q E hr h => ?_)
  · obtain ⟨a, v, rfl, _⟩ := h; rfl
  · obtain ⟨a, v, rfl, ha, q⟩ := h
    refine ⟨_, pss_cons (ps_expr (pe_deinit (pe_glob (v := .ref _) rfl gD rfl) rd fc (pa_cons (pv 0) (pa_cons pe_str pa_nil)))) (pss_one (ps_ost (pv 0) (pv 1))), ?_⟩
    exact ⟨rfl, _, rfl, a, C, [.str _], rfl, by decide, T, ha, _, rfl, _, rfl, a, C, rfl, T, no, .inl ⟨ha, q⟩⟩
abbrev s_BadBar_init : Stmt := inClass (top 26) 0
abbrev n_BadBar_init : List Str := ["self", "index"]
theorem sc_BadBar_init : FnScope n_BadBar_init ["self", "index"] (defScope s_BadBar_init) := ⟨rfl, rfl, rfl, by decide +kernel, rfl, by decide +kernel, by decide +kernel⟩

theorem ok_E26_init {DE f : Addr} {mc : Value} {fd : FuncData} (F : Fun K "__init__" "BadBar.__init__" s_BadBar_init f fd) (gD : mg "DeedError" = some (.ref DE)) (rd : ClX.CRead K DE mc) (fc : PySem.W.findCls K (.ref DE) mc "__init__" = some (.val (.builtin "ValueError.__init__"))) (T : OexC K C) (no : PySem.W.findIn K (.ref C) "index" = some none) : FnOk P w K mg base CX0 1 f fd ["self", "index"] (spInF C "index") := by
  refine F.ok sc_BadBar_init (fun vs H Q E h => ?_) (fun cdv A outer s H vs Q E hr h => ?_)
  · obtain ⟨a, v, rfl, _⟩ := h; rfl
  · obtain ⟨a, v, rfl, ha, q⟩ := h
    refine ⟨_, pss_cons (ps_expr (pe_deinit (pe_glob (v := .ref _) rfl gD rfl) rd fc (pa_cons (pv 0) (pa_cons pe_str pa_nil)))) (pss_one (ps_ost (pv 0) (pv 1))), ?_⟩
    exact ⟨rfl, _, rfl, a, C, [.str _], rfl, by decide, T, ha, _, rfl, _, rfl, a, C, rfl, T, no, .inl ⟨ha, q⟩⟩
abbrev s_Broken_init : Stmt := inClass (top 17) 0
abbrev n_Broken_init : List Str := ["self", "promise"]
theorem sc_Broken_init : FnScope n_Broken_init ["self", "promise"] (defScope s_Broken_init) := ⟨rfl, rfl, rfl, by decide +kernel, rfl, by decide +kernel, by decide +kernel⟩

theorem ok_E27_init {DE f : Addr} {mc : Value} {fd : FuncData} (F : Fun K "__init__" "Broken.__init__" s_Broken_init f fd) (gD : mg "DeedError" = some (.ref DE)) (rd : ClX.CRead K DE mc) (fc : PySem.W.findCls K (.ref DE) mc "__init__" = some (.val (.builtin "ValueError.__init__"))) (T : OexC K C) (no : PySem.W.findIn K (.ref C) "promise" = some none) : FnOk P w K mg base CX0 1 f fd ["self", "promise"] (spInF C "promise") := by
  refine F.ok sc_Broken_init (fun vs H Q E h => ?_) (fun cdv A outer s H vs Q E hr h => ?_)
  · obtain ⟨a, v, rfl, _⟩ := h; rfl
  · obtain ⟨a, v, rfl, ha, q⟩ := h
    refine ⟨_, pss_cons (ps_expr (pe_deinit (pe_glob (v := .ref _) rfl gD rfl) rd fc (pa_cons (pv 0) (pa_cons pe_str pa_nil)))) (pss_one (ps_ost (pv 0) (pv 1))), ?_⟩
    exact ⟨rfl, _, rfl, a, C, [.str _], rfl, by decide, T, ha, _, rfl, _, rfl, a, C, rfl, T, no, .inl ⟨ha, q⟩⟩
abbrev s_Refused_init : Stmt := inClass (top 22) 0
abbrev n_Refused_init : List Str := ["self", "row"]
theorem sc_Refused_init : FnScope n_Refused_init ["self", "row"] (defScope s_Refused_init) := ⟨rfl, rfl, rfl, by decide +kernel, rfl, by decide +kernel, by decide +kernel⟩

theorem ok_E28_init {DE f : Addr} {mc : Value} {fd : FuncData} (F : Fun K "__init__" "Refused.__init__" s_Refused_init f fd) (gD : mg "DeedError" = some (.ref DE)) (rd : ClX.CRead K DE mc) (fc : PySem.W.findCls K (.ref DE) mc "__init__" = some (.val (.builtin "ValueError.__init__"))) (T : OexC K C) (no : PySem.W.findIn K (.ref C) "row" = some none) : FnOk P w K mg base CX0 1 f fd ["self", "row"] (spInF C "row") := by
  refine F.ok sc_Refused_init (fun vs H Q E h => ?_) (fun cdv A outer s H vs Q E hr h => ?_)
  · obtain ⟨a, v, rfl, _⟩ := h; rfl
  · obtain ⟨a, v, rfl, ha, q⟩ := h
    refine ⟨_, pss_cons (ps_expr (pe_deinit (pe_glob (v := .ref _) rfl gD rfl) rd fc (pa_cons (pv 0) (pa_cons pe_str pa_nil)))) (pss_one (ps_ost (pv 0) (pv 1))), ?_⟩
    exact ⟨rfl, _, rfl, a, C, [.str _], rfl, by decide, T, ha, _, rfl, _, rfl, a, C, rfl, T, no, .inl ⟨ha, q⟩⟩
abbrev s_UnlikeBooks_init : Stmt := inClass (top 11) 0
abbrev n_UnlikeBooks_init : List Str := ["self"]
theorem sc_UnlikeBooks_init : FnScope n_UnlikeBooks_init ["self"] (defScope s_UnlikeBooks_init) := ⟨rfl, rfl, rfl, by decide +kernel, rfl, by decide +kernel, by decide +kernel⟩

theorem ok_E29_init {DE f : Addr} {mc : Value} {fd : FuncData} (F : Fun K "__init__" "UnlikeBooks.__init__" s_UnlikeBooks_init f fd) (gD : mg "DeedError" = some (.ref DE)) (rd : ClX.CRead K DE mc) (fc : PySem.W.findCls K (.ref DE) mc "__init__" = some (.val (.builtin "ValueError.__init__"))) (T : OexC K C) : FnOk P w K mg base L2.CX0 1 f fd ["self"] (spIn C) := by
  refine F.ok sc_UnlikeBooks_init (fun vs H Q E h => ?_) (fun cdv A outer s H vs Q E hr h => ?_)
  · obtain ⟨a, rfl, _⟩ := h; rfl
  · obtain ⟨a, rfl, ha, q⟩ := h
    refine ⟨_, pss_one (ps_expr (pe_deinit (pe_glob (v := .ref _) rfl gD rfl) rd fc (pa_cons (pv 0) (pa_cons pe_str pa_nil)))), ?_⟩
    exact ⟨rfl, _, rfl, a, C, [.str _], rfl, by decide, T, ha, q⟩
abbrev s_BadText_init : Stmt := inClass (top 25) 0
abbrev n_BadText_init : List Str := ["self"]
theorem sc_BadText_init : FnScope n_BadText_init ["self"] (defScope s_BadText_init) := ⟨rfl, rfl, rfl, by decide +kernel, rfl, by decide +kernel, by decide +kernel⟩

theorem ok_E30_init {DE f : Addr} {mc : Value} {fd : FuncData} (F : Fun K "__init__" "BadText.__init__" s_BadText_init f fd) (gD : mg "DeedError" = some (.ref DE)) (rd : ClX.CRead K DE mc) (fc : PySem.W.findCls K (.ref DE) mc "__init__" = some (.val (.builtin "ValueError.__init__"))) (T : OexC K C) : FnOk P w K mg base L2.CX0 1 f fd ["self"] (spIn C) := by
  refine F.ok sc_BadText_init (fun vs H Q E h => ?_) (fun cdv A outer s H vs Q E hr h => ?_)
  · obtain ⟨a, rfl, _⟩ := h; rfl
  · obtain ⟨a, rfl, ha, q⟩ := h
    refine ⟨_, pss_one (ps_expr (pe_deinit (pe_glob (v := .ref _) rfl gD rfl) rd fc (pa_cons (pv 0) (pa_cons pe_str pa_nil)))), ?_⟩
    exact ⟨rfl, _, rfl, a, C, [.str _], rfl, by decide, T, ha, q⟩
abbrev s_NothingToUndo_init : Stmt := inClass (top 24) 0
abbrev n_NothingToUndo_init : List Str := ["self"]
theorem sc_NothingToUndo_init : FnScope n_NothingToUndo_init ["self"] (defScope s_NothingToUndo_init) := ⟨rfl, rfl, rfl, by decide +kernel, rfl, by decide +kernel, by decide +kernel⟩

theorem ok_E31_init {DE f : Addr} {mc : Value} {fd : FuncData} (F : Fun K "__init__" "NothingToUndo.__init__" s_NothingToUndo_init f fd) (gD : mg "DeedError" = some (.ref DE)) (rd : ClX.CRead K DE mc) (fc : PySem.W.findCls K (.ref DE) mc "__init__" = some (.val (.builtin "ValueError.__init__"))) (T : OexC K C) : FnOk P w K mg base L2.CX0 1 f fd ["self"] (spIn C) := by
  refine F.ok sc_NothingToUndo_init (fun vs H Q E h => ?_) (fun cdv A outer s H vs Q E hr h => ?_)
  · obtain ⟨a, rfl, _⟩ := h; rfl
  · obtain ⟨a, rfl, ha, q⟩ := h
    refine ⟨_, pss_one (ps_expr (pe_deinit (pe_glob (v := .ref _) rfl gD rfl) rd fc (pa_cons (pv 0) (pa_cons pe_str pa_nil)))), ?_⟩
    exact ⟨rfl, _, rfl, a, C, [.str _], rfl, by decide, T, ha, q⟩
abbrev s_NotSure_init : Stmt := inClass (top 32) 0
abbrev n_NotSure_init : List Str := ["self"]
theorem sc_NotSure_init : FnScope n_NotSure_init ["self"] (defScope s_NotSure_init) := ⟨rfl, rfl, rfl, by decide +kernel, rfl, by decide +kernel, by decide +kernel⟩

theorem ok_E32_init {DE f : Addr} {mc : Value} {fd : FuncData} (F : Fun K "__init__" "NotSure.__init__" s_NotSure_init f fd) (gD : mg "DeedError" = some (.ref DE)) (rd : ClX.CRead K DE mc) (fc : PySem.W.findCls K (.ref DE) mc "__init__" = some (.val (.builtin "ValueError.__init__"))) (T : OexC K C) : FnOk P w K mg base L2.CX0 1 f fd ["self"] (spIn C) := by
  refine F.ok sc_NotSure_init (fun vs H Q E h => ?_) (fun cdv A outer s H vs Q E hr h => ?_)
  · obtain ⟨a, rfl, _⟩ := h; rfl
  · obtain ⟨a, rfl, ha, q⟩ := h
    refine ⟨_, pss_one (ps_expr (pe_deinit (pe_glob (v := .ref _) rfl gD rfl) rd fc (pa_cons (pv 0) (pa_cons pe_str pa_nil)))), ?_⟩
    exact ⟨rfl, _, rfl, a, C, [.str _], rfl, by decide, T, ha, q⟩
theorem mkCal {x : Str} {st : Stmt} {f : Addr} {fd : FuncData} {ps : List Str} {k : Nat} {sp : Sp} (F : Fun K x x st f fd) (hm : mg x = some (.ref f)) (hb : Binds K fd ps []) (ok : FnOk P w K mg base CX0 k f fd ps sp) : C8.Cal P w K mg base k x sp [] := ⟨f, fd, ps, [], ok, hm, F.kp, hb, .nil⟩
theorem kit_cls {cls : Value} {S : Addr} {b : Bool} (h2 : PySem.W.isClsIn K S = true) (h3 : PySem.W.typeIn K (.ref S) = some (.type "type")) (h4 : PySem.W.subIn K cls (.ref S) = some b) (hn : (cls == .ref S) = false) : PySem.W.kitOne K cls (.ref S) = some b := by
  have h2' : (PySem.W.clsIn K S).isSome = true := h2
  unfold PySem.W.kitOne
  rw [hn, if_neg Bool.false_ne_true]
  unfold PySem.W.kitCls
  simp only [h2', h3, h4, beq_self_eq_true, Bool.and_self, if_true]
theorem kit_ve {C : Addr} (h : PySem.W.subIn K (.ref C) (.type "ValueError") = some true) : PySem.W.kitOne K (.ref C) (.type "ValueError") = some true := by
  unfold PySem.W.kitOne
  rw [if_neg (by intro h; cases (eq_of_beq h))]
  show (if PySem.W.kitMeta "ValueError" = true then PySem.W.subIn K (.ref C) (.type "ValueError") else none) = some true
  rw [if_pos (by decide +kernel)]; exact h
theorem kit_self : PySem.W.kitOne K (.ref C) (.ref C) = some true := by
  unfold PySem.W.kitOne
  rw [if_pos (by simp)]
theorem ref_ne {A B : Addr} (h : (A == B) = false) : ((Value.ref A) == (Value.ref B)) = false := by
  rw [Bool.eq_false_iff] at h ⊢
  intro q
  apply h
  have := eq_of_beq q
  cases this
  simp
end
end Du
namespace Du
open PySem L2 PySem.Spec PyProof.Rows
/-- a law at the call from outside, its facts from the heap -/
theorem walk_ofGE {l : PySem.W.OpenLaw} {n k : Nat} {q : Program} {loose : List Str} {XP : (Str → Option Value) → Heap → Prop} {YP : World → Heap → Prop} {d : DefRec} {x : Str}
    (hn : l.most = some n) (hn2 : n ≤ sizeLine) (hdf : d.params.defaults = []) (hr : Room k callerA)
    (F : ∀ (w : World) (mg : Str → Option Value) (fa : Addr) (h : Heap), YP w h → h.Ns mainGlobals mg → mg d.name = some (.ref fa) →
      ∃ (K : PySem.W.Frag) (fd : FuncData) (sp : Sp), K.In h ∧ (∀ (s : Shared) (u : Value), BindsTo s fd ⟨[u], []⟩ [(x, u)]) ∧ (∀ (H : Hp) (a : Addr) (ns : List Int), ns.length ≤ n → SqL K H a (ns.map V.int) → sp [.ref a] H (fun v _ => v = .bl true) fun _ _ _ => False) ∧
        ∀ base : Heap, K.In base → base.Ns mainGlobals mg → FnG l.prog w K mg base k fa fd [x] sp) : PySem.W.WalkO q loose XP YP l.row.toRowW d [] (fun f vs => PySem.call f vs) := by
  refine Att.attach_call hn hdf fun w s₀ s₁ mg mb fa o pm cd doc a vs ns G Y ho hd hcd hmg hobj hints hlen hg => ?_
  obtain ⟨K, fd, sp, KX, hb, hsp, hF⟩ := F w mg fa _ Y G.T.g hmg
  exact law_callG KX G.T.g G.T.b G.T.builtins G.T.nolimit hg hobj hints (Nat.le_trans hlen hn2) hr hF hb fun H hS => hsp H a ns hlen hS
end Du
namespace Du
open PySem L2
theorem all_mk {l : PySem.W.OpenLaw} {w : World} {K : PySem.W.Frag} {h : Heap} {mg : Str → Option Value} {fa : Addr} (X : K.In h) (G : h.Ns mainGlobals mg) (hfa : mg "law" = some (.ref fa))
    {oc1 kV1 dc1 pm1 cd1 ct1 : Value} {od1 an1 : Option Addr} {sl1 : Array (Option Value)} {f1 : Addr}
    {oc2 kV2 dc2 pm2 cd2 ct2 : Value} {od2 an2 : Option Addr} {sl2 : Array (Option Value)} {f2 : Addr}
    {oc3 kV3 dc3 pm3 cd3 ct3 : Value} {od3 an3 : Option Addr} {sl3 : Array (Option Value)} {f3 : Addr}
    {oc4 kV4 dc4 pm4 cd4 ct4 : Value} {od4 an4 : Option Addr} {sl4 : Array (Option Value)} {f4 : Addr}
    {oc5 kV5 dc5 pm5 cd5 ct5 : Value} {od5 an5 : Option Addr} {sl5 : Array (Option Value)} {f5 : Addr}
    {oc6 kV6 dc6 pm6 cd6 ct6 : Value} {od6 an6 : Option Addr} {sl6 : Array (Option Value)} {f6 : Addr}
    {oc7 kV7 dc7 pm7 cd7 ct7 : Value} {od7 an7 : Option Addr} {sl7 : Array (Option Value)} {f7 : Addr}
    {oc8 kV8 dc8 pm8 cd8 ct8 : Value} {od8 an8 : Option Addr} {sl8 : Array (Option Value)} {f8 : Addr}
    {oc9 kV9 dc9 pm9 cd9 ct9 : Value} {od9 an9 : Option Addr} {sl9 : Array (Option Value)} {f9 : Addr}
    {oc10 kV10 dc10 pm10 cd10 ct10 : Value} {od10 an10 : Option Addr} {sl10 : Array (Option Value)} {f10 : Addr}
    {oc11 kV11 dc11 pm11 cd11 ct11 : Value} {od11 an11 : Option Addr} {sl11 : Array (Option Value)} {f11 : Addr}
    {oc12 kV12 dc12 pm12 cd12 ct12 : Value} {od12 an12 : Option Addr} {sl12 : Array (Option Value)} {f12 : Addr}
    {oc13 kV13 dc13 pm13 cd13 ct13 : Value} {od13 an13 : Option Addr} {sl13 : Array (Option Value)} {f13 : Addr}
    {oc14 kV14 dc14 pm14 cd14 ct14 : Value} {od14 an14 : Option Addr} {sl14 : Array (Option Value)} {f14 : Addr}
    {oc15 kV15 dc15 pm15 cd15 ct15 : Value} {od15 an15 : Option Addr} {sl15 : Array (Option Value)} {f15 : Addr}
    {oc16 kV16 dc16 pm16 cd16 ct16 : Value} {od16 an16 : Option Addr} {sl16 : Array (Option Value)} {f16 : Addr}
    {oc17 kV17 dc17 pm17 cd17 ct17 : Value} {od17 an17 : Option Addr} {sl17 : Array (Option Value)} {f17 : Addr}
    {oc18 kV18 dc18 pm18 cd18 ct18 : Value} {od18 an18 : Option Addr} {sl18 : Array (Option Value)} {f18 : Addr}
    {oc19 kV19 dc19 pm19 cd19 ct19 : Value} {od19 an19 : Option Addr} {sl19 : Array (Option Value)} {f19 : Addr}
    {oc20 kV20 dc20 pm20 cd20 ct20 : Value} {od20 an20 : Option Addr} {sl20 : Array (Option Value)} {f20 : Addr}
    {oc21 kV21 dc21 pm21 cd21 ct21 : Value} {od21 an21 : Option Addr} {sl21 : Array (Option Value)} {f21 : Addr}
    {oc22 kV22 dc22 pm22 cd22 ct22 : Value} {od22 an22 : Option Addr} {sl22 : Array (Option Value)} {f22 : Addr}
    {oc23 kV23 dc23 pm23 cd23 ct23 : Value} {od23 an23 : Option Addr} {sl23 : Array (Option Value)} {f23 : Addr}
    {oc24 kV24 dc24 pm24 cd24 ct24 : Value} {od24 an24 : Option Addr} {sl24 : Array (Option Value)} {f24 : Addr}
    {oc25 kV25 dc25 pm25 cd25 ct25 : Value} {od25 an25 : Option Addr} {sl25 : Array (Option Value)} {f25 : Addr}
    {oc26 kV26 dc26 pm26 cd26 ct26 : Value} {od26 an26 : Option Addr} {sl26 : Array (Option Value)} {f26 : Addr}
    {oc27 kV27 dc27 pm27 cd27 ct27 : Value} {od27 an27 : Option Addr} {sl27 : Array (Option Value)} {f27 : Addr}
    {oc28 kV28 dc28 pm28 cd28 ct28 : Value} {od28 an28 : Option Addr} {sl28 : Array (Option Value)} {f28 : Addr}
    {oc29 kV29 dc29 pm29 cd29 ct29 : Value} {od29 an29 : Option Addr} {sl29 : Array (Option Value)} {f29 : Addr}
    {oc30 kV30 dc30 pm30 cd30 ct30 : Value} {od30 an30 : Option Addr} {sl30 : Array (Option Value)} {f30 : Addr}
    {oc31 kV31 dc31 pm31 cd31 ct31 : Value} {od31 an31 : Option Addr} {sl31 : Array (Option Value)} {f31 : Addr}
    {oc32 kV32 dc32 pm32 cd32 ct32 : Value} {od32 an32 : Option Addr} {sl32 : Array (Option Value)} {f32 : Addr}
    {oc33 kV33 dc33 pm33 cd33 ct33 : Value} {od33 an33 : Option Addr} {sl33 : Array (Option Value)} {f33 : Addr}
    {oc34 kV34 dc34 pm34 cd34 ct34 : Value} {od34 an34 : Option Addr} {sl34 : Array (Option Value)} {f34 : Addr}
    {oc35 kV35 dc35 pm35 cd35 ct35 : Value} {od35 an35 : Option Addr} {sl35 : Array (Option Value)} {f35 : Addr}
    {oc36 kV36 dc36 pm36 cd36 ct36 : Value} {od36 an36 : Option Addr} {sl36 : Array (Option Value)} {f36 : Addr}
    {oc37 kV37 dc37 pm37 cd37 ct37 : Value} {od37 an37 : Option Addr} {sl37 : Array (Option Value)} {f37 : Addr}
    {oc38 kV38 dc38 pm38 cd38 ct38 : Value} {od38 an38 : Option Addr} {sl38 : Array (Option Value)} {f38 : Addr}
    {oc39 kV39 dc39 pm39 cd39 ct39 : Value} {od39 an39 : Option Addr} {sl39 : Array (Option Value)} {f39 : Addr}
    {oc40 kV40 dc40 pm40 cd40 ct40 : Value} {od40 an40 : Option Addr} {sl40 : Array (Option Value)} {f40 : Addr}
    {oc41 kV41 dc41 pm41 cd41 ct41 : Value} {od41 an41 : Option Addr} {sl41 : Array (Option Value)} {f41 : Addr}
    {nmE1 qE1 : Str} {NE1 : Addr} {bsE1 : List Value} {snE1 : List Str} {subE1 : List Value} {abE1 : Bool} {colE1 : Option Bool} {ddE1 : Option Addr} {mE10 mE11 mE12 mE13 mE15 : Option Value}
    {nmE2 qE2 : Str} {NE2 : Addr} {bsE2 : List Value} {snE2 : List Str} {subE2 : List Value} {abE2 : Bool} {colE2 : Option Bool} {ddE2 : Option Addr} {mE20 mE21 mE22 mE23 mE25 : Option Value}
    {nmE3 qE3 : Str} {NE3 : Addr} {bsE3 : List Value} {snE3 : List Str} {subE3 : List Value} {abE3 : Bool} {colE3 : Option Bool} {ddE3 : Option Addr} {mE30 mE31 mE32 mE33 mE35 : Option Value}
    {nmE4 qE4 : Str} {NE4 : Addr} {bsE4 : List Value} {snE4 : List Str} {subE4 : List Value} {abE4 : Bool} {colE4 : Option Bool} {ddE4 : Option Addr} {mE40 mE41 mE42 mE43 mE45 : Option Value}
    {nmE5 qE5 : Str} {NE5 : Addr} {bsE5 : List Value} {snE5 : List Str} {subE5 : List Value} {abE5 : Bool} {colE5 : Option Bool} {ddE5 : Option Addr} {mE50 mE51 mE52 mE53 mE55 : Option Value}
    {nmE6 qE6 : Str} {NE6 : Addr} {bsE6 : List Value} {snE6 : List Str} {subE6 : List Value} {abE6 : Bool} {colE6 : Option Bool} {ddE6 : Option Addr} {mE60 mE61 mE62 mE63 mE65 : Option Value}
    {nmE7 qE7 : Str} {NE7 : Addr} {bsE7 : List Value} {snE7 : List Str} {subE7 : List Value} {abE7 : Bool} {colE7 : Option Bool} {ddE7 : Option Addr} {mE70 mE71 mE72 mE73 mE75 : Option Value}
    {nmE8 qE8 : Str} {NE8 : Addr} {bsE8 : List Value} {snE8 : List Str} {subE8 : List Value} {abE8 : Bool} {colE8 : Option Bool} {ddE8 : Option Addr} {mE80 mE81 mE82 mE83 mE85 : Option Value}
    {nmE9 qE9 : Str} {NE9 : Addr} {bsE9 : List Value} {snE9 : List Str} {subE9 : List Value} {abE9 : Bool} {colE9 : Option Bool} {ddE9 : Option Addr} {mE90 mE91 mE92 mE93 mE95 : Option Value}
    {nmE10 qE10 : Str} {NE10 : Addr} {bsE10 : List Value} {snE10 : List Str} {subE10 : List Value} {abE10 : Bool} {colE10 : Option Bool} {ddE10 : Option Addr} {mE100 mE101 mE102 mE103 mE105 : Option Value}
    {nmE11 qE11 : Str} {NE11 : Addr} {bsE11 : List Value} {snE11 : List Str} {subE11 : List Value} {abE11 : Bool} {colE11 : Option Bool} {ddE11 : Option Addr} {mE110 mE111 mE112 mE113 mE115 : Option Value}
    {nmE12 qE12 : Str} {NE12 : Addr} {bsE12 : List Value} {snE12 : List Str} {subE12 : List Value} {abE12 : Bool} {colE12 : Option Bool} {ddE12 : Option Addr} {mE120 mE121 mE122 mE123 mE125 : Option Value}
    {nmE13 qE13 : Str} {NE13 : Addr} {bsE13 : List Value} {snE13 : List Str} {subE13 : List Value} {abE13 : Bool} {colE13 : Option Bool} {ddE13 : Option Addr} {mE130 mE131 mE132 mE133 mE135 : Option Value}
    {nmE14 qE14 : Str} {NE14 : Addr} {bsE14 : List Value} {snE14 : List Str} {subE14 : List Value} {abE14 : Bool} {colE14 : Option Bool} {ddE14 : Option Addr} {mE140 mE141 mE142 mE143 mE145 : Option Value}
    {nmE15 qE15 : Str} {NE15 : Addr} {bsE15 : List Value} {snE15 : List Str} {subE15 : List Value} {abE15 : Bool} {colE15 : Option Bool} {ddE15 : Option Addr} {mE150 mE151 mE152 mE153 mE155 : Option Value}
    {nmE16 qE16 : Str} {NE16 : Addr} {bsE16 : List Value} {snE16 : List Str} {subE16 : List Value} {abE16 : Bool} {colE16 : Option Bool} {ddE16 : Option Addr} {mE160 mE161 mE162 mE163 mE165 : Option Value}
    {nmE17 qE17 : Str} {NE17 : Addr} {bsE17 : List Value} {snE17 : List Str} {subE17 : List Value} {abE17 : Bool} {colE17 : Option Bool} {ddE17 : Option Addr} {mE170 mE171 mE172 mE173 mE175 : Option Value}
    {nmE18 qE18 : Str} {NE18 : Addr} {bsE18 : List Value} {snE18 : List Str} {subE18 : List Value} {abE18 : Bool} {colE18 : Option Bool} {ddE18 : Option Addr} {mE180 mE181 mE182 mE183 mE185 : Option Value}
    {nmE19 qE19 : Str} {NE19 : Addr} {bsE19 : List Value} {snE19 : List Str} {subE19 : List Value} {abE19 : Bool} {colE19 : Option Bool} {ddE19 : Option Addr} {mE190 mE191 mE192 mE193 mE195 : Option Value}
    {nmE20 qE20 : Str} {NE20 : Addr} {bsE20 : List Value} {snE20 : List Str} {subE20 : List Value} {abE20 : Bool} {colE20 : Option Bool} {ddE20 : Option Addr} {mE200 mE201 mE202 mE203 mE205 : Option Value}
    {nmE21 qE21 : Str} {NE21 : Addr} {bsE21 : List Value} {snE21 : List Str} {subE21 : List Value} {abE21 : Bool} {colE21 : Option Bool} {ddE21 : Option Addr} {mE210 mE211 mE212 mE213 mE215 : Option Value}
    {nmE22 qE22 : Str} {NE22 : Addr} {bsE22 : List Value} {snE22 : List Str} {subE22 : List Value} {abE22 : Bool} {colE22 : Option Bool} {ddE22 : Option Addr} {mE220 mE221 mE222 mE223 mE225 : Option Value}
    {nmE23 qE23 : Str} {NE23 : Addr} {bsE23 : List Value} {snE23 : List Str} {subE23 : List Value} {abE23 : Bool} {colE23 : Option Bool} {ddE23 : Option Addr} {mE230 mE231 mE232 mE233 mE235 : Option Value}
    {nmE24 qE24 : Str} {NE24 : Addr} {bsE24 : List Value} {snE24 : List Str} {subE24 : List Value} {abE24 : Bool} {colE24 : Option Bool} {ddE24 : Option Addr} {mE240 mE241 mE242 mE243 mE245 : Option Value}
    {nmE25 qE25 : Str} {NE25 : Addr} {bsE25 : List Value} {snE25 : List Str} {subE25 : List Value} {abE25 : Bool} {colE25 : Option Bool} {ddE25 : Option Addr} {mE250 mE251 mE252 mE253 mE255 : Option Value}
    {nmE26 qE26 : Str} {NE26 : Addr} {bsE26 : List Value} {snE26 : List Str} {subE26 : List Value} {abE26 : Bool} {colE26 : Option Bool} {ddE26 : Option Addr} {mE260 mE261 mE262 mE263 mE265 : Option Value}
    {nmE27 qE27 : Str} {NE27 : Addr} {bsE27 : List Value} {snE27 : List Str} {subE27 : List Value} {abE27 : Bool} {colE27 : Option Bool} {ddE27 : Option Addr} {mE270 mE271 mE272 mE273 mE275 : Option Value}
    {nmE28 qE28 : Str} {NE28 : Addr} {bsE28 : List Value} {snE28 : List Str} {subE28 : List Value} {abE28 : Bool} {colE28 : Option Bool} {ddE28 : Option Addr} {mE280 mE281 mE282 mE283 mE285 : Option Value}
    {nmE29 qE29 : Str} {NE29 : Addr} {bsE29 : List Value} {snE29 : List Str} {subE29 : List Value} {abE29 : Bool} {colE29 : Option Bool} {ddE29 : Option Addr} {mE290 mE291 mE292 mE293 mE295 : Option Value}
    {nmE30 qE30 : Str} {NE30 : Addr} {bsE30 : List Value} {snE30 : List Str} {subE30 : List Value} {abE30 : Bool} {colE30 : Option Bool} {ddE30 : Option Addr} {mE300 mE301 mE302 mE303 mE305 : Option Value}
    {nmE31 qE31 : Str} {NE31 : Addr} {bsE31 : List Value} {snE31 : List Str} {subE31 : List Value} {abE31 : Bool} {colE31 : Option Bool} {ddE31 : Option Addr} {mE310 mE311 mE312 mE313 mE315 : Option Value}
    {nmE32 qE32 : Str} {NE32 : Addr} {bsE32 : List Value} {snE32 : List Str} {subE32 : List Value} {abE32 : Bool} {colE32 : Option Bool} {ddE32 : Option Addr} {mE320 mE321 mE322 mE323 mE325 : Option Value}
    (a1 : PySem.W.findIn K (.ref (He.ga K "BadTruth")) "__init__" = some (some (.ref f1)))
    (i1 : PySem.W.isFn K (.ref f1) = true)
    (l1 : K.lookup f1 = some ⟨oc1, od1, .func (PySem.W.fnOf "__init__" "BadTruth.__init__" (defArgs s_BadTruth_init) (defBody s_BadTruth_init) (defScope s_BadTruth_init) .none kV1 dc1 pm1 an1 cd1 ct1), sl1⟩)
    (c1 : PySem.W.codeIn K cd1 "BadTruth.__init__" = true)
    (k1 : PySem.W.keepIn K (.ref f1) = true)
    (a2 : PySem.W.findIn K (.ref (He.ga K "BadTests")) "__init__" = some (some (.ref f2)))
    (i2 : PySem.W.isFn K (.ref f2) = true)
    (l2 : K.lookup f2 = some ⟨oc2, od2, .func (PySem.W.fnOf "__init__" "BadTests.__init__" (defArgs s_BadTests_init) (defBody s_BadTests_init) (defScope s_BadTests_init) .none kV2 dc2 pm2 an2 cd2 ct2), sl2⟩)
    (c2 : PySem.W.codeIn K cd2 "BadTests.__init__" = true)
    (k2 : PySem.W.keepIn K (.ref f2) = true)
    (a3 : PySem.W.findIn K (.ref (He.ga K "BadDeeds")) "__init__" = some (some (.ref f3)))
    (i3 : PySem.W.isFn K (.ref f3) = true)
    (l3 : K.lookup f3 = some ⟨oc3, od3, .func (PySem.W.fnOf "__init__" "BadDeeds.__init__" (defArgs s_BadDeeds_init) (defBody s_BadDeeds_init) (defScope s_BadDeeds_init) .none kV3 dc3 pm3 an3 cd3 ct3), sl3⟩)
    (c3 : PySem.W.codeIn K cd3 "BadDeeds.__init__" = true)
    (k3 : PySem.W.keepIn K (.ref f3) = true)
    (a4 : PySem.W.findIn K (.ref (He.ga K "BadTruths")) "__init__" = some (some (.ref f4)))
    (i4 : PySem.W.isFn K (.ref f4) = true)
    (l4 : K.lookup f4 = some ⟨oc4, od4, .func (PySem.W.fnOf "__init__" "BadTruths.__init__" (defArgs s_BadTruths_init) (defBody s_BadTruths_init) (defScope s_BadTruths_init) .none kV4 dc4 pm4 an4 cd4 ct4), sl4⟩)
    (c4 : PySem.W.codeIn K cd4 "BadTruths.__init__" = true)
    (k4 : PySem.W.keepIn K (.ref f4) = true)
    (a5 : PySem.W.findIn K (.ref (He.ga K "NoDeed")) "__init__" = some (some (.ref f5)))
    (i5 : PySem.W.isFn K (.ref f5) = true)
    (l5 : K.lookup f5 = some ⟨oc5, od5, .func (PySem.W.fnOf "__init__" "NoDeed.__init__" (defArgs s_NoDeed_init) (defBody s_NoDeed_init) (defScope s_NoDeed_init) .none kV5 dc5 pm5 an5 cd5 ct5), sl5⟩)
    (c5 : PySem.W.codeIn K cd5 "NoDeed.__init__" = true)
    (k5 : PySem.W.keepIn K (.ref f5) = true)
    (a6 : PySem.W.findIn K (.ref (He.ga K "BadCount")) "__init__" = some (some (.ref f6)))
    (i6 : PySem.W.isFn K (.ref f6) = true)
    (l6 : K.lookup f6 = some ⟨oc6, od6, .func (PySem.W.fnOf "__init__" "BadCount.__init__" (defArgs s_BadCount_init) (defBody s_BadCount_init) (defScope s_BadCount_init) .none kV6 dc6 pm6 an6 cd6 ct6), sl6⟩)
    (c6 : PySem.W.codeIn K cd6 "BadCount.__init__" = true)
    (k6 : PySem.W.keepIn K (.ref f6) = true)
    (a7 : PySem.W.findIn K (.ref (He.ga K "NoPlace")) "__init__" = some (some (.ref f7)))
    (i7 : PySem.W.isFn K (.ref f7) = true)
    (l7 : K.lookup f7 = some ⟨oc7, od7, .func (PySem.W.fnOf "__init__" "NoPlace.__init__" (defArgs s_NoPlace_init) (defBody s_NoPlace_init) (defScope s_NoPlace_init) .none kV7 dc7 pm7 an7 cd7 ct7), sl7⟩)
    (c7 : PySem.W.codeIn K cd7 "NoPlace.__init__" = true)
    (k7 : PySem.W.keepIn K (.ref f7) = true)
    (a8 : PySem.W.findIn K (.ref (He.ga K "BadSize")) "__init__" = some (some (.ref f8)))
    (i8 : PySem.W.isFn K (.ref f8) = true)
    (l8 : K.lookup f8 = some ⟨oc8, od8, .func (PySem.W.fnOf "__init__" "BadSize.__init__" (defArgs s_BadSize_init) (defBody s_BadSize_init) (defScope s_BadSize_init) .none kV8 dc8 pm8 an8 cd8 ct8), sl8⟩)
    (c8 : PySem.W.codeIn K cd8 "BadSize.__init__" = true)
    (k8 : PySem.W.keepIn K (.ref f8) = true)
    (a9 : PySem.W.findIn K (.ref (He.ga K "NoState")) "__init__" = some (some (.ref f9)))
    (i9 : PySem.W.isFn K (.ref f9) = true)
    (l9 : K.lookup f9 = some ⟨oc9, od9, .func (PySem.W.fnOf "__init__" "NoState.__init__" (defArgs s_NoState_init) (defBody s_NoState_init) (defScope s_NoState_init) .none kV9 dc9 pm9 an9 cd9 ct9), sl9⟩)
    (c9 : PySem.W.codeIn K cd9 "NoState.__init__" = true)
    (k9 : PySem.W.keepIn K (.ref f9) = true)
    (a10 : PySem.W.findIn K (.ref (He.ga K "BadRow")) "__init__" = some (some (.ref f10)))
    (i10 : PySem.W.isFn K (.ref f10) = true)
    (l10 : K.lookup f10 = some ⟨oc10, od10, .func (PySem.W.fnOf "__init__" "BadRow.__init__" (defArgs s_BadRow_init) (defBody s_BadRow_init) (defScope s_BadRow_init) .none kV10 dc10 pm10 an10 cd10 ct10), sl10⟩)
    (c10 : PySem.W.codeIn K cd10 "BadRow.__init__" = true)
    (k10 : PySem.W.keepIn K (.ref f10) = true)
    (a11 : PySem.W.findIn K (.ref (He.ga K "BadIndex")) "__init__" = some (some (.ref f11)))
    (i11 : PySem.W.isFn K (.ref f11) = true)
    (l11 : K.lookup f11 = some ⟨oc11, od11, .func (PySem.W.fnOf "__init__" "BadIndex.__init__" (defArgs s_BadIndex_init) (defBody s_BadIndex_init) (defScope s_BadIndex_init) .none kV11 dc11 pm11 an11 cd11 ct11), sl11⟩)
    (c11 : PySem.W.codeIn K cd11 "BadIndex.__init__" = true)
    (k11 : PySem.W.keepIn K (.ref f11) = true)
    (a12 : PySem.W.findIn K (.ref (He.ga K "NoRow")) "__init__" = some (some (.ref f12)))
    (i12 : PySem.W.isFn K (.ref f12) = true)
    (l12 : K.lookup f12 = some ⟨oc12, od12, .func (PySem.W.fnOf "__init__" "NoRow.__init__" (defArgs s_NoRow_init) (defBody s_NoRow_init) (defScope s_NoRow_init) .none kV12 dc12 pm12 an12 cd12 ct12), sl12⟩)
    (c12 : PySem.W.codeIn K cd12 "NoRow.__init__" = true)
    (k12 : PySem.W.keepIn K (.ref f12) = true)
    (a13 : PySem.W.findIn K (.ref (He.ga K "BadPurse")) "__init__" = some (some (.ref f13)))
    (i13 : PySem.W.isFn K (.ref f13) = true)
    (l13 : K.lookup f13 = some ⟨oc13, od13, .func (PySem.W.fnOf "__init__" "BadPurse.__init__" (defArgs s_BadPurse_init) (defBody s_BadPurse_init) (defScope s_BadPurse_init) .none kV13 dc13 pm13 an13 cd13 ct13), sl13⟩)
    (c13 : PySem.W.codeIn K cd13 "BadPurse.__init__" = true)
    (k13 : PySem.W.keepIn K (.ref f13) = true)
    (a14 : PySem.W.findIn K (.ref (He.ga K "BadName")) "__init__" = some (some (.ref f14)))
    (i14 : PySem.W.isFn K (.ref f14) = true)
    (l14 : K.lookup f14 = some ⟨oc14, od14, .func (PySem.W.fnOf "__init__" "BadName.__init__" (defArgs s_BadName_init) (defBody s_BadName_init) (defScope s_BadName_init) .none kV14 dc14 pm14 an14 cd14 ct14), sl14⟩)
    (c14 : PySem.W.codeIn K cd14 "BadName.__init__" = true)
    (k14 : PySem.W.keepIn K (.ref f14) = true)
    (a15 : PySem.W.findIn K (.ref (He.ga K "NoTest")) "__init__" = some (some (.ref f15)))
    (i15 : PySem.W.isFn K (.ref f15) = true)
    (l15 : K.lookup f15 = some ⟨oc15, od15, .func (PySem.W.fnOf "__init__" "NoTest.__init__" (defArgs s_NoTest_init) (defBody s_NoTest_init) (defScope s_NoTest_init) .none kV15 dc15 pm15 an15 cd15 ct15), sl15⟩)
    (c15 : PySem.W.codeIn K cd15 "NoTest.__init__" = true)
    (k15 : PySem.W.keepIn K (.ref f15) = true)
    (a16 : PySem.W.findIn K (.ref (He.ga K "BadSet")) "__init__" = some (some (.ref f16)))
    (i16 : PySem.W.isFn K (.ref f16) = true)
    (l16 : K.lookup f16 = some ⟨oc16, od16, .func (PySem.W.fnOf "__init__" "BadSet.__init__" (defArgs s_BadSet_init) (defBody s_BadSet_init) (defScope s_BadSet_init) .none kV16 dc16 pm16 an16 cd16 ct16), sl16⟩)
    (c16 : PySem.W.codeIn K cd16 "BadSet.__init__" = true)
    (k16 : PySem.W.keepIn K (.ref f16) = true)
    (a17 : PySem.W.findIn K (.ref (He.ga K "BadWays")) "__init__" = some (some (.ref f17)))
    (i17 : PySem.W.isFn K (.ref f17) = true)
    (l17 : K.lookup f17 = some ⟨oc17, od17, .func (PySem.W.fnOf "__init__" "BadWays.__init__" (defArgs s_BadWays_init) (defBody s_BadWays_init) (defScope s_BadWays_init) .none kV17 dc17 pm17 an17 cd17 ct17), sl17⟩)
    (c17 : PySem.W.codeIn K cd17 "BadWays.__init__" = true)
    (k17 : PySem.W.keepIn K (.ref f17) = true)
    (a18 : PySem.W.findIn K (.ref (He.ga K "NoName")) "__init__" = some (some (.ref f18)))
    (i18 : PySem.W.isFn K (.ref f18) = true)
    (l18 : K.lookup f18 = some ⟨oc18, od18, .func (PySem.W.fnOf "__init__" "NoName.__init__" (defArgs s_NoName_init) (defBody s_NoName_init) (defScope s_NoName_init) .none kV18 dc18 pm18 an18 cd18 ct18), sl18⟩)
    (c18 : PySem.W.codeIn K cd18 "NoName.__init__" = true)
    (k18 : PySem.W.keepIn K (.ref f18) = true)
    (a19 : PySem.W.findIn K (.ref (He.ga K "Leaned")) "__init__" = some (some (.ref f19)))
    (i19 : PySem.W.isFn K (.ref f19) = true)
    (l19 : K.lookup f19 = some ⟨oc19, od19, .func (PySem.W.fnOf "__init__" "Leaned.__init__" (defArgs s_Leaned_init) (defBody s_Leaned_init) (defScope s_Leaned_init) .none kV19 dc19 pm19 an19 cd19 ct19), sl19⟩)
    (c19 : PySem.W.codeIn K cd19 "Leaned.__init__" = true)
    (k19 : PySem.W.keepIn K (.ref f19) = true)
    (a20 : PySem.W.findIn K (.ref (He.ga K "BadCosts")) "__init__" = some (some (.ref f20)))
    (i20 : PySem.W.isFn K (.ref f20) = true)
    (l20 : K.lookup f20 = some ⟨oc20, od20, .func (PySem.W.fnOf "__init__" "BadCosts.__init__" (defArgs s_BadCosts_init) (defBody s_BadCosts_init) (defScope s_BadCosts_init) .none kV20 dc20 pm20 an20 cd20 ct20), sl20⟩)
    (c20 : PySem.W.codeIn K cd20 "BadCosts.__init__" = true)
    (k20 : PySem.W.keepIn K (.ref f20) = true)
    (a21 : PySem.W.findIn K (.ref (He.ga K "BadWeights")) "__init__" = some (some (.ref f21)))
    (i21 : PySem.W.isFn K (.ref f21) = true)
    (l21 : K.lookup f21 = some ⟨oc21, od21, .func (PySem.W.fnOf "__init__" "BadWeights.__init__" (defArgs s_BadWeights_init) (defBody s_BadWeights_init) (defScope s_BadWeights_init) .none kV21 dc21 pm21 an21 cd21 ct21), sl21⟩)
    (c21 : PySem.W.codeIn K cd21 "BadWeights.__init__" = true)
    (k21 : PySem.W.keepIn K (.ref f21) = true)
    (a22 : PySem.W.findIn K (.ref (He.ga K "BadEquation")) "__init__" = some (some (.ref f22)))
    (i22 : PySem.W.isFn K (.ref f22) = true)
    (l22 : K.lookup f22 = some ⟨oc22, od22, .func (PySem.W.fnOf "__init__" "BadEquation.__init__" (defArgs s_BadEquation_init) (defBody s_BadEquation_init) (defScope s_BadEquation_init) .none kV22 dc22 pm22 an22 cd22 ct22), sl22⟩)
    (c22 : PySem.W.codeIn K cd22 "BadEquation.__init__" = true)
    (k22 : PySem.W.keepIn K (.ref f22) = true)
    (a23 : PySem.W.findIn K (.ref (He.ga K "BadTerm")) "__init__" = some (some (.ref f23)))
    (i23 : PySem.W.isFn K (.ref f23) = true)
    (l23 : K.lookup f23 = some ⟨oc23, od23, .func (PySem.W.fnOf "__init__" "BadTerm.__init__" (defArgs s_BadTerm_init) (defBody s_BadTerm_init) (defScope s_BadTerm_init) .none kV23 dc23 pm23 an23 cd23 ct23), sl23⟩)
    (c23 : PySem.W.codeIn K cd23 "BadTerm.__init__" = true)
    (k23 : PySem.W.keepIn K (.ref f23) = true)
    (a24 : PySem.W.findIn K (.ref (He.ga K "BadPromise")) "__init__" = some (some (.ref f24)))
    (i24 : PySem.W.isFn K (.ref f24) = true)
    (l24 : K.lookup f24 = some ⟨oc24, od24, .func (PySem.W.fnOf "__init__" "BadPromise.__init__" (defArgs s_BadPromise_init) (defBody s_BadPromise_init) (defScope s_BadPromise_init) .none kV24 dc24 pm24 an24 cd24 ct24), sl24⟩)
    (c24 : PySem.W.codeIn K cd24 "BadPromise.__init__" = true)
    (k24 : PySem.W.keepIn K (.ref f24) = true)
    (a25 : PySem.W.findIn K (.ref (He.ga K "BadLine")) "__init__" = some (some (.ref f25)))
    (i25 : PySem.W.isFn K (.ref f25) = true)
    (l25 : K.lookup f25 = some ⟨oc25, od25, .func (PySem.W.fnOf "__init__" "BadLine.__init__" (defArgs s_BadLine_init) (defBody s_BadLine_init) (defScope s_BadLine_init) .none kV25 dc25 pm25 an25 cd25 ct25), sl25⟩)
    (c25 : PySem.W.codeIn K cd25 "BadLine.__init__" = true)
    (k25 : PySem.W.keepIn K (.ref f25) = true)
    (a26 : PySem.W.findIn K (.ref (He.ga K "BadBar")) "__init__" = some (some (.ref f26)))
    (i26 : PySem.W.isFn K (.ref f26) = true)
    (l26 : K.lookup f26 = some ⟨oc26, od26, .func (PySem.W.fnOf "__init__" "BadBar.__init__" (defArgs s_BadBar_init) (defBody s_BadBar_init) (defScope s_BadBar_init) .none kV26 dc26 pm26 an26 cd26 ct26), sl26⟩)
    (c26 : PySem.W.codeIn K cd26 "BadBar.__init__" = true)
    (k26 : PySem.W.keepIn K (.ref f26) = true)
    (a27 : PySem.W.findIn K (.ref (He.ga K "Broken")) "__init__" = some (some (.ref f27)))
    (i27 : PySem.W.isFn K (.ref f27) = true)
    (l27 : K.lookup f27 = some ⟨oc27, od27, .func (PySem.W.fnOf "__init__" "Broken.__init__" (defArgs s_Broken_init) (defBody s_Broken_init) (defScope s_Broken_init) .none kV27 dc27 pm27 an27 cd27 ct27), sl27⟩)
    (c27 : PySem.W.codeIn K cd27 "Broken.__init__" = true)
    (k27 : PySem.W.keepIn K (.ref f27) = true)
    (a28 : PySem.W.findIn K (.ref (He.ga K "Refused")) "__init__" = some (some (.ref f28)))
    (i28 : PySem.W.isFn K (.ref f28) = true)
    (l28 : K.lookup f28 = some ⟨oc28, od28, .func (PySem.W.fnOf "__init__" "Refused.__init__" (defArgs s_Refused_init) (defBody s_Refused_init) (defScope s_Refused_init) .none kV28 dc28 pm28 an28 cd28 ct28), sl28⟩)
    (c28 : PySem.W.codeIn K cd28 "Refused.__init__" = true)
    (k28 : PySem.W.keepIn K (.ref f28) = true)
    (a29 : PySem.W.findIn K (.ref (He.ga K "UnlikeBooks")) "__init__" = some (some (.ref f29)))
    (i29 : PySem.W.isFn K (.ref f29) = true)
    (l29 : K.lookup f29 = some ⟨oc29, od29, .func (PySem.W.fnOf "__init__" "UnlikeBooks.__init__" (defArgs s_UnlikeBooks_init) (defBody s_UnlikeBooks_init) (defScope s_UnlikeBooks_init) .none kV29 dc29 pm29 an29 cd29 ct29), sl29⟩)
    (c29 : PySem.W.codeIn K cd29 "UnlikeBooks.__init__" = true)
    (k29 : PySem.W.keepIn K (.ref f29) = true)
    (a30 : PySem.W.findIn K (.ref (He.ga K "BadText")) "__init__" = some (some (.ref f30)))
    (i30 : PySem.W.isFn K (.ref f30) = true)
    (l30 : K.lookup f30 = some ⟨oc30, od30, .func (PySem.W.fnOf "__init__" "BadText.__init__" (defArgs s_BadText_init) (defBody s_BadText_init) (defScope s_BadText_init) .none kV30 dc30 pm30 an30 cd30 ct30), sl30⟩)
    (c30 : PySem.W.codeIn K cd30 "BadText.__init__" = true)
    (k30 : PySem.W.keepIn K (.ref f30) = true)
    (a31 : PySem.W.findIn K (.ref (He.ga K "NothingToUndo")) "__init__" = some (some (.ref f31)))
    (i31 : PySem.W.isFn K (.ref f31) = true)
    (l31 : K.lookup f31 = some ⟨oc31, od31, .func (PySem.W.fnOf "__init__" "NothingToUndo.__init__" (defArgs s_NothingToUndo_init) (defBody s_NothingToUndo_init) (defScope s_NothingToUndo_init) .none kV31 dc31 pm31 an31 cd31 ct31), sl31⟩)
    (c31 : PySem.W.codeIn K cd31 "NothingToUndo.__init__" = true)
    (k31 : PySem.W.keepIn K (.ref f31) = true)
    (a32 : PySem.W.findIn K (.ref (He.ga K "NotSure")) "__init__" = some (some (.ref f32)))
    (i32 : PySem.W.isFn K (.ref f32) = true)
    (l32 : K.lookup f32 = some ⟨oc32, od32, .func (PySem.W.fnOf "__init__" "NotSure.__init__" (defArgs s_NotSure_init) (defBody s_NotSure_init) (defScope s_NotSure_init) .none kV32 dc32 pm32 an32 cd32 ct32), sl32⟩)
    (c32 : PySem.W.codeIn K cd32 "NotSure.__init__" = true)
    (k32 : PySem.W.keepIn K (.ref f32) = true)
    (a33 : PySem.W.nsIn K mainGlobals "_law_spring" = some (some (.ref f33)))
    (l33 : K.lookup f33 = some ⟨oc33, od33, .func (PySem.W.fnOf "_law_spring" "_law_spring" (defArgs s_law_spring) (defBody s_law_spring) (defScope s_law_spring) .none kV33 dc33 pm33 an33 cd33 ct33), sl33⟩)
    (c33 : PySem.W.codeIn K cd33 "_law_spring" = true)
    (k33 : PySem.W.keepIn K (.ref f33) = true)
    (a34 : PySem.W.nsIn K mainGlobals "_law_draw" = some (some (.ref f34)))
    (l34 : K.lookup f34 = some ⟨oc34, od34, .func (PySem.W.fnOf "_law_draw" "_law_draw" (defArgs s_law_draw) (defBody s_law_draw) (defScope s_law_draw) .none kV34 dc34 pm34 an34 cd34 ct34), sl34⟩)
    (c34 : PySem.W.codeIn K cd34 "_law_draw" = true)
    (k34 : PySem.W.keepIn K (.ref f34) = true)
    (a35 : PySem.W.nsIn K mainGlobals "_law_pick" = some (some (.ref f35)))
    (l35 : K.lookup f35 = some ⟨oc35, od35, .func (PySem.W.fnOf "_law_pick" "_law_pick" (defArgs s_law_pick) (defBody s_law_pick) (defScope s_law_pick) .none kV35 dc35 pm35 an35 cd35 ct35), sl35⟩)
    (c35 : PySem.W.codeIn K cd35 "_law_pick" = true)
    (k35 : PySem.W.keepIn K (.ref f35) = true)
    (a36 : PySem.W.nsIn K mainGlobals "_law_things" = some (some (.ref f36)))
    (l36 : K.lookup f36 = some ⟨oc36, od36, .func (PySem.W.fnOf "_law_things" "_law_things" (defArgs s_law_things) (defBody s_law_things) (defScope s_law_things) .none kV36 dc36 pm36 an36 cd36 ct36), sl36⟩)
    (c36 : PySem.W.codeIn K cd36 "_law_things" = true)
    (k36 : PySem.W.keepIn K (.ref f36) = true)
    (a37 : PySem.W.nsIn K mainGlobals "_law_names" = some (some (.ref f37)))
    (l37 : K.lookup f37 = some ⟨oc37, od37, .func (PySem.W.fnOf "_law_names" "_law_names" (defArgs s_law_names) (defBody s_law_names) (defScope s_law_names) .none kV37 dc37 pm37 an37 cd37 ct37), sl37⟩)
    (c37 : PySem.W.codeIn K cd37 "_law_names" = true)
    (k37 : PySem.W.keepIn K (.ref f37) = true)
    (a38 : PySem.W.nsIn K mainGlobals "_law_others" = some (some (.ref f38)))
    (l38 : K.lookup f38 = some ⟨oc38, od38, .func (PySem.W.fnOf "_law_others" "_law_others" (defArgs s_law_others) (defBody s_law_others) (defScope s_law_others) .none kV38 dc38 pm38 an38 cd38 ct38), sl38⟩)
    (c38 : PySem.W.codeIn K cd38 "_law_others" = true)
    (k38 : PySem.W.keepIn K (.ref f38) = true)
    (a39 : PySem.W.nsIn K mainGlobals "_law_classes" = some (some (.ref f39)))
    (l39 : K.lookup f39 = some ⟨oc39, od39, .func (PySem.W.fnOf "_law_classes" "_law_classes" (defArgs s_law_classes) (defBody s_law_classes) (defScope s_law_classes) .none kV39 dc39 pm39 an39 cd39 ct39), sl39⟩)
    (c39 : PySem.W.codeIn K cd39 "_law_classes" = true)
    (k39 : PySem.W.keepIn K (.ref f39) = true)
    (a40 : PySem.W.nsIn K mainGlobals "_law_is_alone" = some (some (.ref f40)))
    (l40 : K.lookup f40 = some ⟨oc40, od40, .func (PySem.W.fnOf "_law_is_alone" "_law_is_alone" (defArgs s_law_is_alone) (defBody s_law_is_alone) (defScope s_law_is_alone) .none kV40 dc40 pm40 an40 cd40 ct40), sl40⟩)
    (c40 : PySem.W.codeIn K cd40 "_law_is_alone" = true)
    (k40 : PySem.W.keepIn K (.ref f40) = true)
    (a41 : PySem.W.nsIn K mainGlobals "law" = some (some (.ref f41)))
    (l41 : K.lookup f41 = some ⟨oc41, od41, .func (PySem.W.fnOf "law" "law" (defArgs s_law) (defBody s_law) (defScope s_law) .none kV41 dc41 pm41 an41 cd41 ct41), sl41⟩)
    (c41 : PySem.W.codeIn K cd41 "law" = true)
    (k41 : PySem.W.keepIn K (.ref f41) = true)
    (aDE : PySem.W.nsIn K mainGlobals "DeedError" = some (some (.ref (He.ga K "DeedError"))))
    (rdD : PySem.W.readsIn K (He.ga K "DeedError") (.type "type") = true)
    (rgD : PySem.W.specialIn K (.ref (He.ga K "DeedError")) "__getattribute__" = some (some (.builtin "type.__getattribute__")))
    (fcD : PySem.W.findCls K (.ref (He.ga K "DeedError")) (.type "type") "__init__" = some (.val (.builtin "ValueError.__init__")))
    (clD : PySem.W.isClsIn K (He.ga K "DeedError") = true)
    (tyD0 : PySem.W.typeIn K (.ref (He.ga K "DeedError")) = some (.type "type"))
    (isg : PySem.W.specialIn K (.builtin "object.__class__") "__get__" = some (some (.builtin "getset_descriptor.__get__")))
    (itk : PySem.W.takesIn K (.builtin "object.__class__") = some true)
    (hsm : (List.lookup PySem.sysModules K).isSome = true)
    (sbs : ((((["BadTruth", "BadTests", "BadDeeds", "BadTruths", "NoDeed", "BadCount", "NoPlace", "BadSize", "NoState", "BadRow", "BadIndex"] : List Str) ++ (["NoRow", "BadPurse", "BadName", "NoTest", "BadSet", "BadWays", "NoName", "Leaned", "BadCosts", "BadWeights", "BadEquation"] : List Str)) ++ (["BadTerm", "BadPromise", "BadLine", "BadBar", "Broken", "Refused", "UnlikeBooks", "BadText", "NothingToUndo", "NotSure"] : List Str)).all fun n => (((["BadTruth", "BadTests", "BadDeeds", "BadTruths", "NoDeed", "BadCount", "NoPlace", "BadSize", "NoState", "BadRow", "BadIndex"] : List Str) ++ (["NoRow", "BadPurse", "BadName", "NoTest", "BadSet", "BadWays", "NoName", "Leaned", "BadCosts", "BadWeights", "BadEquation"] : List Str)) ++ (["BadTerm", "BadPromise", "BadLine", "BadBar", "Broken", "Refused", "UnlikeBooks", "BadText", "NothingToUndo", "NotSure"] : List Str)).all fun m => (decide (n = m) || (decide (PySem.W.subIn K (.ref (He.ga K n)) (.ref (He.ga K m)) = some false) && !(He.ga K n == He.ga K m)))) = true)
    (sde : ((((["BadTruth", "BadTests", "BadDeeds", "BadTruths", "NoDeed", "BadCount", "NoPlace", "BadSize", "NoState", "BadRow", "BadIndex"] : List Str) ++ (["NoRow", "BadPurse", "BadName", "NoTest", "BadSet", "BadWays", "NoName", "Leaned", "BadCosts", "BadWeights", "BadEquation"] : List Str)) ++ (["BadTerm", "BadPromise", "BadLine", "BadBar", "Broken", "Refused", "UnlikeBooks", "BadText", "NothingToUndo", "NotSure"] : List Str)).all fun n => (decide (PySem.W.subIn K (.ref (He.ga K n)) (.ref (He.ga K "DeedError")) = some true) && !(He.ga K n == He.ga K "DeedError"))) = true)
    (sve : ((((["BadTruth", "BadTests", "BadDeeds", "BadTruths", "NoDeed", "BadCount", "NoPlace", "BadSize", "NoState", "BadRow", "BadIndex"] : List Str) ++ (["NoRow", "BadPurse", "BadName", "NoTest", "BadSet", "BadWays", "NoName", "Leaned", "BadCosts", "BadWeights", "BadEquation"] : List Str)) ++ (["BadTerm", "BadPromise", "BadLine", "BadBar", "Broken", "Refused", "UnlikeBooks", "BadText", "NothingToUndo", "NotSure"] : List Str)).all fun n => decide (PySem.W.subIn K (.ref (He.ga K n)) (.type "ValueError") = some true)) = true)
    (aE1 : PySem.W.nsIn K mainGlobals "BadTruth" = some (some (.ref (He.ga K "BadTruth"))))
    (xE1 : K.lookup (He.ga K "BadTruth") = some (excClassObj nmE1 qE1 (He.ga K "BadTruth") NE1 bsE1 [.ref (He.ga K "DeedError"), .type "ValueError", .type "Exception", .type "BaseException", .type "object"] true snE1 subE1 abE1 colE1 ddE1 mE10 mE11 mE12 mE13 mE15 "ValueError.__new__"))
    (saE1 : PySem.W.findIn K (.ref (He.ga K "BadTruth")) "__setattr__" = some (some (.builtin "object.__setattr__")))
    (exE1 : PySem.W.subIn K (.ref (He.ga K "BadTruth")) (.type "BaseException") = some true)
    (tyE1 : PySem.W.typeIn K (.ref (He.ga K "BadTruth")) = some (.type "type"))
    (kcE1 : PySem.W.keepIn K (.ref (He.ga K "BadTruth")) = true)
    (clE1 : PySem.W.isClsIn K (He.ga K "BadTruth") = true)
    (tfE1 : PySem.W.typeIn K (.ref f1) = some (.type "function"))
    (gaE1 : PySem.W.findIn K (.ref (He.ga K "BadTruth")) "__getattribute__" = some (some (.builtin "BaseException.__getattribute__")))
    (ggE1 : PySem.W.findIn K (.ref (He.ga K "BadTruth")) "__getattr__" = some none)
    (hdE1 : PySem.W.hasDictIn K (He.ga K "BadTruth") = true)
    (icE1 : PySem.W.findIn K (.ref (He.ga K "BadTruth")) "__class__" = some (some (.builtin "object.__class__")))
    (imE1 : PySem.W.mroIn K (He.ga K "BadTruth") (.type "object") = some true)
    (noE1 : PySem.W.findIn K (.ref (He.ga K "BadTruth")) "thing" = some none)
    (aE2 : PySem.W.nsIn K mainGlobals "BadTests" = some (some (.ref (He.ga K "BadTests"))))
    (xE2 : K.lookup (He.ga K "BadTests") = some (excClassObj nmE2 qE2 (He.ga K "BadTests") NE2 bsE2 [.ref (He.ga K "DeedError"), .type "ValueError", .type "Exception", .type "BaseException", .type "object"] true snE2 subE2 abE2 colE2 ddE2 mE20 mE21 mE22 mE23 mE25 "ValueError.__new__"))
    (saE2 : PySem.W.findIn K (.ref (He.ga K "BadTests")) "__setattr__" = some (some (.builtin "object.__setattr__")))
    (exE2 : PySem.W.subIn K (.ref (He.ga K "BadTests")) (.type "BaseException") = some true)
    (tyE2 : PySem.W.typeIn K (.ref (He.ga K "BadTests")) = some (.type "type"))
    (kcE2 : PySem.W.keepIn K (.ref (He.ga K "BadTests")) = true)
    (clE2 : PySem.W.isClsIn K (He.ga K "BadTests") = true)
    (tfE2 : PySem.W.typeIn K (.ref f2) = some (.type "function"))
    (gaE2 : PySem.W.findIn K (.ref (He.ga K "BadTests")) "__getattribute__" = some (some (.builtin "BaseException.__getattribute__")))
    (ggE2 : PySem.W.findIn K (.ref (He.ga K "BadTests")) "__getattr__" = some none)
    (hdE2 : PySem.W.hasDictIn K (He.ga K "BadTests") = true)
    (icE2 : PySem.W.findIn K (.ref (He.ga K "BadTests")) "__class__" = some (some (.builtin "object.__class__")))
    (imE2 : PySem.W.mroIn K (He.ga K "BadTests") (.type "object") = some true)
    (noE2 : PySem.W.findIn K (.ref (He.ga K "BadTests")) "thing" = some none)
    (aE3 : PySem.W.nsIn K mainGlobals "BadDeeds" = some (some (.ref (He.ga K "BadDeeds"))))
    (xE3 : K.lookup (He.ga K "BadDeeds") = some (excClassObj nmE3 qE3 (He.ga K "BadDeeds") NE3 bsE3 [.ref (He.ga K "DeedError"), .type "ValueError", .type "Exception", .type "BaseException", .type "object"] true snE3 subE3 abE3 colE3 ddE3 mE30 mE31 mE32 mE33 mE35 "ValueError.__new__"))
    (saE3 : PySem.W.findIn K (.ref (He.ga K "BadDeeds")) "__setattr__" = some (some (.builtin "object.__setattr__")))
    (exE3 : PySem.W.subIn K (.ref (He.ga K "BadDeeds")) (.type "BaseException") = some true)
    (tyE3 : PySem.W.typeIn K (.ref (He.ga K "BadDeeds")) = some (.type "type"))
    (kcE3 : PySem.W.keepIn K (.ref (He.ga K "BadDeeds")) = true)
    (clE3 : PySem.W.isClsIn K (He.ga K "BadDeeds") = true)
    (tfE3 : PySem.W.typeIn K (.ref f3) = some (.type "function"))
    (gaE3 : PySem.W.findIn K (.ref (He.ga K "BadDeeds")) "__getattribute__" = some (some (.builtin "BaseException.__getattribute__")))
    (ggE3 : PySem.W.findIn K (.ref (He.ga K "BadDeeds")) "__getattr__" = some none)
    (hdE3 : PySem.W.hasDictIn K (He.ga K "BadDeeds") = true)
    (icE3 : PySem.W.findIn K (.ref (He.ga K "BadDeeds")) "__class__" = some (some (.builtin "object.__class__")))
    (imE3 : PySem.W.mroIn K (He.ga K "BadDeeds") (.type "object") = some true)
    (noE3 : PySem.W.findIn K (.ref (He.ga K "BadDeeds")) "thing" = some none)
    (aE4 : PySem.W.nsIn K mainGlobals "BadTruths" = some (some (.ref (He.ga K "BadTruths"))))
    (xE4 : K.lookup (He.ga K "BadTruths") = some (excClassObj nmE4 qE4 (He.ga K "BadTruths") NE4 bsE4 [.ref (He.ga K "DeedError"), .type "ValueError", .type "Exception", .type "BaseException", .type "object"] true snE4 subE4 abE4 colE4 ddE4 mE40 mE41 mE42 mE43 mE45 "ValueError.__new__"))
    (saE4 : PySem.W.findIn K (.ref (He.ga K "BadTruths")) "__setattr__" = some (some (.builtin "object.__setattr__")))
    (exE4 : PySem.W.subIn K (.ref (He.ga K "BadTruths")) (.type "BaseException") = some true)
    (tyE4 : PySem.W.typeIn K (.ref (He.ga K "BadTruths")) = some (.type "type"))
    (kcE4 : PySem.W.keepIn K (.ref (He.ga K "BadTruths")) = true)
    (clE4 : PySem.W.isClsIn K (He.ga K "BadTruths") = true)
    (tfE4 : PySem.W.typeIn K (.ref f4) = some (.type "function"))
    (gaE4 : PySem.W.findIn K (.ref (He.ga K "BadTruths")) "__getattribute__" = some (some (.builtin "BaseException.__getattribute__")))
    (ggE4 : PySem.W.findIn K (.ref (He.ga K "BadTruths")) "__getattr__" = some none)
    (hdE4 : PySem.W.hasDictIn K (He.ga K "BadTruths") = true)
    (icE4 : PySem.W.findIn K (.ref (He.ga K "BadTruths")) "__class__" = some (some (.builtin "object.__class__")))
    (imE4 : PySem.W.mroIn K (He.ga K "BadTruths") (.type "object") = some true)
    (noE4 : PySem.W.findIn K (.ref (He.ga K "BadTruths")) "thing" = some none)
    (aE5 : PySem.W.nsIn K mainGlobals "NoDeed" = some (some (.ref (He.ga K "NoDeed"))))
    (xE5 : K.lookup (He.ga K "NoDeed") = some (excClassObj nmE5 qE5 (He.ga K "NoDeed") NE5 bsE5 [.ref (He.ga K "DeedError"), .type "ValueError", .type "Exception", .type "BaseException", .type "object"] true snE5 subE5 abE5 colE5 ddE5 mE50 mE51 mE52 mE53 mE55 "ValueError.__new__"))
    (saE5 : PySem.W.findIn K (.ref (He.ga K "NoDeed")) "__setattr__" = some (some (.builtin "object.__setattr__")))
    (exE5 : PySem.W.subIn K (.ref (He.ga K "NoDeed")) (.type "BaseException") = some true)
    (tyE5 : PySem.W.typeIn K (.ref (He.ga K "NoDeed")) = some (.type "type"))
    (kcE5 : PySem.W.keepIn K (.ref (He.ga K "NoDeed")) = true)
    (clE5 : PySem.W.isClsIn K (He.ga K "NoDeed") = true)
    (tfE5 : PySem.W.typeIn K (.ref f5) = some (.type "function"))
    (gaE5 : PySem.W.findIn K (.ref (He.ga K "NoDeed")) "__getattribute__" = some (some (.builtin "BaseException.__getattribute__")))
    (ggE5 : PySem.W.findIn K (.ref (He.ga K "NoDeed")) "__getattr__" = some none)
    (hdE5 : PySem.W.hasDictIn K (He.ga K "NoDeed") = true)
    (icE5 : PySem.W.findIn K (.ref (He.ga K "NoDeed")) "__class__" = some (some (.builtin "object.__class__")))
    (imE5 : PySem.W.mroIn K (He.ga K "NoDeed") (.type "object") = some true)
    (noE5 : PySem.W.findIn K (.ref (He.ga K "NoDeed")) "thing" = some none)
    (aE6 : PySem.W.nsIn K mainGlobals "BadCount" = some (some (.ref (He.ga K "BadCount"))))
    (xE6 : K.lookup (He.ga K "BadCount") = some (excClassObj nmE6 qE6 (He.ga K "BadCount") NE6 bsE6 [.ref (He.ga K "DeedError"), .type "ValueError", .type "Exception", .type "BaseException", .type "object"] true snE6 subE6 abE6 colE6 ddE6 mE60 mE61 mE62 mE63 mE65 "ValueError.__new__"))
    (saE6 : PySem.W.findIn K (.ref (He.ga K "BadCount")) "__setattr__" = some (some (.builtin "object.__setattr__")))
    (exE6 : PySem.W.subIn K (.ref (He.ga K "BadCount")) (.type "BaseException") = some true)
    (tyE6 : PySem.W.typeIn K (.ref (He.ga K "BadCount")) = some (.type "type"))
    (kcE6 : PySem.W.keepIn K (.ref (He.ga K "BadCount")) = true)
    (clE6 : PySem.W.isClsIn K (He.ga K "BadCount") = true)
    (tfE6 : PySem.W.typeIn K (.ref f6) = some (.type "function"))
    (gaE6 : PySem.W.findIn K (.ref (He.ga K "BadCount")) "__getattribute__" = some (some (.builtin "BaseException.__getattribute__")))
    (ggE6 : PySem.W.findIn K (.ref (He.ga K "BadCount")) "__getattr__" = some none)
    (hdE6 : PySem.W.hasDictIn K (He.ga K "BadCount") = true)
    (icE6 : PySem.W.findIn K (.ref (He.ga K "BadCount")) "__class__" = some (some (.builtin "object.__class__")))
    (imE6 : PySem.W.mroIn K (He.ga K "BadCount") (.type "object") = some true)
    (noE6 : PySem.W.findIn K (.ref (He.ga K "BadCount")) "thing" = some none)
    (aE7 : PySem.W.nsIn K mainGlobals "NoPlace" = some (some (.ref (He.ga K "NoPlace"))))
    (xE7 : K.lookup (He.ga K "NoPlace") = some (excClassObj nmE7 qE7 (He.ga K "NoPlace") NE7 bsE7 [.ref (He.ga K "DeedError"), .type "ValueError", .type "Exception", .type "BaseException", .type "object"] true snE7 subE7 abE7 colE7 ddE7 mE70 mE71 mE72 mE73 mE75 "ValueError.__new__"))
    (saE7 : PySem.W.findIn K (.ref (He.ga K "NoPlace")) "__setattr__" = some (some (.builtin "object.__setattr__")))
    (exE7 : PySem.W.subIn K (.ref (He.ga K "NoPlace")) (.type "BaseException") = some true)
    (tyE7 : PySem.W.typeIn K (.ref (He.ga K "NoPlace")) = some (.type "type"))
    (kcE7 : PySem.W.keepIn K (.ref (He.ga K "NoPlace")) = true)
    (clE7 : PySem.W.isClsIn K (He.ga K "NoPlace") = true)
    (tfE7 : PySem.W.typeIn K (.ref f7) = some (.type "function"))
    (gaE7 : PySem.W.findIn K (.ref (He.ga K "NoPlace")) "__getattribute__" = some (some (.builtin "BaseException.__getattribute__")))
    (ggE7 : PySem.W.findIn K (.ref (He.ga K "NoPlace")) "__getattr__" = some none)
    (hdE7 : PySem.W.hasDictIn K (He.ga K "NoPlace") = true)
    (icE7 : PySem.W.findIn K (.ref (He.ga K "NoPlace")) "__class__" = some (some (.builtin "object.__class__")))
    (imE7 : PySem.W.mroIn K (He.ga K "NoPlace") (.type "object") = some true)
    (noE7 : PySem.W.findIn K (.ref (He.ga K "NoPlace")) "thing" = some none)
    (aE8 : PySem.W.nsIn K mainGlobals "BadSize" = some (some (.ref (He.ga K "BadSize"))))
    (xE8 : K.lookup (He.ga K "BadSize") = some (excClassObj nmE8 qE8 (He.ga K "BadSize") NE8 bsE8 [.ref (He.ga K "DeedError"), .type "ValueError", .type "Exception", .type "BaseException", .type "object"] true snE8 subE8 abE8 colE8 ddE8 mE80 mE81 mE82 mE83 mE85 "ValueError.__new__"))
    (saE8 : PySem.W.findIn K (.ref (He.ga K "BadSize")) "__setattr__" = some (some (.builtin "object.__setattr__")))
    (exE8 : PySem.W.subIn K (.ref (He.ga K "BadSize")) (.type "BaseException") = some true)
    (tyE8 : PySem.W.typeIn K (.ref (He.ga K "BadSize")) = some (.type "type"))
    (kcE8 : PySem.W.keepIn K (.ref (He.ga K "BadSize")) = true)
    (clE8 : PySem.W.isClsIn K (He.ga K "BadSize") = true)
    (tfE8 : PySem.W.typeIn K (.ref f8) = some (.type "function"))
    (gaE8 : PySem.W.findIn K (.ref (He.ga K "BadSize")) "__getattribute__" = some (some (.builtin "BaseException.__getattribute__")))
    (ggE8 : PySem.W.findIn K (.ref (He.ga K "BadSize")) "__getattr__" = some none)
    (hdE8 : PySem.W.hasDictIn K (He.ga K "BadSize") = true)
    (icE8 : PySem.W.findIn K (.ref (He.ga K "BadSize")) "__class__" = some (some (.builtin "object.__class__")))
    (imE8 : PySem.W.mroIn K (He.ga K "BadSize") (.type "object") = some true)
    (noE8 : PySem.W.findIn K (.ref (He.ga K "BadSize")) "thing" = some none)
    (aE9 : PySem.W.nsIn K mainGlobals "NoState" = some (some (.ref (He.ga K "NoState"))))
    (xE9 : K.lookup (He.ga K "NoState") = some (excClassObj nmE9 qE9 (He.ga K "NoState") NE9 bsE9 [.ref (He.ga K "DeedError"), .type "ValueError", .type "Exception", .type "BaseException", .type "object"] true snE9 subE9 abE9 colE9 ddE9 mE90 mE91 mE92 mE93 mE95 "ValueError.__new__"))
    (saE9 : PySem.W.findIn K (.ref (He.ga K "NoState")) "__setattr__" = some (some (.builtin "object.__setattr__")))
    (exE9 : PySem.W.subIn K (.ref (He.ga K "NoState")) (.type "BaseException") = some true)
    (tyE9 : PySem.W.typeIn K (.ref (He.ga K "NoState")) = some (.type "type"))
    (kcE9 : PySem.W.keepIn K (.ref (He.ga K "NoState")) = true)
    (clE9 : PySem.W.isClsIn K (He.ga K "NoState") = true)
    (tfE9 : PySem.W.typeIn K (.ref f9) = some (.type "function"))
    (gaE9 : PySem.W.findIn K (.ref (He.ga K "NoState")) "__getattribute__" = some (some (.builtin "BaseException.__getattribute__")))
    (ggE9 : PySem.W.findIn K (.ref (He.ga K "NoState")) "__getattr__" = some none)
    (hdE9 : PySem.W.hasDictIn K (He.ga K "NoState") = true)
    (icE9 : PySem.W.findIn K (.ref (He.ga K "NoState")) "__class__" = some (some (.builtin "object.__class__")))
    (imE9 : PySem.W.mroIn K (He.ga K "NoState") (.type "object") = some true)
    (noE9 : PySem.W.findIn K (.ref (He.ga K "NoState")) "thing" = some none)
    (aE10 : PySem.W.nsIn K mainGlobals "BadRow" = some (some (.ref (He.ga K "BadRow"))))
    (xE10 : K.lookup (He.ga K "BadRow") = some (excClassObj nmE10 qE10 (He.ga K "BadRow") NE10 bsE10 [.ref (He.ga K "DeedError"), .type "ValueError", .type "Exception", .type "BaseException", .type "object"] true snE10 subE10 abE10 colE10 ddE10 mE100 mE101 mE102 mE103 mE105 "ValueError.__new__"))
    (saE10 : PySem.W.findIn K (.ref (He.ga K "BadRow")) "__setattr__" = some (some (.builtin "object.__setattr__")))
    (exE10 : PySem.W.subIn K (.ref (He.ga K "BadRow")) (.type "BaseException") = some true)
    (tyE10 : PySem.W.typeIn K (.ref (He.ga K "BadRow")) = some (.type "type"))
    (kcE10 : PySem.W.keepIn K (.ref (He.ga K "BadRow")) = true)
    (clE10 : PySem.W.isClsIn K (He.ga K "BadRow") = true)
    (tfE10 : PySem.W.typeIn K (.ref f10) = some (.type "function"))
    (gaE10 : PySem.W.findIn K (.ref (He.ga K "BadRow")) "__getattribute__" = some (some (.builtin "BaseException.__getattribute__")))
    (ggE10 : PySem.W.findIn K (.ref (He.ga K "BadRow")) "__getattr__" = some none)
    (hdE10 : PySem.W.hasDictIn K (He.ga K "BadRow") = true)
    (icE10 : PySem.W.findIn K (.ref (He.ga K "BadRow")) "__class__" = some (some (.builtin "object.__class__")))
    (imE10 : PySem.W.mroIn K (He.ga K "BadRow") (.type "object") = some true)
    (noE10 : PySem.W.findIn K (.ref (He.ga K "BadRow")) "thing" = some none)
    (aE11 : PySem.W.nsIn K mainGlobals "BadIndex" = some (some (.ref (He.ga K "BadIndex"))))
    (xE11 : K.lookup (He.ga K "BadIndex") = some (excClassObj nmE11 qE11 (He.ga K "BadIndex") NE11 bsE11 [.ref (He.ga K "DeedError"), .type "ValueError", .type "Exception", .type "BaseException", .type "object"] true snE11 subE11 abE11 colE11 ddE11 mE110 mE111 mE112 mE113 mE115 "ValueError.__new__"))
    (saE11 : PySem.W.findIn K (.ref (He.ga K "BadIndex")) "__setattr__" = some (some (.builtin "object.__setattr__")))
    (exE11 : PySem.W.subIn K (.ref (He.ga K "BadIndex")) (.type "BaseException") = some true)
    (tyE11 : PySem.W.typeIn K (.ref (He.ga K "BadIndex")) = some (.type "type"))
    (kcE11 : PySem.W.keepIn K (.ref (He.ga K "BadIndex")) = true)
    (clE11 : PySem.W.isClsIn K (He.ga K "BadIndex") = true)
    (tfE11 : PySem.W.typeIn K (.ref f11) = some (.type "function"))
    (gaE11 : PySem.W.findIn K (.ref (He.ga K "BadIndex")) "__getattribute__" = some (some (.builtin "BaseException.__getattribute__")))
    (ggE11 : PySem.W.findIn K (.ref (He.ga K "BadIndex")) "__getattr__" = some none)
    (hdE11 : PySem.W.hasDictIn K (He.ga K "BadIndex") = true)
    (icE11 : PySem.W.findIn K (.ref (He.ga K "BadIndex")) "__class__" = some (some (.builtin "object.__class__")))
    (imE11 : PySem.W.mroIn K (He.ga K "BadIndex") (.type "object") = some true)
    (noE11 : PySem.W.findIn K (.ref (He.ga K "BadIndex")) "thing" = some none)
    (aE12 : PySem.W.nsIn K mainGlobals "NoRow" = some (some (.ref (He.ga K "NoRow"))))
    (xE12 : K.lookup (He.ga K "NoRow") = some (excClassObj nmE12 qE12 (He.ga K "NoRow") NE12 bsE12 [.ref (He.ga K "DeedError"), .type "ValueError", .type "Exception", .type "BaseException", .type "object"] true snE12 subE12 abE12 colE12 ddE12 mE120 mE121 mE122 mE123 mE125 "ValueError.__new__"))
    (saE12 : PySem.W.findIn K (.ref (He.ga K "NoRow")) "__setattr__" = some (some (.builtin "object.__setattr__")))
    (exE12 : PySem.W.subIn K (.ref (He.ga K "NoRow")) (.type "BaseException") = some true)
    (tyE12 : PySem.W.typeIn K (.ref (He.ga K "NoRow")) = some (.type "type"))
    (kcE12 : PySem.W.keepIn K (.ref (He.ga K "NoRow")) = true)
    (clE12 : PySem.W.isClsIn K (He.ga K "NoRow") = true)
    (tfE12 : PySem.W.typeIn K (.ref f12) = some (.type "function"))
    (gaE12 : PySem.W.findIn K (.ref (He.ga K "NoRow")) "__getattribute__" = some (some (.builtin "BaseException.__getattribute__")))
    (ggE12 : PySem.W.findIn K (.ref (He.ga K "NoRow")) "__getattr__" = some none)
    (hdE12 : PySem.W.hasDictIn K (He.ga K "NoRow") = true)
    (icE12 : PySem.W.findIn K (.ref (He.ga K "NoRow")) "__class__" = some (some (.builtin "object.__class__")))
    (imE12 : PySem.W.mroIn K (He.ga K "NoRow") (.type "object") = some true)
    (noE12 : PySem.W.findIn K (.ref (He.ga K "NoRow")) "thing" = some none)
    (aE13 : PySem.W.nsIn K mainGlobals "BadPurse" = some (some (.ref (He.ga K "BadPurse"))))
    (xE13 : K.lookup (He.ga K "BadPurse") = some (excClassObj nmE13 qE13 (He.ga K "BadPurse") NE13 bsE13 [.ref (He.ga K "DeedError"), .type "ValueError", .type "Exception", .type "BaseException", .type "object"] true snE13 subE13 abE13 colE13 ddE13 mE130 mE131 mE132 mE133 mE135 "ValueError.__new__"))
    (saE13 : PySem.W.findIn K (.ref (He.ga K "BadPurse")) "__setattr__" = some (some (.builtin "object.__setattr__")))
    (exE13 : PySem.W.subIn K (.ref (He.ga K "BadPurse")) (.type "BaseException") = some true)
    (tyE13 : PySem.W.typeIn K (.ref (He.ga K "BadPurse")) = some (.type "type"))
    (kcE13 : PySem.W.keepIn K (.ref (He.ga K "BadPurse")) = true)
    (clE13 : PySem.W.isClsIn K (He.ga K "BadPurse") = true)
    (tfE13 : PySem.W.typeIn K (.ref f13) = some (.type "function"))
    (gaE13 : PySem.W.findIn K (.ref (He.ga K "BadPurse")) "__getattribute__" = some (some (.builtin "BaseException.__getattribute__")))
    (ggE13 : PySem.W.findIn K (.ref (He.ga K "BadPurse")) "__getattr__" = some none)
    (hdE13 : PySem.W.hasDictIn K (He.ga K "BadPurse") = true)
    (icE13 : PySem.W.findIn K (.ref (He.ga K "BadPurse")) "__class__" = some (some (.builtin "object.__class__")))
    (imE13 : PySem.W.mroIn K (He.ga K "BadPurse") (.type "object") = some true)
    (noE13 : PySem.W.findIn K (.ref (He.ga K "BadPurse")) "thing" = some none)
    (aE14 : PySem.W.nsIn K mainGlobals "BadName" = some (some (.ref (He.ga K "BadName"))))
    (xE14 : K.lookup (He.ga K "BadName") = some (excClassObj nmE14 qE14 (He.ga K "BadName") NE14 bsE14 [.ref (He.ga K "DeedError"), .type "ValueError", .type "Exception", .type "BaseException", .type "object"] true snE14 subE14 abE14 colE14 ddE14 mE140 mE141 mE142 mE143 mE145 "ValueError.__new__"))
    (saE14 : PySem.W.findIn K (.ref (He.ga K "BadName")) "__setattr__" = some (some (.builtin "object.__setattr__")))
    (exE14 : PySem.W.subIn K (.ref (He.ga K "BadName")) (.type "BaseException") = some true)
    (tyE14 : PySem.W.typeIn K (.ref (He.ga K "BadName")) = some (.type "type"))
    (kcE14 : PySem.W.keepIn K (.ref (He.ga K "BadName")) = true)
    (clE14 : PySem.W.isClsIn K (He.ga K "BadName") = true)
    (tfE14 : PySem.W.typeIn K (.ref f14) = some (.type "function"))
    (gaE14 : PySem.W.findIn K (.ref (He.ga K "BadName")) "__getattribute__" = some (some (.builtin "BaseException.__getattribute__")))
    (ggE14 : PySem.W.findIn K (.ref (He.ga K "BadName")) "__getattr__" = some none)
    (hdE14 : PySem.W.hasDictIn K (He.ga K "BadName") = true)
    (icE14 : PySem.W.findIn K (.ref (He.ga K "BadName")) "__class__" = some (some (.builtin "object.__class__")))
    (imE14 : PySem.W.mroIn K (He.ga K "BadName") (.type "object") = some true)
    (noE14 : PySem.W.findIn K (.ref (He.ga K "BadName")) "name" = some none)
    (aE15 : PySem.W.nsIn K mainGlobals "NoTest" = some (some (.ref (He.ga K "NoTest"))))
    (xE15 : K.lookup (He.ga K "NoTest") = some (excClassObj nmE15 qE15 (He.ga K "NoTest") NE15 bsE15 [.ref (He.ga K "DeedError"), .type "ValueError", .type "Exception", .type "BaseException", .type "object"] true snE15 subE15 abE15 colE15 ddE15 mE150 mE151 mE152 mE153 mE155 "ValueError.__new__"))
    (saE15 : PySem.W.findIn K (.ref (He.ga K "NoTest")) "__setattr__" = some (some (.builtin "object.__setattr__")))
    (exE15 : PySem.W.subIn K (.ref (He.ga K "NoTest")) (.type "BaseException") = some true)
    (tyE15 : PySem.W.typeIn K (.ref (He.ga K "NoTest")) = some (.type "type"))
    (kcE15 : PySem.W.keepIn K (.ref (He.ga K "NoTest")) = true)
    (clE15 : PySem.W.isClsIn K (He.ga K "NoTest") = true)
    (tfE15 : PySem.W.typeIn K (.ref f15) = some (.type "function"))
    (gaE15 : PySem.W.findIn K (.ref (He.ga K "NoTest")) "__getattribute__" = some (some (.builtin "BaseException.__getattribute__")))
    (ggE15 : PySem.W.findIn K (.ref (He.ga K "NoTest")) "__getattr__" = some none)
    (hdE15 : PySem.W.hasDictIn K (He.ga K "NoTest") = true)
    (icE15 : PySem.W.findIn K (.ref (He.ga K "NoTest")) "__class__" = some (some (.builtin "object.__class__")))
    (imE15 : PySem.W.mroIn K (He.ga K "NoTest") (.type "object") = some true)
    (noE15 : PySem.W.findIn K (.ref (He.ga K "NoTest")) "name" = some none)
    (aE16 : PySem.W.nsIn K mainGlobals "BadSet" = some (some (.ref (He.ga K "BadSet"))))
    (xE16 : K.lookup (He.ga K "BadSet") = some (excClassObj nmE16 qE16 (He.ga K "BadSet") NE16 bsE16 [.ref (He.ga K "DeedError"), .type "ValueError", .type "Exception", .type "BaseException", .type "object"] true snE16 subE16 abE16 colE16 ddE16 mE160 mE161 mE162 mE163 mE165 "ValueError.__new__"))
    (saE16 : PySem.W.findIn K (.ref (He.ga K "BadSet")) "__setattr__" = some (some (.builtin "object.__setattr__")))
    (exE16 : PySem.W.subIn K (.ref (He.ga K "BadSet")) (.type "BaseException") = some true)
    (tyE16 : PySem.W.typeIn K (.ref (He.ga K "BadSet")) = some (.type "type"))
    (kcE16 : PySem.W.keepIn K (.ref (He.ga K "BadSet")) = true)
    (clE16 : PySem.W.isClsIn K (He.ga K "BadSet") = true)
    (tfE16 : PySem.W.typeIn K (.ref f16) = some (.type "function"))
    (gaE16 : PySem.W.findIn K (.ref (He.ga K "BadSet")) "__getattribute__" = some (some (.builtin "BaseException.__getattribute__")))
    (ggE16 : PySem.W.findIn K (.ref (He.ga K "BadSet")) "__getattr__" = some none)
    (hdE16 : PySem.W.hasDictIn K (He.ga K "BadSet") = true)
    (icE16 : PySem.W.findIn K (.ref (He.ga K "BadSet")) "__class__" = some (some (.builtin "object.__class__")))
    (imE16 : PySem.W.mroIn K (He.ga K "BadSet") (.type "object") = some true)
    (noE16 : PySem.W.findIn K (.ref (He.ga K "BadSet")) "name" = some none)
    (aE17 : PySem.W.nsIn K mainGlobals "BadWays" = some (some (.ref (He.ga K "BadWays"))))
    (xE17 : K.lookup (He.ga K "BadWays") = some (excClassObj nmE17 qE17 (He.ga K "BadWays") NE17 bsE17 [.ref (He.ga K "DeedError"), .type "ValueError", .type "Exception", .type "BaseException", .type "object"] true snE17 subE17 abE17 colE17 ddE17 mE170 mE171 mE172 mE173 mE175 "ValueError.__new__"))
    (saE17 : PySem.W.findIn K (.ref (He.ga K "BadWays")) "__setattr__" = some (some (.builtin "object.__setattr__")))
    (exE17 : PySem.W.subIn K (.ref (He.ga K "BadWays")) (.type "BaseException") = some true)
    (tyE17 : PySem.W.typeIn K (.ref (He.ga K "BadWays")) = some (.type "type"))
    (kcE17 : PySem.W.keepIn K (.ref (He.ga K "BadWays")) = true)
    (clE17 : PySem.W.isClsIn K (He.ga K "BadWays") = true)
    (tfE17 : PySem.W.typeIn K (.ref f17) = some (.type "function"))
    (gaE17 : PySem.W.findIn K (.ref (He.ga K "BadWays")) "__getattribute__" = some (some (.builtin "BaseException.__getattribute__")))
    (ggE17 : PySem.W.findIn K (.ref (He.ga K "BadWays")) "__getattr__" = some none)
    (hdE17 : PySem.W.hasDictIn K (He.ga K "BadWays") = true)
    (icE17 : PySem.W.findIn K (.ref (He.ga K "BadWays")) "__class__" = some (some (.builtin "object.__class__")))
    (imE17 : PySem.W.mroIn K (He.ga K "BadWays") (.type "object") = some true)
    (noE17 : PySem.W.findIn K (.ref (He.ga K "BadWays")) "name" = some none)
    (aE18 : PySem.W.nsIn K mainGlobals "NoName" = some (some (.ref (He.ga K "NoName"))))
    (xE18 : K.lookup (He.ga K "NoName") = some (excClassObj nmE18 qE18 (He.ga K "NoName") NE18 bsE18 [.ref (He.ga K "DeedError"), .type "ValueError", .type "Exception", .type "BaseException", .type "object"] true snE18 subE18 abE18 colE18 ddE18 mE180 mE181 mE182 mE183 mE185 "ValueError.__new__"))
    (saE18 : PySem.W.findIn K (.ref (He.ga K "NoName")) "__setattr__" = some (some (.builtin "object.__setattr__")))
    (exE18 : PySem.W.subIn K (.ref (He.ga K "NoName")) (.type "BaseException") = some true)
    (tyE18 : PySem.W.typeIn K (.ref (He.ga K "NoName")) = some (.type "type"))
    (kcE18 : PySem.W.keepIn K (.ref (He.ga K "NoName")) = true)
    (clE18 : PySem.W.isClsIn K (He.ga K "NoName") = true)
    (tfE18 : PySem.W.typeIn K (.ref f18) = some (.type "function"))
    (gaE18 : PySem.W.findIn K (.ref (He.ga K "NoName")) "__getattribute__" = some (some (.builtin "BaseException.__getattribute__")))
    (ggE18 : PySem.W.findIn K (.ref (He.ga K "NoName")) "__getattr__" = some none)
    (hdE18 : PySem.W.hasDictIn K (He.ga K "NoName") = true)
    (icE18 : PySem.W.findIn K (.ref (He.ga K "NoName")) "__class__" = some (some (.builtin "object.__class__")))
    (imE18 : PySem.W.mroIn K (He.ga K "NoName") (.type "object") = some true)
    (noE18 : PySem.W.findIn K (.ref (He.ga K "NoName")) "name" = some none)
    (aE19 : PySem.W.nsIn K mainGlobals "Leaned" = some (some (.ref (He.ga K "Leaned"))))
    (xE19 : K.lookup (He.ga K "Leaned") = some (excClassObj nmE19 qE19 (He.ga K "Leaned") NE19 bsE19 [.ref (He.ga K "DeedError"), .type "ValueError", .type "Exception", .type "BaseException", .type "object"] true snE19 subE19 abE19 colE19 ddE19 mE190 mE191 mE192 mE193 mE195 "ValueError.__new__"))
    (saE19 : PySem.W.findIn K (.ref (He.ga K "Leaned")) "__setattr__" = some (some (.builtin "object.__setattr__")))
    (exE19 : PySem.W.subIn K (.ref (He.ga K "Leaned")) (.type "BaseException") = some true)
    (tyE19 : PySem.W.typeIn K (.ref (He.ga K "Leaned")) = some (.type "type"))
    (kcE19 : PySem.W.keepIn K (.ref (He.ga K "Leaned")) = true)
    (clE19 : PySem.W.isClsIn K (He.ga K "Leaned") = true)
    (tfE19 : PySem.W.typeIn K (.ref f19) = some (.type "function"))
    (gaE19 : PySem.W.findIn K (.ref (He.ga K "Leaned")) "__getattribute__" = some (some (.builtin "BaseException.__getattribute__")))
    (ggE19 : PySem.W.findIn K (.ref (He.ga K "Leaned")) "__getattr__" = some none)
    (hdE19 : PySem.W.hasDictIn K (He.ga K "Leaned") = true)
    (icE19 : PySem.W.findIn K (.ref (He.ga K "Leaned")) "__class__" = some (some (.builtin "object.__class__")))
    (imE19 : PySem.W.mroIn K (He.ga K "Leaned") (.type "object") = some true)
    (noE19 : PySem.W.findIn K (.ref (He.ga K "Leaned")) "name" = some none)
    (aE20 : PySem.W.nsIn K mainGlobals "BadCosts" = some (some (.ref (He.ga K "BadCosts"))))
    (xE20 : K.lookup (He.ga K "BadCosts") = some (excClassObj nmE20 qE20 (He.ga K "BadCosts") NE20 bsE20 [.ref (He.ga K "DeedError"), .type "ValueError", .type "Exception", .type "BaseException", .type "object"] true snE20 subE20 abE20 colE20 ddE20 mE200 mE201 mE202 mE203 mE205 "ValueError.__new__"))
    (saE20 : PySem.W.findIn K (.ref (He.ga K "BadCosts")) "__setattr__" = some (some (.builtin "object.__setattr__")))
    (exE20 : PySem.W.subIn K (.ref (He.ga K "BadCosts")) (.type "BaseException") = some true)
    (tyE20 : PySem.W.typeIn K (.ref (He.ga K "BadCosts")) = some (.type "type"))
    (kcE20 : PySem.W.keepIn K (.ref (He.ga K "BadCosts")) = true)
    (clE20 : PySem.W.isClsIn K (He.ga K "BadCosts") = true)
    (tfE20 : PySem.W.typeIn K (.ref f20) = some (.type "function"))
    (gaE20 : PySem.W.findIn K (.ref (He.ga K "BadCosts")) "__getattribute__" = some (some (.builtin "BaseException.__getattribute__")))
    (ggE20 : PySem.W.findIn K (.ref (He.ga K "BadCosts")) "__getattr__" = some none)
    (hdE20 : PySem.W.hasDictIn K (He.ga K "BadCosts") = true)
    (icE20 : PySem.W.findIn K (.ref (He.ga K "BadCosts")) "__class__" = some (some (.builtin "object.__class__")))
    (imE20 : PySem.W.mroIn K (He.ga K "BadCosts") (.type "object") = some true)
    (noE20 : PySem.W.findIn K (.ref (He.ga K "BadCosts")) "name" = some none)
    (aE21 : PySem.W.nsIn K mainGlobals "BadWeights" = some (some (.ref (He.ga K "BadWeights"))))
    (xE21 : K.lookup (He.ga K "BadWeights") = some (excClassObj nmE21 qE21 (He.ga K "BadWeights") NE21 bsE21 [.ref (He.ga K "DeedError"), .type "ValueError", .type "Exception", .type "BaseException", .type "object"] true snE21 subE21 abE21 colE21 ddE21 mE210 mE211 mE212 mE213 mE215 "ValueError.__new__"))
    (saE21 : PySem.W.findIn K (.ref (He.ga K "BadWeights")) "__setattr__" = some (some (.builtin "object.__setattr__")))
    (exE21 : PySem.W.subIn K (.ref (He.ga K "BadWeights")) (.type "BaseException") = some true)
    (tyE21 : PySem.W.typeIn K (.ref (He.ga K "BadWeights")) = some (.type "type"))
    (kcE21 : PySem.W.keepIn K (.ref (He.ga K "BadWeights")) = true)
    (clE21 : PySem.W.isClsIn K (He.ga K "BadWeights") = true)
    (tfE21 : PySem.W.typeIn K (.ref f21) = some (.type "function"))
    (gaE21 : PySem.W.findIn K (.ref (He.ga K "BadWeights")) "__getattribute__" = some (some (.builtin "BaseException.__getattribute__")))
    (ggE21 : PySem.W.findIn K (.ref (He.ga K "BadWeights")) "__getattr__" = some none)
    (hdE21 : PySem.W.hasDictIn K (He.ga K "BadWeights") = true)
    (icE21 : PySem.W.findIn K (.ref (He.ga K "BadWeights")) "__class__" = some (some (.builtin "object.__class__")))
    (imE21 : PySem.W.mroIn K (He.ga K "BadWeights") (.type "object") = some true)
    (noE21 : PySem.W.findIn K (.ref (He.ga K "BadWeights")) "name" = some none)
    (aE22 : PySem.W.nsIn K mainGlobals "BadEquation" = some (some (.ref (He.ga K "BadEquation"))))
    (xE22 : K.lookup (He.ga K "BadEquation") = some (excClassObj nmE22 qE22 (He.ga K "BadEquation") NE22 bsE22 [.ref (He.ga K "DeedError"), .type "ValueError", .type "Exception", .type "BaseException", .type "object"] true snE22 subE22 abE22 colE22 ddE22 mE220 mE221 mE222 mE223 mE225 "ValueError.__new__"))
    (saE22 : PySem.W.findIn K (.ref (He.ga K "BadEquation")) "__setattr__" = some (some (.builtin "object.__setattr__")))
    (exE22 : PySem.W.subIn K (.ref (He.ga K "BadEquation")) (.type "BaseException") = some true)
    (tyE22 : PySem.W.typeIn K (.ref (He.ga K "BadEquation")) = some (.type "type"))
    (kcE22 : PySem.W.keepIn K (.ref (He.ga K "BadEquation")) = true)
    (clE22 : PySem.W.isClsIn K (He.ga K "BadEquation") = true)
    (tfE22 : PySem.W.typeIn K (.ref f22) = some (.type "function"))
    (gaE22 : PySem.W.findIn K (.ref (He.ga K "BadEquation")) "__getattribute__" = some (some (.builtin "BaseException.__getattribute__")))
    (ggE22 : PySem.W.findIn K (.ref (He.ga K "BadEquation")) "__getattr__" = some none)
    (hdE22 : PySem.W.hasDictIn K (He.ga K "BadEquation") = true)
    (icE22 : PySem.W.findIn K (.ref (He.ga K "BadEquation")) "__class__" = some (some (.builtin "object.__class__")))
    (imE22 : PySem.W.mroIn K (He.ga K "BadEquation") (.type "object") = some true)
    (noE22 : PySem.W.findIn K (.ref (He.ga K "BadEquation")) "name" = some none)
    (aE23 : PySem.W.nsIn K mainGlobals "BadTerm" = some (some (.ref (He.ga K "BadTerm"))))
    (xE23 : K.lookup (He.ga K "BadTerm") = some (excClassObj nmE23 qE23 (He.ga K "BadTerm") NE23 bsE23 [.ref (He.ga K "DeedError"), .type "ValueError", .type "Exception", .type "BaseException", .type "object"] true snE23 subE23 abE23 colE23 ddE23 mE230 mE231 mE232 mE233 mE235 "ValueError.__new__"))
    (saE23 : PySem.W.findIn K (.ref (He.ga K "BadTerm")) "__setattr__" = some (some (.builtin "object.__setattr__")))
    (exE23 : PySem.W.subIn K (.ref (He.ga K "BadTerm")) (.type "BaseException") = some true)
    (tyE23 : PySem.W.typeIn K (.ref (He.ga K "BadTerm")) = some (.type "type"))
    (kcE23 : PySem.W.keepIn K (.ref (He.ga K "BadTerm")) = true)
    (clE23 : PySem.W.isClsIn K (He.ga K "BadTerm") = true)
    (tfE23 : PySem.W.typeIn K (.ref f23) = some (.type "function"))
    (gaE23 : PySem.W.findIn K (.ref (He.ga K "BadTerm")) "__getattribute__" = some (some (.builtin "BaseException.__getattribute__")))
    (ggE23 : PySem.W.findIn K (.ref (He.ga K "BadTerm")) "__getattr__" = some none)
    (hdE23 : PySem.W.hasDictIn K (He.ga K "BadTerm") = true)
    (icE23 : PySem.W.findIn K (.ref (He.ga K "BadTerm")) "__class__" = some (some (.builtin "object.__class__")))
    (imE23 : PySem.W.mroIn K (He.ga K "BadTerm") (.type "object") = some true)
    (noE23 : PySem.W.findIn K (.ref (He.ga K "BadTerm")) "index" = some none)
    (aE24 : PySem.W.nsIn K mainGlobals "BadPromise" = some (some (.ref (He.ga K "BadPromise"))))
    (xE24 : K.lookup (He.ga K "BadPromise") = some (excClassObj nmE24 qE24 (He.ga K "BadPromise") NE24 bsE24 [.ref (He.ga K "DeedError"), .type "ValueError", .type "Exception", .type "BaseException", .type "object"] true snE24 subE24 abE24 colE24 ddE24 mE240 mE241 mE242 mE243 mE245 "ValueError.__new__"))
    (saE24 : PySem.W.findIn K (.ref (He.ga K "BadPromise")) "__setattr__" = some (some (.builtin "object.__setattr__")))
    (exE24 : PySem.W.subIn K (.ref (He.ga K "BadPromise")) (.type "BaseException") = some true)
    (tyE24 : PySem.W.typeIn K (.ref (He.ga K "BadPromise")) = some (.type "type"))
    (kcE24 : PySem.W.keepIn K (.ref (He.ga K "BadPromise")) = true)
    (clE24 : PySem.W.isClsIn K (He.ga K "BadPromise") = true)
    (tfE24 : PySem.W.typeIn K (.ref f24) = some (.type "function"))
    (gaE24 : PySem.W.findIn K (.ref (He.ga K "BadPromise")) "__getattribute__" = some (some (.builtin "BaseException.__getattribute__")))
    (ggE24 : PySem.W.findIn K (.ref (He.ga K "BadPromise")) "__getattr__" = some none)
    (hdE24 : PySem.W.hasDictIn K (He.ga K "BadPromise") = true)
    (icE24 : PySem.W.findIn K (.ref (He.ga K "BadPromise")) "__class__" = some (some (.builtin "object.__class__")))
    (imE24 : PySem.W.mroIn K (He.ga K "BadPromise") (.type "object") = some true)
    (noE24 : PySem.W.findIn K (.ref (He.ga K "BadPromise")) "index" = some none)
    (aE25 : PySem.W.nsIn K mainGlobals "BadLine" = some (some (.ref (He.ga K "BadLine"))))
    (xE25 : K.lookup (He.ga K "BadLine") = some (excClassObj nmE25 qE25 (He.ga K "BadLine") NE25 bsE25 [.ref (He.ga K "DeedError"), .type "ValueError", .type "Exception", .type "BaseException", .type "object"] true snE25 subE25 abE25 colE25 ddE25 mE250 mE251 mE252 mE253 mE255 "ValueError.__new__"))
    (saE25 : PySem.W.findIn K (.ref (He.ga K "BadLine")) "__setattr__" = some (some (.builtin "object.__setattr__")))
    (exE25 : PySem.W.subIn K (.ref (He.ga K "BadLine")) (.type "BaseException") = some true)
    (tyE25 : PySem.W.typeIn K (.ref (He.ga K "BadLine")) = some (.type "type"))
    (kcE25 : PySem.W.keepIn K (.ref (He.ga K "BadLine")) = true)
    (clE25 : PySem.W.isClsIn K (He.ga K "BadLine") = true)
    (tfE25 : PySem.W.typeIn K (.ref f25) = some (.type "function"))
    (gaE25 : PySem.W.findIn K (.ref (He.ga K "BadLine")) "__getattribute__" = some (some (.builtin "BaseException.__getattribute__")))
    (ggE25 : PySem.W.findIn K (.ref (He.ga K "BadLine")) "__getattr__" = some none)
    (hdE25 : PySem.W.hasDictIn K (He.ga K "BadLine") = true)
    (icE25 : PySem.W.findIn K (.ref (He.ga K "BadLine")) "__class__" = some (some (.builtin "object.__class__")))
    (imE25 : PySem.W.mroIn K (He.ga K "BadLine") (.type "object") = some true)
    (noE25 : PySem.W.findIn K (.ref (He.ga K "BadLine")) "index" = some none)
    (aE26 : PySem.W.nsIn K mainGlobals "BadBar" = some (some (.ref (He.ga K "BadBar"))))
    (xE26 : K.lookup (He.ga K "BadBar") = some (excClassObj nmE26 qE26 (He.ga K "BadBar") NE26 bsE26 [.ref (He.ga K "DeedError"), .type "ValueError", .type "Exception", .type "BaseException", .type "object"] true snE26 subE26 abE26 colE26 ddE26 mE260 mE261 mE262 mE263 mE265 "ValueError.__new__"))
    (saE26 : PySem.W.findIn K (.ref (He.ga K "BadBar")) "__setattr__" = some (some (.builtin "object.__setattr__")))
    (exE26 : PySem.W.subIn K (.ref (He.ga K "BadBar")) (.type "BaseException") = some true)
    (tyE26 : PySem.W.typeIn K (.ref (He.ga K "BadBar")) = some (.type "type"))
    (kcE26 : PySem.W.keepIn K (.ref (He.ga K "BadBar")) = true)
    (clE26 : PySem.W.isClsIn K (He.ga K "BadBar") = true)
    (tfE26 : PySem.W.typeIn K (.ref f26) = some (.type "function"))
    (gaE26 : PySem.W.findIn K (.ref (He.ga K "BadBar")) "__getattribute__" = some (some (.builtin "BaseException.__getattribute__")))
    (ggE26 : PySem.W.findIn K (.ref (He.ga K "BadBar")) "__getattr__" = some none)
    (hdE26 : PySem.W.hasDictIn K (He.ga K "BadBar") = true)
    (icE26 : PySem.W.findIn K (.ref (He.ga K "BadBar")) "__class__" = some (some (.builtin "object.__class__")))
    (imE26 : PySem.W.mroIn K (He.ga K "BadBar") (.type "object") = some true)
    (noE26 : PySem.W.findIn K (.ref (He.ga K "BadBar")) "index" = some none)
    (aE27 : PySem.W.nsIn K mainGlobals "Broken" = some (some (.ref (He.ga K "Broken"))))
    (xE27 : K.lookup (He.ga K "Broken") = some (excClassObj nmE27 qE27 (He.ga K "Broken") NE27 bsE27 [.ref (He.ga K "DeedError"), .type "ValueError", .type "Exception", .type "BaseException", .type "object"] true snE27 subE27 abE27 colE27 ddE27 mE270 mE271 mE272 mE273 mE275 "ValueError.__new__"))
    (saE27 : PySem.W.findIn K (.ref (He.ga K "Broken")) "__setattr__" = some (some (.builtin "object.__setattr__")))
    (exE27 : PySem.W.subIn K (.ref (He.ga K "Broken")) (.type "BaseException") = some true)
    (tyE27 : PySem.W.typeIn K (.ref (He.ga K "Broken")) = some (.type "type"))
    (kcE27 : PySem.W.keepIn K (.ref (He.ga K "Broken")) = true)
    (clE27 : PySem.W.isClsIn K (He.ga K "Broken") = true)
    (tfE27 : PySem.W.typeIn K (.ref f27) = some (.type "function"))
    (gaE27 : PySem.W.findIn K (.ref (He.ga K "Broken")) "__getattribute__" = some (some (.builtin "BaseException.__getattribute__")))
    (ggE27 : PySem.W.findIn K (.ref (He.ga K "Broken")) "__getattr__" = some none)
    (hdE27 : PySem.W.hasDictIn K (He.ga K "Broken") = true)
    (icE27 : PySem.W.findIn K (.ref (He.ga K "Broken")) "__class__" = some (some (.builtin "object.__class__")))
    (imE27 : PySem.W.mroIn K (He.ga K "Broken") (.type "object") = some true)
    (noE27 : PySem.W.findIn K (.ref (He.ga K "Broken")) "promise" = some none)
    (aE28 : PySem.W.nsIn K mainGlobals "Refused" = some (some (.ref (He.ga K "Refused"))))
    (xE28 : K.lookup (He.ga K "Refused") = some (excClassObj nmE28 qE28 (He.ga K "Refused") NE28 bsE28 [.ref (He.ga K "DeedError"), .type "ValueError", .type "Exception", .type "BaseException", .type "object"] true snE28 subE28 abE28 colE28 ddE28 mE280 mE281 mE282 mE283 mE285 "ValueError.__new__"))
    (saE28 : PySem.W.findIn K (.ref (He.ga K "Refused")) "__setattr__" = some (some (.builtin "object.__setattr__")))
    (exE28 : PySem.W.subIn K (.ref (He.ga K "Refused")) (.type "BaseException") = some true)
    (tyE28 : PySem.W.typeIn K (.ref (He.ga K "Refused")) = some (.type "type"))
    (kcE28 : PySem.W.keepIn K (.ref (He.ga K "Refused")) = true)
    (clE28 : PySem.W.isClsIn K (He.ga K "Refused") = true)
    (tfE28 : PySem.W.typeIn K (.ref f28) = some (.type "function"))
    (gaE28 : PySem.W.findIn K (.ref (He.ga K "Refused")) "__getattribute__" = some (some (.builtin "BaseException.__getattribute__")))
    (ggE28 : PySem.W.findIn K (.ref (He.ga K "Refused")) "__getattr__" = some none)
    (hdE28 : PySem.W.hasDictIn K (He.ga K "Refused") = true)
    (icE28 : PySem.W.findIn K (.ref (He.ga K "Refused")) "__class__" = some (some (.builtin "object.__class__")))
    (imE28 : PySem.W.mroIn K (He.ga K "Refused") (.type "object") = some true)
    (noE28 : PySem.W.findIn K (.ref (He.ga K "Refused")) "row" = some none)
    (aE29 : PySem.W.nsIn K mainGlobals "UnlikeBooks" = some (some (.ref (He.ga K "UnlikeBooks"))))
    (xE29 : K.lookup (He.ga K "UnlikeBooks") = some (excClassObj nmE29 qE29 (He.ga K "UnlikeBooks") NE29 bsE29 [.ref (He.ga K "DeedError"), .type "ValueError", .type "Exception", .type "BaseException", .type "object"] true snE29 subE29 abE29 colE29 ddE29 mE290 mE291 mE292 mE293 mE295 "ValueError.__new__"))
    (saE29 : PySem.W.findIn K (.ref (He.ga K "UnlikeBooks")) "__setattr__" = some (some (.builtin "object.__setattr__")))
    (exE29 : PySem.W.subIn K (.ref (He.ga K "UnlikeBooks")) (.type "BaseException") = some true)
    (tyE29 : PySem.W.typeIn K (.ref (He.ga K "UnlikeBooks")) = some (.type "type"))
    (kcE29 : PySem.W.keepIn K (.ref (He.ga K "UnlikeBooks")) = true)
    (clE29 : PySem.W.isClsIn K (He.ga K "UnlikeBooks") = true)
    (tfE29 : PySem.W.typeIn K (.ref f29) = some (.type "function"))
    (gaE29 : PySem.W.findIn K (.ref (He.ga K "UnlikeBooks")) "__getattribute__" = some (some (.builtin "BaseException.__getattribute__")))
    (ggE29 : PySem.W.findIn K (.ref (He.ga K "UnlikeBooks")) "__getattr__" = some none)
    (hdE29 : PySem.W.hasDictIn K (He.ga K "UnlikeBooks") = true)
    (icE29 : PySem.W.findIn K (.ref (He.ga K "UnlikeBooks")) "__class__" = some (some (.builtin "object.__class__")))
    (imE29 : PySem.W.mroIn K (He.ga K "UnlikeBooks") (.type "object") = some true)
    (aE30 : PySem.W.nsIn K mainGlobals "BadText" = some (some (.ref (He.ga K "BadText"))))
    (xE30 : K.lookup (He.ga K "BadText") = some (excClassObj nmE30 qE30 (He.ga K "BadText") NE30 bsE30 [.ref (He.ga K "DeedError"), .type "ValueError", .type "Exception", .type "BaseException", .type "object"] true snE30 subE30 abE30 colE30 ddE30 mE300 mE301 mE302 mE303 mE305 "ValueError.__new__"))
    (saE30 : PySem.W.findIn K (.ref (He.ga K "BadText")) "__setattr__" = some (some (.builtin "object.__setattr__")))
    (exE30 : PySem.W.subIn K (.ref (He.ga K "BadText")) (.type "BaseException") = some true)
    (tyE30 : PySem.W.typeIn K (.ref (He.ga K "BadText")) = some (.type "type"))
    (kcE30 : PySem.W.keepIn K (.ref (He.ga K "BadText")) = true)
    (clE30 : PySem.W.isClsIn K (He.ga K "BadText") = true)
    (tfE30 : PySem.W.typeIn K (.ref f30) = some (.type "function"))
    (gaE30 : PySem.W.findIn K (.ref (He.ga K "BadText")) "__getattribute__" = some (some (.builtin "BaseException.__getattribute__")))
    (ggE30 : PySem.W.findIn K (.ref (He.ga K "BadText")) "__getattr__" = some none)
    (hdE30 : PySem.W.hasDictIn K (He.ga K "BadText") = true)
    (icE30 : PySem.W.findIn K (.ref (He.ga K "BadText")) "__class__" = some (some (.builtin "object.__class__")))
    (imE30 : PySem.W.mroIn K (He.ga K "BadText") (.type "object") = some true)
    (aE31 : PySem.W.nsIn K mainGlobals "NothingToUndo" = some (some (.ref (He.ga K "NothingToUndo"))))
    (xE31 : K.lookup (He.ga K "NothingToUndo") = some (excClassObj nmE31 qE31 (He.ga K "NothingToUndo") NE31 bsE31 [.ref (He.ga K "DeedError"), .type "ValueError", .type "Exception", .type "BaseException", .type "object"] true snE31 subE31 abE31 colE31 ddE31 mE310 mE311 mE312 mE313 mE315 "ValueError.__new__"))
    (saE31 : PySem.W.findIn K (.ref (He.ga K "NothingToUndo")) "__setattr__" = some (some (.builtin "object.__setattr__")))
    (exE31 : PySem.W.subIn K (.ref (He.ga K "NothingToUndo")) (.type "BaseException") = some true)
    (tyE31 : PySem.W.typeIn K (.ref (He.ga K "NothingToUndo")) = some (.type "type"))
    (kcE31 : PySem.W.keepIn K (.ref (He.ga K "NothingToUndo")) = true)
    (clE31 : PySem.W.isClsIn K (He.ga K "NothingToUndo") = true)
    (tfE31 : PySem.W.typeIn K (.ref f31) = some (.type "function"))
    (gaE31 : PySem.W.findIn K (.ref (He.ga K "NothingToUndo")) "__getattribute__" = some (some (.builtin "BaseException.__getattribute__")))
    (ggE31 : PySem.W.findIn K (.ref (He.ga K "NothingToUndo")) "__getattr__" = some none)
    (hdE31 : PySem.W.hasDictIn K (He.ga K "NothingToUndo") = true)
    (icE31 : PySem.W.findIn K (.ref (He.ga K "NothingToUndo")) "__class__" = some (some (.builtin "object.__class__")))
    (imE31 : PySem.W.mroIn K (He.ga K "NothingToUndo") (.type "object") = some true)
    (aE32 : PySem.W.nsIn K mainGlobals "NotSure" = some (some (.ref (He.ga K "NotSure"))))
    (xE32 : K.lookup (He.ga K "NotSure") = some (excClassObj nmE32 qE32 (He.ga K "NotSure") NE32 bsE32 [.ref (He.ga K "DeedError"), .type "ValueError", .type "Exception", .type "BaseException", .type "object"] true snE32 subE32 abE32 colE32 ddE32 mE320 mE321 mE322 mE323 mE325 "ValueError.__new__"))
    (saE32 : PySem.W.findIn K (.ref (He.ga K "NotSure")) "__setattr__" = some (some (.builtin "object.__setattr__")))
    (exE32 : PySem.W.subIn K (.ref (He.ga K "NotSure")) (.type "BaseException") = some true)
    (tyE32 : PySem.W.typeIn K (.ref (He.ga K "NotSure")) = some (.type "type"))
    (kcE32 : PySem.W.keepIn K (.ref (He.ga K "NotSure")) = true)
    (clE32 : PySem.W.isClsIn K (He.ga K "NotSure") = true)
    (tfE32 : PySem.W.typeIn K (.ref f32) = some (.type "function"))
    (gaE32 : PySem.W.findIn K (.ref (He.ga K "NotSure")) "__getattribute__" = some (some (.builtin "BaseException.__getattribute__")))
    (ggE32 : PySem.W.findIn K (.ref (He.ga K "NotSure")) "__getattr__" = some none)
    (hdE32 : PySem.W.hasDictIn K (He.ga K "NotSure") = true)
    (icE32 : PySem.W.findIn K (.ref (He.ga K "NotSure")) "__class__" = some (some (.builtin "object.__class__")))
    (imE32 : PySem.W.mroIn K (He.ga K "NotSure") (.type "object") = some true)
    (z_len : PySem.W.nsIn K mainGlobals "len" = some none)
    (z_sorted : PySem.W.nsIn K mainGlobals "sorted" = some none)
    (z_set : PySem.W.nsIn K mainGlobals "set" = some none)
    (z_str : PySem.W.nsIn K mainGlobals "str" = some none)
    (z_int : PySem.W.nsIn K mainGlobals "int" = some none)
    (z_tuple : PySem.W.nsIn K mainGlobals "tuple" = some none)
    (z_list : PySem.W.nsIn K mainGlobals "list" = some none)
    (z_any : PySem.W.nsIn K mainGlobals "any" = some none)
    (z_all : PySem.W.nsIn K mainGlobals "all" = some none)
    (z_isinstance : PySem.W.nsIn K mainGlobals "isinstance" = some none)
    (z_range : PySem.W.nsIn K mainGlobals "range" = some none)
    (z_zip : PySem.W.nsIn K mainGlobals "zip" = some none)
    (z_bool : PySem.W.nsIn K mainGlobals "bool" = some none)
    (z_dict : PySem.W.nsIn K mainGlobals "dict" = some none)
    (z_enumerate : PySem.W.nsIn K mainGlobals "enumerate" = some none)
    (z_repr : PySem.W.nsIn K mainGlobals "repr" = some none)
    (z_ValueError : PySem.W.nsIn K mainGlobals "ValueError" = some none) :
    ∃ fd : FuncData, (∀ (s : Shared) (v : Value), BindsTo s fd ⟨[v], []⟩ [("_law_script", v)]) ∧ ∀ base : Heap, K.In base → base.Ns mainGlobals mg → FnG l.prog w K mg base 4 fa fd ["_law_script"] (spLaw K) := by
  have e := hfa.symm.trans (PySem.W.mg_of X G a41)
  cases e
  have Bz : Bn mg := ⟨PySem.W.mg_none_of X G z_len, PySem.W.mg_none_of X G z_sorted, PySem.W.mg_none_of X G z_set, PySem.W.mg_none_of X G z_str, PySem.W.mg_none_of X G z_int, PySem.W.mg_none_of X G z_tuple, PySem.W.mg_none_of X G z_list, PySem.W.mg_none_of X G z_any, PySem.W.mg_none_of X G z_all, PySem.W.mg_none_of X G z_isinstance, PySem.W.mg_none_of X G z_range, PySem.W.mg_none_of X G z_zip, PySem.W.mg_none_of X G z_bool, PySem.W.mg_none_of X G z_dict, PySem.W.mg_none_of X G z_enumerate, PySem.W.mg_none_of X G z_repr⟩
  have F1 := fun_mk (st := s_BadTruth_init) l1 c1 k1
  have b1 := F1.binds (ps := ["self", "thing"]) fun _ _ _ _ _ _ us hl => match us, hl with | [_, _], _ => rfl
  have F2 := fun_mk (st := s_BadTests_init) l2 c2 k2
  have b2 := F2.binds (ps := ["self", "thing"]) fun _ _ _ _ _ _ us hl => match us, hl with | [_, _], _ => rfl
  have F3 := fun_mk (st := s_BadDeeds_init) l3 c3 k3
  have b3 := F3.binds (ps := ["self", "thing"]) fun _ _ _ _ _ _ us hl => match us, hl with | [_, _], _ => rfl
  have F4 := fun_mk (st := s_BadTruths_init) l4 c4 k4
  have b4 := F4.binds (ps := ["self", "thing"]) fun _ _ _ _ _ _ us hl => match us, hl with | [_, _], _ => rfl
  have F5 := fun_mk (st := s_NoDeed_init) l5 c5 k5
  have b5 := F5.binds (ps := ["self", "thing"]) fun _ _ _ _ _ _ us hl => match us, hl with | [_, _], _ => rfl
  have F6 := fun_mk (st := s_BadCount_init) l6 c6 k6
  have b6 := F6.binds (ps := ["self", "thing"]) fun _ _ _ _ _ _ us hl => match us, hl with | [_, _], _ => rfl
  have F7 := fun_mk (st := s_NoPlace_init) l7 c7 k7
  have b7 := F7.binds (ps := ["self", "thing"]) fun _ _ _ _ _ _ us hl => match us, hl with | [_, _], _ => rfl
  have F8 := fun_mk (st := s_BadSize_init) l8 c8 k8
  have b8 := F8.binds (ps := ["self", "thing"]) fun _ _ _ _ _ _ us hl => match us, hl with | [_, _], _ => rfl
  have F9 := fun_mk (st := s_NoState_init) l9 c9 k9
  have b9 := F9.binds (ps := ["self", "thing"]) fun _ _ _ _ _ _ us hl => match us, hl with | [_, _], _ => rfl
  have F10 := fun_mk (st := s_BadRow_init) l10 c10 k10
  have b10 := F10.binds (ps := ["self", "thing"]) fun _ _ _ _ _ _ us hl => match us, hl with | [_, _], _ => rfl
  have F11 := fun_mk (st := s_BadIndex_init) l11 c11 k11
  have b11 := F11.binds (ps := ["self", "thing"]) fun _ _ _ _ _ _ us hl => match us, hl with | [_, _], _ => rfl
  have F12 := fun_mk (st := s_NoRow_init) l12 c12 k12
  have b12 := F12.binds (ps := ["self", "thing"]) fun _ _ _ _ _ _ us hl => match us, hl with | [_, _], _ => rfl
  have F13 := fun_mk (st := s_BadPurse_init) l13 c13 k13
  have b13 := F13.binds (ps := ["self", "thing"]) fun _ _ _ _ _ _ us hl => match us, hl with | [_, _], _ => rfl
  have F14 := fun_mk (st := s_BadName_init) l14 c14 k14
  have b14 := F14.binds (ps := ["self", "name"]) fun _ _ _ _ _ _ us hl => match us, hl with | [_, _], _ => rfl
  have F15 := fun_mk (st := s_NoTest_init) l15 c15 k15
  have b15 := F15.binds (ps := ["self", "name"]) fun _ _ _ _ _ _ us hl => match us, hl with | [_, _], _ => rfl
  have F16 := fun_mk (st := s_BadSet_init) l16 c16 k16
  have b16 := F16.binds (ps := ["self", "name"]) fun _ _ _ _ _ _ us hl => match us, hl with | [_, _], _ => rfl
  have F17 := fun_mk (st := s_BadWays_init) l17 c17 k17
  have b17 := F17.binds (ps := ["self", "name"]) fun _ _ _ _ _ _ us hl => match us, hl with | [_, _], _ => rfl
  have F18 := fun_mk (st := s_NoName_init) l18 c18 k18
  have b18 := F18.binds (ps := ["self", "name"]) fun _ _ _ _ _ _ us hl => match us, hl with | [_, _], _ => rfl
  have F19 := fun_mk (st := s_Leaned_init) l19 c19 k19
  have b19 := F19.binds (ps := ["self", "name"]) fun _ _ _ _ _ _ us hl => match us, hl with | [_, _], _ => rfl
  have F20 := fun_mk (st := s_BadCosts_init) l20 c20 k20
  have b20 := F20.binds (ps := ["self", "name"]) fun _ _ _ _ _ _ us hl => match us, hl with | [_, _], _ => rfl
  have F21 := fun_mk (st := s_BadWeights_init) l21 c21 k21
  have b21 := F21.binds (ps := ["self", "name"]) fun _ _ _ _ _ _ us hl => match us, hl with | [_, _], _ => rfl
  have F22 := fun_mk (st := s_BadEquation_init) l22 c22 k22
  have b22 := F22.binds (ps := ["self", "name"]) fun _ _ _ _ _ _ us hl => match us, hl with | [_, _], _ => rfl
  have F23 := fun_mk (st := s_BadTerm_init) l23 c23 k23
  have b23 := F23.binds (ps := ["self", "index"]) fun _ _ _ _ _ _ us hl => match us, hl with | [_, _], _ => rfl
  have F24 := fun_mk (st := s_BadPromise_init) l24 c24 k24
  have b24 := F24.binds (ps := ["self", "index"]) fun _ _ _ _ _ _ us hl => match us, hl with | [_, _], _ => rfl
  have F25 := fun_mk (st := s_BadLine_init) l25 c25 k25
  have b25 := F25.binds (ps := ["self", "index"]) fun _ _ _ _ _ _ us hl => match us, hl with | [_, _], _ => rfl
  have F26 := fun_mk (st := s_BadBar_init) l26 c26 k26
  have b26 := F26.binds (ps := ["self", "index"]) fun _ _ _ _ _ _ us hl => match us, hl with | [_, _], _ => rfl
  have F27 := fun_mk (st := s_Broken_init) l27 c27 k27
  have b27 := F27.binds (ps := ["self", "promise"]) fun _ _ _ _ _ _ us hl => match us, hl with | [_, _], _ => rfl
  have F28 := fun_mk (st := s_Refused_init) l28 c28 k28
  have b28 := F28.binds (ps := ["self", "row"]) fun _ _ _ _ _ _ us hl => match us, hl with | [_, _], _ => rfl
  have F29 := fun_mk (st := s_UnlikeBooks_init) l29 c29 k29
  have b29 := F29.binds (ps := ["self"]) fun _ _ _ _ _ _ us hl => match us, hl with | [_], _ => rfl
  have F30 := fun_mk (st := s_BadText_init) l30 c30 k30
  have b30 := F30.binds (ps := ["self"]) fun _ _ _ _ _ _ us hl => match us, hl with | [_], _ => rfl
  have F31 := fun_mk (st := s_NothingToUndo_init) l31 c31 k31
  have b31 := F31.binds (ps := ["self"]) fun _ _ _ _ _ _ us hl => match us, hl with | [_], _ => rfl
  have F32 := fun_mk (st := s_NotSure_init) l32 c32 k32
  have b32 := F32.binds (ps := ["self"]) fun _ _ _ _ _ _ us hl => match us, hl with | [_], _ => rfl
  have F33 := fun_mk (st := s_law_spring) l33 c33 k33
  have b33 := F33.binds (ps := ["_law_script"]) fun _ _ _ _ _ _ us hl => match us, hl with | [_], _ => rfl
  have F34 := fun_mk (st := s_law_draw) l34 c34 k34
  have b34 := F34.binds (ps := ["_law_spring_here", "_law_many"]) fun _ _ _ _ _ _ us hl => match us, hl with | [_, _], _ => rfl
  have F35 := fun_mk (st := s_law_pick) l35 c35 k35
  have b35 := F35.binds (ps := ["_law_spring_here", "_law_things_here"]) fun _ _ _ _ _ _ us hl => match us, hl with | [_, _], _ => rfl
  have F36 := fun_mk (st := s_law_things) l36 c36 k36
  have b36 := F36.binds (ps := ["_law_x"]) fun _ _ _ _ _ _ us hl => match us, hl with | [_], _ => rfl
  have F37 := fun_mk (st := s_law_names) l37 c37 k37
  have b37 := F37.binds (ps := ["_law_x"]) fun _ _ _ _ _ _ us hl => match us, hl with | [_], _ => rfl
  have F38 := fun_mk (st := s_law_others) l38 c38 k38
  have b38 := F38.binds (ps := ["_law_x"]) fun _ _ _ _ _ _ us hl => match us, hl with | [_], _ => rfl
  have F39 := fun_mk (st := s_law_classes) l39 c39 k39
  have b39 := F39.binds (ps := ["_law_e"]) fun _ _ _ _ _ _ us hl => match us, hl with | [_], _ => rfl
  have F40 := fun_mk (st := s_law_is_alone) l40 c40 k40
  have b40 := F40.binds (ps := ["_law_e", "_law_at"]) fun _ _ _ _ _ _ us hl => match us, hl with | [_, _], _ => rfl
  have F41 := fun_mk (st := s_law) l41 c41 k41
  have b41 := F41.binds (ps := ["_law_script"]) fun _ _ _ _ _ _ us hl => match us, hl with | [_], _ => rfl
  refine ⟨PySem.W.fnOf "law" "law" (defArgs s_law) (defBody s_law) (defScope s_law) .none kV41 dc41 pm41 an41 cd41 ct41, fun s v => .of_eq rfl, fun base _ _ => ?_⟩
  have OXE1 : OexC K (He.ga K "BadTruth") := ⟨⟨nmE1, qE1, NE1, bsE1, _, snE1, subE1, abE1, colE1, ddE1, mE10, mE11, mE12, mE13, mE15, xE1, by rfl⟩, saE1, exE1, tyE1, kcE1⟩
  have XFE1 : XfC K (He.ga K "BadTruth") := ⟨gaE1, ggE1, exE1, hdE1⟩
  have EIE1 : ErrI K (He.ga K "BadTruth") := ⟨XFE1, clE1, icE1, isg, itk, imE1⟩
  have UE1 : ErrG l.prog w K mg base 1 (He.ga K "BadTruth") "BadTruth" "thing" := ⟨OXE1, PySem.W.mg_of X G aE1, XFE1, noE1, f1, _, a1, tfE1, ok_E1_init F1 (PySem.W.mg_of X G aDE) ⟨rdD, rgD⟩ fcD OXE1 noE1, b1, fun _ _ _ _ => .of_eq rfl⟩
  have OXE2 : OexC K (He.ga K "BadTests") := ⟨⟨nmE2, qE2, NE2, bsE2, _, snE2, subE2, abE2, colE2, ddE2, mE20, mE21, mE22, mE23, mE25, xE2, by rfl⟩, saE2, exE2, tyE2, kcE2⟩
  have XFE2 : XfC K (He.ga K "BadTests") := ⟨gaE2, ggE2, exE2, hdE2⟩
  have EIE2 : ErrI K (He.ga K "BadTests") := ⟨XFE2, clE2, icE2, isg, itk, imE2⟩
  have UE2 : ErrG l.prog w K mg base 1 (He.ga K "BadTests") "BadTests" "thing" := ⟨OXE2, PySem.W.mg_of X G aE2, XFE2, noE2, f2, _, a2, tfE2, ok_E2_init F2 (PySem.W.mg_of X G aDE) ⟨rdD, rgD⟩ fcD OXE2 noE2, b2, fun _ _ _ _ => .of_eq rfl⟩
  have OXE3 : OexC K (He.ga K "BadDeeds") := ⟨⟨nmE3, qE3, NE3, bsE3, _, snE3, subE3, abE3, colE3, ddE3, mE30, mE31, mE32, mE33, mE35, xE3, by rfl⟩, saE3, exE3, tyE3, kcE3⟩
  have XFE3 : XfC K (He.ga K "BadDeeds") := ⟨gaE3, ggE3, exE3, hdE3⟩
  have EIE3 : ErrI K (He.ga K "BadDeeds") := ⟨XFE3, clE3, icE3, isg, itk, imE3⟩
  have UE3 : ErrG l.prog w K mg base 1 (He.ga K "BadDeeds") "BadDeeds" "thing" := ⟨OXE3, PySem.W.mg_of X G aE3, XFE3, noE3, f3, _, a3, tfE3, ok_E3_init F3 (PySem.W.mg_of X G aDE) ⟨rdD, rgD⟩ fcD OXE3 noE3, b3, fun _ _ _ _ => .of_eq rfl⟩
  have OXE4 : OexC K (He.ga K "BadTruths") := ⟨⟨nmE4, qE4, NE4, bsE4, _, snE4, subE4, abE4, colE4, ddE4, mE40, mE41, mE42, mE43, mE45, xE4, by rfl⟩, saE4, exE4, tyE4, kcE4⟩
  have XFE4 : XfC K (He.ga K "BadTruths") := ⟨gaE4, ggE4, exE4, hdE4⟩
  have EIE4 : ErrI K (He.ga K "BadTruths") := ⟨XFE4, clE4, icE4, isg, itk, imE4⟩
  have UE4 : ErrG l.prog w K mg base 1 (He.ga K "BadTruths") "BadTruths" "thing" := ⟨OXE4, PySem.W.mg_of X G aE4, XFE4, noE4, f4, _, a4, tfE4, ok_E4_init F4 (PySem.W.mg_of X G aDE) ⟨rdD, rgD⟩ fcD OXE4 noE4, b4, fun _ _ _ _ => .of_eq rfl⟩
  have OXE5 : OexC K (He.ga K "NoDeed") := ⟨⟨nmE5, qE5, NE5, bsE5, _, snE5, subE5, abE5, colE5, ddE5, mE50, mE51, mE52, mE53, mE55, xE5, by rfl⟩, saE5, exE5, tyE5, kcE5⟩
  have XFE5 : XfC K (He.ga K "NoDeed") := ⟨gaE5, ggE5, exE5, hdE5⟩
  have EIE5 : ErrI K (He.ga K "NoDeed") := ⟨XFE5, clE5, icE5, isg, itk, imE5⟩
  have UE5 : ErrG l.prog w K mg base 1 (He.ga K "NoDeed") "NoDeed" "thing" := ⟨OXE5, PySem.W.mg_of X G aE5, XFE5, noE5, f5, _, a5, tfE5, ok_E5_init F5 (PySem.W.mg_of X G aDE) ⟨rdD, rgD⟩ fcD OXE5 noE5, b5, fun _ _ _ _ => .of_eq rfl⟩
  have OXE6 : OexC K (He.ga K "BadCount") := ⟨⟨nmE6, qE6, NE6, bsE6, _, snE6, subE6, abE6, colE6, ddE6, mE60, mE61, mE62, mE63, mE65, xE6, by rfl⟩, saE6, exE6, tyE6, kcE6⟩
  have XFE6 : XfC K (He.ga K "BadCount") := ⟨gaE6, ggE6, exE6, hdE6⟩
  have EIE6 : ErrI K (He.ga K "BadCount") := ⟨XFE6, clE6, icE6, isg, itk, imE6⟩
  have UE6 : ErrG l.prog w K mg base 1 (He.ga K "BadCount") "BadCount" "thing" := ⟨OXE6, PySem.W.mg_of X G aE6, XFE6, noE6, f6, _, a6, tfE6, ok_E6_init F6 (PySem.W.mg_of X G aDE) ⟨rdD, rgD⟩ fcD OXE6 noE6, b6, fun _ _ _ _ => .of_eq rfl⟩
  have OXE7 : OexC K (He.ga K "NoPlace") := ⟨⟨nmE7, qE7, NE7, bsE7, _, snE7, subE7, abE7, colE7, ddE7, mE70, mE71, mE72, mE73, mE75, xE7, by rfl⟩, saE7, exE7, tyE7, kcE7⟩
  have XFE7 : XfC K (He.ga K "NoPlace") := ⟨gaE7, ggE7, exE7, hdE7⟩
  have EIE7 : ErrI K (He.ga K "NoPlace") := ⟨XFE7, clE7, icE7, isg, itk, imE7⟩
  have UE7 : ErrG l.prog w K mg base 1 (He.ga K "NoPlace") "NoPlace" "thing" := ⟨OXE7, PySem.W.mg_of X G aE7, XFE7, noE7, f7, _, a7, tfE7, ok_E7_init F7 (PySem.W.mg_of X G aDE) ⟨rdD, rgD⟩ fcD OXE7 noE7, b7, fun _ _ _ _ => .of_eq rfl⟩
  have OXE8 : OexC K (He.ga K "BadSize") := ⟨⟨nmE8, qE8, NE8, bsE8, _, snE8, subE8, abE8, colE8, ddE8, mE80, mE81, mE82, mE83, mE85, xE8, by rfl⟩, saE8, exE8, tyE8, kcE8⟩
  have XFE8 : XfC K (He.ga K "BadSize") := ⟨gaE8, ggE8, exE8, hdE8⟩
  have EIE8 : ErrI K (He.ga K "BadSize") := ⟨XFE8, clE8, icE8, isg, itk, imE8⟩
  have UE8 : ErrG l.prog w K mg base 1 (He.ga K "BadSize") "BadSize" "thing" := ⟨OXE8, PySem.W.mg_of X G aE8, XFE8, noE8, f8, _, a8, tfE8, ok_E8_init F8 (PySem.W.mg_of X G aDE) ⟨rdD, rgD⟩ fcD OXE8 noE8, b8, fun _ _ _ _ => .of_eq rfl⟩
  have OXE9 : OexC K (He.ga K "NoState") := ⟨⟨nmE9, qE9, NE9, bsE9, _, snE9, subE9, abE9, colE9, ddE9, mE90, mE91, mE92, mE93, mE95, xE9, by rfl⟩, saE9, exE9, tyE9, kcE9⟩
  have XFE9 : XfC K (He.ga K "NoState") := ⟨gaE9, ggE9, exE9, hdE9⟩
  have EIE9 : ErrI K (He.ga K "NoState") := ⟨XFE9, clE9, icE9, isg, itk, imE9⟩
  have UE9 : ErrG l.prog w K mg base 1 (He.ga K "NoState") "NoState" "thing" := ⟨OXE9, PySem.W.mg_of X G aE9, XFE9, noE9, f9, _, a9, tfE9, ok_E9_init F9 (PySem.W.mg_of X G aDE) ⟨rdD, rgD⟩ fcD OXE9 noE9, b9, fun _ _ _ _ => .of_eq rfl⟩
  have OXE10 : OexC K (He.ga K "BadRow") := ⟨⟨nmE10, qE10, NE10, bsE10, _, snE10, subE10, abE10, colE10, ddE10, mE100, mE101, mE102, mE103, mE105, xE10, by rfl⟩, saE10, exE10, tyE10, kcE10⟩
  have XFE10 : XfC K (He.ga K "BadRow") := ⟨gaE10, ggE10, exE10, hdE10⟩
  have EIE10 : ErrI K (He.ga K "BadRow") := ⟨XFE10, clE10, icE10, isg, itk, imE10⟩
  have UE10 : ErrG l.prog w K mg base 1 (He.ga K "BadRow") "BadRow" "thing" := ⟨OXE10, PySem.W.mg_of X G aE10, XFE10, noE10, f10, _, a10, tfE10, ok_E10_init F10 (PySem.W.mg_of X G aDE) ⟨rdD, rgD⟩ fcD OXE10 noE10, b10, fun _ _ _ _ => .of_eq rfl⟩
  have OXE11 : OexC K (He.ga K "BadIndex") := ⟨⟨nmE11, qE11, NE11, bsE11, _, snE11, subE11, abE11, colE11, ddE11, mE110, mE111, mE112, mE113, mE115, xE11, by rfl⟩, saE11, exE11, tyE11, kcE11⟩
  have XFE11 : XfC K (He.ga K "BadIndex") := ⟨gaE11, ggE11, exE11, hdE11⟩
  have EIE11 : ErrI K (He.ga K "BadIndex") := ⟨XFE11, clE11, icE11, isg, itk, imE11⟩
  have UE11 : ErrG l.prog w K mg base 1 (He.ga K "BadIndex") "BadIndex" "thing" := ⟨OXE11, PySem.W.mg_of X G aE11, XFE11, noE11, f11, _, a11, tfE11, ok_E11_init F11 (PySem.W.mg_of X G aDE) ⟨rdD, rgD⟩ fcD OXE11 noE11, b11, fun _ _ _ _ => .of_eq rfl⟩
  have OXE12 : OexC K (He.ga K "NoRow") := ⟨⟨nmE12, qE12, NE12, bsE12, _, snE12, subE12, abE12, colE12, ddE12, mE120, mE121, mE122, mE123, mE125, xE12, by rfl⟩, saE12, exE12, tyE12, kcE12⟩
  have XFE12 : XfC K (He.ga K "NoRow") := ⟨gaE12, ggE12, exE12, hdE12⟩
  have EIE12 : ErrI K (He.ga K "NoRow") := ⟨XFE12, clE12, icE12, isg, itk, imE12⟩
  have UE12 : ErrG l.prog w K mg base 1 (He.ga K "NoRow") "NoRow" "thing" := ⟨OXE12, PySem.W.mg_of X G aE12, XFE12, noE12, f12, _, a12, tfE12, ok_E12_init F12 (PySem.W.mg_of X G aDE) ⟨rdD, rgD⟩ fcD OXE12 noE12, b12, fun _ _ _ _ => .of_eq rfl⟩
  have OXE13 : OexC K (He.ga K "BadPurse") := ⟨⟨nmE13, qE13, NE13, bsE13, _, snE13, subE13, abE13, colE13, ddE13, mE130, mE131, mE132, mE133, mE135, xE13, by rfl⟩, saE13, exE13, tyE13, kcE13⟩
  have XFE13 : XfC K (He.ga K "BadPurse") := ⟨gaE13, ggE13, exE13, hdE13⟩
  have EIE13 : ErrI K (He.ga K "BadPurse") := ⟨XFE13, clE13, icE13, isg, itk, imE13⟩
  have UE13 : ErrG l.prog w K mg base 1 (He.ga K "BadPurse") "BadPurse" "thing" := ⟨OXE13, PySem.W.mg_of X G aE13, XFE13, noE13, f13, _, a13, tfE13, ok_E13_init F13 (PySem.W.mg_of X G aDE) ⟨rdD, rgD⟩ fcD OXE13 noE13, b13, fun _ _ _ _ => .of_eq rfl⟩
  have OXE14 : OexC K (He.ga K "BadName") := ⟨⟨nmE14, qE14, NE14, bsE14, _, snE14, subE14, abE14, colE14, ddE14, mE140, mE141, mE142, mE143, mE145, xE14, by rfl⟩, saE14, exE14, tyE14, kcE14⟩
  have XFE14 : XfC K (He.ga K "BadName") := ⟨gaE14, ggE14, exE14, hdE14⟩
  have EIE14 : ErrI K (He.ga K "BadName") := ⟨XFE14, clE14, icE14, isg, itk, imE14⟩
  have UE14 : ErrG l.prog w K mg base 1 (He.ga K "BadName") "BadName" "name" := ⟨OXE14, PySem.W.mg_of X G aE14, XFE14, noE14, f14, _, a14, tfE14, ok_E14_init F14 (PySem.W.mg_of X G aDE) ⟨rdD, rgD⟩ fcD OXE14 noE14, b14, fun _ _ _ _ => .of_eq rfl⟩
  have OXE15 : OexC K (He.ga K "NoTest") := ⟨⟨nmE15, qE15, NE15, bsE15, _, snE15, subE15, abE15, colE15, ddE15, mE150, mE151, mE152, mE153, mE155, xE15, by rfl⟩, saE15, exE15, tyE15, kcE15⟩
  have XFE15 : XfC K (He.ga K "NoTest") := ⟨gaE15, ggE15, exE15, hdE15⟩
  have EIE15 : ErrI K (He.ga K "NoTest") := ⟨XFE15, clE15, icE15, isg, itk, imE15⟩
  have UE15 : ErrG l.prog w K mg base 1 (He.ga K "NoTest") "NoTest" "name" := ⟨OXE15, PySem.W.mg_of X G aE15, XFE15, noE15, f15, _, a15, tfE15, ok_E15_init F15 (PySem.W.mg_of X G aDE) ⟨rdD, rgD⟩ fcD OXE15 noE15, b15, fun _ _ _ _ => .of_eq rfl⟩
  have OXE16 : OexC K (He.ga K "BadSet") := ⟨⟨nmE16, qE16, NE16, bsE16, _, snE16, subE16, abE16, colE16, ddE16, mE160, mE161, mE162, mE163, mE165, xE16, by rfl⟩, saE16, exE16, tyE16, kcE16⟩
  have XFE16 : XfC K (He.ga K "BadSet") := ⟨gaE16, ggE16, exE16, hdE16⟩
  have EIE16 : ErrI K (He.ga K "BadSet") := ⟨XFE16, clE16, icE16, isg, itk, imE16⟩
  have UE16 : ErrG l.prog w K mg base 1 (He.ga K "BadSet") "BadSet" "name" := ⟨OXE16, PySem.W.mg_of X G aE16, XFE16, noE16, f16, _, a16, tfE16, ok_E16_init F16 (PySem.W.mg_of X G aDE) ⟨rdD, rgD⟩ fcD OXE16 noE16, b16, fun _ _ _ _ => .of_eq rfl⟩
  have OXE17 : OexC K (He.ga K "BadWays") := ⟨⟨nmE17, qE17, NE17, bsE17, _, snE17, subE17, abE17, colE17, ddE17, mE170, mE171, mE172, mE173, mE175, xE17, by rfl⟩, saE17, exE17, tyE17, kcE17⟩
  have XFE17 : XfC K (He.ga K "BadWays") := ⟨gaE17, ggE17, exE17, hdE17⟩
  have EIE17 : ErrI K (He.ga K "BadWays") := ⟨XFE17, clE17, icE17, isg, itk, imE17⟩
  have UE17 : ErrG l.prog w K mg base 1 (He.ga K "BadWays") "BadWays" "name" := ⟨OXE17, PySem.W.mg_of X G aE17, XFE17, noE17, f17, _, a17, tfE17, ok_E17_init F17 (PySem.W.mg_of X G aDE) ⟨rdD, rgD⟩ fcD OXE17 noE17, b17, fun _ _ _ _ => .of_eq rfl⟩
  have OXE18 : OexC K (He.ga K "NoName") := ⟨⟨nmE18, qE18, NE18, bsE18, _, snE18, subE18, abE18, colE18, ddE18, mE180, mE181, mE182, mE183, mE185, xE18, by rfl⟩, saE18, exE18, tyE18, kcE18⟩
  have XFE18 : XfC K (He.ga K "NoName") := ⟨gaE18, ggE18, exE18, hdE18⟩
  have EIE18 : ErrI K (He.ga K "NoName") := ⟨XFE18, clE18, icE18, isg, itk, imE18⟩
  have UE18 : ErrG l.prog w K mg base 1 (He.ga K "NoName") "NoName" "name" := ⟨OXE18, PySem.W.mg_of X G aE18, XFE18, noE18, f18, _, a18, tfE18, ok_E18_init F18 (PySem.W.mg_of X G aDE) ⟨rdD, rgD⟩ fcD OXE18 noE18, b18, fun _ _ _ _ => .of_eq rfl⟩
  have OXE19 : OexC K (He.ga K "Leaned") := ⟨⟨nmE19, qE19, NE19, bsE19, _, snE19, subE19, abE19, colE19, ddE19, mE190, mE191, mE192, mE193, mE195, xE19, by rfl⟩, saE19, exE19, tyE19, kcE19⟩
  have XFE19 : XfC K (He.ga K "Leaned") := ⟨gaE19, ggE19, exE19, hdE19⟩
  have EIE19 : ErrI K (He.ga K "Leaned") := ⟨XFE19, clE19, icE19, isg, itk, imE19⟩
  have UE19 : ErrG l.prog w K mg base 1 (He.ga K "Leaned") "Leaned" "name" := ⟨OXE19, PySem.W.mg_of X G aE19, XFE19, noE19, f19, _, a19, tfE19, ok_E19_init F19 (PySem.W.mg_of X G aDE) ⟨rdD, rgD⟩ fcD OXE19 noE19, b19, fun _ _ _ _ => .of_eq rfl⟩
  have OXE20 : OexC K (He.ga K "BadCosts") := ⟨⟨nmE20, qE20, NE20, bsE20, _, snE20, subE20, abE20, colE20, ddE20, mE200, mE201, mE202, mE203, mE205, xE20, by rfl⟩, saE20, exE20, tyE20, kcE20⟩
  have XFE20 : XfC K (He.ga K "BadCosts") := ⟨gaE20, ggE20, exE20, hdE20⟩
  have EIE20 : ErrI K (He.ga K "BadCosts") := ⟨XFE20, clE20, icE20, isg, itk, imE20⟩
  have UE20 : ErrG l.prog w K mg base 1 (He.ga K "BadCosts") "BadCosts" "name" := ⟨OXE20, PySem.W.mg_of X G aE20, XFE20, noE20, f20, _, a20, tfE20, ok_E20_init F20 (PySem.W.mg_of X G aDE) ⟨rdD, rgD⟩ fcD OXE20 noE20, b20, fun _ _ _ _ => .of_eq rfl⟩
  have OXE21 : OexC K (He.ga K "BadWeights") := ⟨⟨nmE21, qE21, NE21, bsE21, _, snE21, subE21, abE21, colE21, ddE21, mE210, mE211, mE212, mE213, mE215, xE21, by rfl⟩, saE21, exE21, tyE21, kcE21⟩
  have XFE21 : XfC K (He.ga K "BadWeights") := ⟨gaE21, ggE21, exE21, hdE21⟩
  have EIE21 : ErrI K (He.ga K "BadWeights") := ⟨XFE21, clE21, icE21, isg, itk, imE21⟩
  have UE21 : ErrG l.prog w K mg base 1 (He.ga K "BadWeights") "BadWeights" "name" := ⟨OXE21, PySem.W.mg_of X G aE21, XFE21, noE21, f21, _, a21, tfE21, ok_E21_init F21 (PySem.W.mg_of X G aDE) ⟨rdD, rgD⟩ fcD OXE21 noE21, b21, fun _ _ _ _ => .of_eq rfl⟩
  have OXE22 : OexC K (He.ga K "BadEquation") := ⟨⟨nmE22, qE22, NE22, bsE22, _, snE22, subE22, abE22, colE22, ddE22, mE220, mE221, mE222, mE223, mE225, xE22, by rfl⟩, saE22, exE22, tyE22, kcE22⟩
  have XFE22 : XfC K (He.ga K "BadEquation") := ⟨gaE22, ggE22, exE22, hdE22⟩
  have EIE22 : ErrI K (He.ga K "BadEquation") := ⟨XFE22, clE22, icE22, isg, itk, imE22⟩
  have UE22 : ErrG l.prog w K mg base 1 (He.ga K "BadEquation") "BadEquation" "name" := ⟨OXE22, PySem.W.mg_of X G aE22, XFE22, noE22, f22, _, a22, tfE22, ok_E22_init F22 (PySem.W.mg_of X G aDE) ⟨rdD, rgD⟩ fcD OXE22 noE22, b22, fun _ _ _ _ => .of_eq rfl⟩
  have OXE23 : OexC K (He.ga K "BadTerm") := ⟨⟨nmE23, qE23, NE23, bsE23, _, snE23, subE23, abE23, colE23, ddE23, mE230, mE231, mE232, mE233, mE235, xE23, by rfl⟩, saE23, exE23, tyE23, kcE23⟩
  have XFE23 : XfC K (He.ga K "BadTerm") := ⟨gaE23, ggE23, exE23, hdE23⟩
  have EIE23 : ErrI K (He.ga K "BadTerm") := ⟨XFE23, clE23, icE23, isg, itk, imE23⟩
  have UE23 : ErrG l.prog w K mg base 1 (He.ga K "BadTerm") "BadTerm" "index" := ⟨OXE23, PySem.W.mg_of X G aE23, XFE23, noE23, f23, _, a23, tfE23, ok_E23_init F23 (PySem.W.mg_of X G aDE) ⟨rdD, rgD⟩ fcD OXE23 noE23, b23, fun _ _ _ _ => .of_eq rfl⟩
  have OXE24 : OexC K (He.ga K "BadPromise") := ⟨⟨nmE24, qE24, NE24, bsE24, _, snE24, subE24, abE24, colE24, ddE24, mE240, mE241, mE242, mE243, mE245, xE24, by rfl⟩, saE24, exE24, tyE24, kcE24⟩
  have XFE24 : XfC K (He.ga K "BadPromise") := ⟨gaE24, ggE24, exE24, hdE24⟩
  have EIE24 : ErrI K (He.ga K "BadPromise") := ⟨XFE24, clE24, icE24, isg, itk, imE24⟩
  have UE24 : ErrG l.prog w K mg base 1 (He.ga K "BadPromise") "BadPromise" "index" := ⟨OXE24, PySem.W.mg_of X G aE24, XFE24, noE24, f24, _, a24, tfE24, ok_E24_init F24 (PySem.W.mg_of X G aDE) ⟨rdD, rgD⟩ fcD OXE24 noE24, b24, fun _ _ _ _ => .of_eq rfl⟩
  have OXE25 : OexC K (He.ga K "BadLine") := ⟨⟨nmE25, qE25, NE25, bsE25, _, snE25, subE25, abE25, colE25, ddE25, mE250, mE251, mE252, mE253, mE255, xE25, by rfl⟩, saE25, exE25, tyE25, kcE25⟩
  have XFE25 : XfC K (He.ga K "BadLine") := ⟨gaE25, ggE25, exE25, hdE25⟩
  have EIE25 : ErrI K (He.ga K "BadLine") := ⟨XFE25, clE25, icE25, isg, itk, imE25⟩
  have UE25 : ErrG l.prog w K mg base 1 (He.ga K "BadLine") "BadLine" "index" := ⟨OXE25, PySem.W.mg_of X G aE25, XFE25, noE25, f25, _, a25, tfE25, ok_E25_init F25 (PySem.W.mg_of X G aDE) ⟨rdD, rgD⟩ fcD OXE25 noE25, b25, fun _ _ _ _ => .of_eq rfl⟩
  have OXE26 : OexC K (He.ga K "BadBar") := ⟨⟨nmE26, qE26, NE26, bsE26, _, snE26, subE26, abE26, colE26, ddE26, mE260, mE261, mE262, mE263, mE265, xE26, by rfl⟩, saE26, exE26, tyE26, kcE26⟩
  have XFE26 : XfC K (He.ga K "BadBar") := ⟨gaE26, ggE26, exE26, hdE26⟩
  have EIE26 : ErrI K (He.ga K "BadBar") := ⟨XFE26, clE26, icE26, isg, itk, imE26⟩
  have UE26 : ErrG l.prog w K mg base 1 (He.ga K "BadBar") "BadBar" "index" := ⟨OXE26, PySem.W.mg_of X G aE26, XFE26, noE26, f26, _, a26, tfE26, ok_E26_init F26 (PySem.W.mg_of X G aDE) ⟨rdD, rgD⟩ fcD OXE26 noE26, b26, fun _ _ _ _ => .of_eq rfl⟩
  have OXE27 : OexC K (He.ga K "Broken") := ⟨⟨nmE27, qE27, NE27, bsE27, _, snE27, subE27, abE27, colE27, ddE27, mE270, mE271, mE272, mE273, mE275, xE27, by rfl⟩, saE27, exE27, tyE27, kcE27⟩
  have XFE27 : XfC K (He.ga K "Broken") := ⟨gaE27, ggE27, exE27, hdE27⟩
  have EIE27 : ErrI K (He.ga K "Broken") := ⟨XFE27, clE27, icE27, isg, itk, imE27⟩
  have UE27 : ErrG l.prog w K mg base 1 (He.ga K "Broken") "Broken" "promise" := ⟨OXE27, PySem.W.mg_of X G aE27, XFE27, noE27, f27, _, a27, tfE27, ok_E27_init F27 (PySem.W.mg_of X G aDE) ⟨rdD, rgD⟩ fcD OXE27 noE27, b27, fun _ _ _ _ => .of_eq rfl⟩
  have OXE28 : OexC K (He.ga K "Refused") := ⟨⟨nmE28, qE28, NE28, bsE28, _, snE28, subE28, abE28, colE28, ddE28, mE280, mE281, mE282, mE283, mE285, xE28, by rfl⟩, saE28, exE28, tyE28, kcE28⟩
  have XFE28 : XfC K (He.ga K "Refused") := ⟨gaE28, ggE28, exE28, hdE28⟩
  have EIE28 : ErrI K (He.ga K "Refused") := ⟨XFE28, clE28, icE28, isg, itk, imE28⟩
  have UE28 : ErrG l.prog w K mg base 1 (He.ga K "Refused") "Refused" "row" := ⟨OXE28, PySem.W.mg_of X G aE28, XFE28, noE28, f28, _, a28, tfE28, ok_E28_init F28 (PySem.W.mg_of X G aDE) ⟨rdD, rgD⟩ fcD OXE28 noE28, b28, fun _ _ _ _ => .of_eq rfl⟩
  have OXE29 : OexC K (He.ga K "UnlikeBooks") := ⟨⟨nmE29, qE29, NE29, bsE29, _, snE29, subE29, abE29, colE29, ddE29, mE290, mE291, mE292, mE293, mE295, xE29, by rfl⟩, saE29, exE29, tyE29, kcE29⟩
  have XFE29 : XfC K (He.ga K "UnlikeBooks") := ⟨gaE29, ggE29, exE29, hdE29⟩
  have EIE29 : ErrI K (He.ga K "UnlikeBooks") := ⟨XFE29, clE29, icE29, isg, itk, imE29⟩
  have UE29 : ErrZ l.prog w K mg base 1 (He.ga K "UnlikeBooks") "UnlikeBooks" := ⟨OXE29, PySem.W.mg_of X G aE29, XFE29, f29, _, a29, tfE29, ok_E29_init F29 (PySem.W.mg_of X G aDE) ⟨rdD, rgD⟩ fcD OXE29, b29⟩
  have OXE30 : OexC K (He.ga K "BadText") := ⟨⟨nmE30, qE30, NE30, bsE30, _, snE30, subE30, abE30, colE30, ddE30, mE300, mE301, mE302, mE303, mE305, xE30, by rfl⟩, saE30, exE30, tyE30, kcE30⟩
  have XFE30 : XfC K (He.ga K "BadText") := ⟨gaE30, ggE30, exE30, hdE30⟩
  have EIE30 : ErrI K (He.ga K "BadText") := ⟨XFE30, clE30, icE30, isg, itk, imE30⟩
  have UE30 : ErrZ l.prog w K mg base 1 (He.ga K "BadText") "BadText" := ⟨OXE30, PySem.W.mg_of X G aE30, XFE30, f30, _, a30, tfE30, ok_E30_init F30 (PySem.W.mg_of X G aDE) ⟨rdD, rgD⟩ fcD OXE30, b30⟩
  have OXE31 : OexC K (He.ga K "NothingToUndo") := ⟨⟨nmE31, qE31, NE31, bsE31, _, snE31, subE31, abE31, colE31, ddE31, mE310, mE311, mE312, mE313, mE315, xE31, by rfl⟩, saE31, exE31, tyE31, kcE31⟩
  have XFE31 : XfC K (He.ga K "NothingToUndo") := ⟨gaE31, ggE31, exE31, hdE31⟩
  have EIE31 : ErrI K (He.ga K "NothingToUndo") := ⟨XFE31, clE31, icE31, isg, itk, imE31⟩
  have UE31 : ErrZ l.prog w K mg base 1 (He.ga K "NothingToUndo") "NothingToUndo" := ⟨OXE31, PySem.W.mg_of X G aE31, XFE31, f31, _, a31, tfE31, ok_E31_init F31 (PySem.W.mg_of X G aDE) ⟨rdD, rgD⟩ fcD OXE31, b31⟩
  have OXE32 : OexC K (He.ga K "NotSure") := ⟨⟨nmE32, qE32, NE32, bsE32, _, snE32, subE32, abE32, colE32, ddE32, mE320, mE321, mE322, mE323, mE325, xE32, by rfl⟩, saE32, exE32, tyE32, kcE32⟩
  have XFE32 : XfC K (He.ga K "NotSure") := ⟨gaE32, ggE32, exE32, hdE32⟩
  have EIE32 : ErrI K (He.ga K "NotSure") := ⟨XFE32, clE32, icE32, isg, itk, imE32⟩
  have UE32 : ErrZ l.prog w K mg base 1 (He.ga K "NotSure") "NotSure" := ⟨OXE32, PySem.W.mg_of X G aE32, XFE32, f32, _, a32, tfE32, ok_E32_init F32 (PySem.W.mg_of X G aDE) ⟨rdD, rgD⟩ fcD OXE32, b32⟩
  have V : UE l.prog w K mg base (He.ga K) := ⟨UE1, UE2, UE3, UE4, UE5, UE6, UE7, UE8, UE9, UE10, UE11, UE12, UE13, UE14, UE15, UE16, UE17, UE18, UE19, UE20, UE21, UE22, UE23, UE24, UE25, UE26, UE27, UE28, UE29, UE30, UE31, UE32⟩
  have TT : TEr K mg (He.ga K) := { toBn := Bz, ValueError := PySem.W.mg_none_of X G z_ValueError, g_BadTruth := PySem.W.mg_of X G aE1, g_BadTests := PySem.W.mg_of X G aE2, g_BadDeeds := PySem.W.mg_of X G aE3, g_BadTruths := PySem.W.mg_of X G aE4, g_NoDeed := PySem.W.mg_of X G aE5, g_BadCount := PySem.W.mg_of X G aE6, g_NoPlace := PySem.W.mg_of X G aE7, g_BadSize := PySem.W.mg_of X G aE8, g_NoState := PySem.W.mg_of X G aE9, g_BadRow := PySem.W.mg_of X G aE10, g_BadIndex := PySem.W.mg_of X G aE11, g_NoRow := PySem.W.mg_of X G aE12, g_BadPurse := PySem.W.mg_of X G aE13, g_BadName := PySem.W.mg_of X G aE14, g_NoTest := PySem.W.mg_of X G aE15, g_BadSet := PySem.W.mg_of X G aE16, g_BadWays := PySem.W.mg_of X G aE17, g_NoName := PySem.W.mg_of X G aE18, g_Leaned := PySem.W.mg_of X G aE19, g_BadCosts := PySem.W.mg_of X G aE20, g_BadWeights := PySem.W.mg_of X G aE21, g_BadEquation := PySem.W.mg_of X G aE22, g_BadTerm := PySem.W.mg_of X G aE23, g_BadPromise := PySem.W.mg_of X G aE24, g_BadLine := PySem.W.mg_of X G aE25, g_BadBar := PySem.W.mg_of X G aE26, g_Broken := PySem.W.mg_of X G aE27, g_Refused := PySem.W.mg_of X G aE28, g_UnlikeBooks := PySem.W.mg_of X G aE29, g_BadText := PySem.W.mg_of X G aE30, g_NothingToUndo := PySem.W.mg_of X G aE31, g_NotSure := PySem.W.mg_of X G aE32, g_DeedError := PySem.W.mg_of X G aDE }
  have eAll : all32 = (((["BadTruth", "BadTests", "BadDeeds", "BadTruths", "NoDeed", "BadCount", "NoPlace", "BadSize", "NoState", "BadRow", "BadIndex"] : List Str) ++ (["NoRow", "BadPurse", "BadName", "NoTest", "BadSet", "BadWays", "NoName", "Leaned", "BadCosts", "BadWeights", "BadEquation"] : List Str)) ++ (["BadTerm", "BadPromise", "BadLine", "BadBar", "Broken", "Refused", "UnlikeBooks", "BadText", "NothingToUndo", "NotSure"] : List Str)) := by decide +kernel
  have hcl : ∀ n ∈ all32, PySem.W.isClsIn K (He.ga K n) = true ∧ PySem.W.typeIn K (.ref (He.ga K n)) = some (.type "type") ∧ ErrI K (He.ga K n) := fun n hn => by
    rw [eAll] at hn
    simp only [List.cons_append, List.nil_append, List.mem_cons, List.not_mem_nil, or_false] at hn
    rcases hn with rfl | rfl | rfl | rfl | rfl | rfl | rfl | rfl | rfl | rfl | rfl | rfl | rfl | rfl | rfl | rfl | rfl | rfl | rfl | rfl | rfl | rfl | rfl | rfl | rfl | rfl | rfl | rfl | rfl | rfl | rfl | rfl
    · exact ⟨clE1, tyE1, EIE1⟩
    · exact ⟨clE2, tyE2, EIE2⟩
    · exact ⟨clE3, tyE3, EIE3⟩
    · exact ⟨clE4, tyE4, EIE4⟩
    · exact ⟨clE5, tyE5, EIE5⟩
    · exact ⟨clE6, tyE6, EIE6⟩
    · exact ⟨clE7, tyE7, EIE7⟩
    · exact ⟨clE8, tyE8, EIE8⟩
    · exact ⟨clE9, tyE9, EIE9⟩
    · exact ⟨clE10, tyE10, EIE10⟩
    · exact ⟨clE11, tyE11, EIE11⟩
    · exact ⟨clE12, tyE12, EIE12⟩
    · exact ⟨clE13, tyE13, EIE13⟩
    · exact ⟨clE14, tyE14, EIE14⟩
    · exact ⟨clE15, tyE15, EIE15⟩
    · exact ⟨clE16, tyE16, EIE16⟩
    · exact ⟨clE17, tyE17, EIE17⟩
    · exact ⟨clE18, tyE18, EIE18⟩
    · exact ⟨clE19, tyE19, EIE19⟩
    · exact ⟨clE20, tyE20, EIE20⟩
    · exact ⟨clE21, tyE21, EIE21⟩
    · exact ⟨clE22, tyE22, EIE22⟩
    · exact ⟨clE23, tyE23, EIE23⟩
    · exact ⟨clE24, tyE24, EIE24⟩
    · exact ⟨clE25, tyE25, EIE25⟩
    · exact ⟨clE26, tyE26, EIE26⟩
    · exact ⟨clE27, tyE27, EIE27⟩
    · exact ⟨clE28, tyE28, EIE28⟩
    · exact ⟨clE29, tyE29, EIE29⟩
    · exact ⟨clE30, tyE30, EIE30⟩
    · exact ⟨clE31, tyE31, EIE31⟩
    · exact ⟨clE32, tyE32, EIE32⟩
  have I : IE K (He.ga K) := {
    ei := fun n hn => (hcl n hn).2.2
    one := fun n hn m hm => by
      by_cases e : n = m
      · subst e; rw [decide_eq_true rfl]; exact kit_self
      · have h1 := List.all_eq_true.mp (List.all_eq_true.mp sbs n (eAll ▸ hn)) m (eAll ▸ hm)
        rw [decide_eq_false e, Bool.false_or, Bool.and_eq_true, decide_eq_true_eq, Bool.not_eq_true'] at h1
        rw [decide_eq_false e]
        exact kit_cls (hcl m hm).1 (hcl m hm).2.1 h1.1 (ref_ne h1.2)
    de := fun n hn => by
      have h1 := List.all_eq_true.mp sde n (eAll ▸ hn)
      rw [Bool.and_eq_true, decide_eq_true_eq, Bool.not_eq_true'] at h1
      exact kit_cls clD tyD0 h1.1 (ref_ne h1.2)
    ve := fun n hn => kit_ve (of_decide_eq_true (List.all_eq_true.mp sve n (eAll ▸ hn))) }
  have C33 : C8.Cal l.prog w K mg base _ "_law_spring" _ [] := mkCal F33 (PySem.W.mg_of X G a33) b33 (ok_law_spring F33 Bz)
  have C34 : C8.Cal l.prog w K mg base _ "_law_draw" _ [] := mkCal F34 (PySem.W.mg_of X G a34) b34 (ok_law_draw F34 Bz)
  have C35 : C8.Cal l.prog w K mg base _ "_law_pick" _ [] := mkCal F35 (PySem.W.mg_of X G a35) b35 (ok_law_pick F35 Bz C34)
  have C36 : C8.Cal l.prog w K mg base _ "_law_things" _ [] := mkCal F36 (PySem.W.mg_of X G a36) b36 (ok_law_things F36 TT V)
  have C37 : C8.Cal l.prog w K mg base _ "_law_names" _ [] := mkCal F37 (PySem.W.mg_of X G a37) b37 (ok_law_names F37 TT V)
  have C38 : C8.Cal l.prog w K mg base _ "_law_others" _ [] := mkCal F38 (PySem.W.mg_of X G a38) b38 (ok_law_others F38 TT V)
  have C39 : C8.Cal l.prog w K mg base _ "_law_classes" _ [] := mkCal F39 (PySem.W.mg_of X G a39) b39 (ok_law_classes F39 TT I)
  have C40 : C8.Cal l.prog w K mg base _ "_law_is_alone" _ [] := mkCal F40 (PySem.W.mg_of X G a40) b40 (ok_law_is_alone F40 TT I C39)
  exact ok_law F41 TT V hsm C33 C35 C36 C37 C38 C40
theorem walk {l : PySem.W.OpenLaw} {q : Program} {loose : List Str} {XP : (Str → Option Value) → Heap → Prop} {YP : World → Heap → Prop} {d : DefRec} (hn : l.most = some 63) (hdf : d.params.defaults = [])
    (F : ∀ (w : World) (mg : Str → Option Value) (fa : Addr) (h : Heap), YP w h → h.Ns mainGlobals mg → mg d.name = some (.ref fa) → ∃ K : PySem.W.Frag, K.In h ∧
      ∃ fd : FuncData, (∀ (s : Shared) (v : Value), BindsTo s fd ⟨[v], []⟩ [("_law_script", v)]) ∧ ∀ base : Heap, K.In base → base.Ns mainGlobals mg → FnG l.prog w K mg base 4 fa fd ["_law_script"] (spLaw K)) :
    PySem.W.WalkO q loose XP YP l.row.toRowW d [] (fun f vs => PySem.call f vs) := by
  refine walk_ofGE (l := l) (n := 63) (k := 4) (x := "_law_script") hn (by decide) hdf ⟨rfl, by decide, by decide⟩ ?_
  intro w mg fa h Y G hmg
  obtain ⟨K, KX, fd, hb, hF⟩ := F w mg fa h Y G hmg
  exact ⟨K, fd, spLaw K, KX, hb, fun H a ns hl hS => ⟨a, ns, rfl, hS, fun _ => rfl⟩, hF⟩
end Du
namespace Du
open PySem L2 PySem.Spec PyProof.Rows
theorem made {l : PySem.W.OpenLaw} {w : World} {K : PySem.W.Frag} {h : Heap} {mg : Str → Option Value} {fa : Addr} (X : K.In h) (G : h.Ns mainGlobals mg) (hfa : mg "law" = some (.ref fa)) (c : SaysS fnL tabL [] exL w h K) :
    ∃ fd : FuncData, (∀ (s : Shared) (v : Value), BindsTo s fd ⟨[v], []⟩ [("_law_script", v)]) ∧ ∀ base : Heap, K.In base → base.Ns mainGlobals mg → FnG l.prog w K mg base 4 fa fd ["_law_script"] (spLaw K) := by
  obtain ⟨oc1, od1, kV1, dc1, pm1, an1, cd1, ct1, sl1, l1, c1, k1⟩ := c.def_ 0 (d := d1) rfl
  obtain ⟨oc2, od2, kV2, dc2, pm2, an2, cd2, ct2, sl2, l2, c2, k2⟩ := c.def_ 1 (d := d2) rfl
  obtain ⟨oc3, od3, kV3, dc3, pm3, an3, cd3, ct3, sl3, l3, c3, k3⟩ := c.def_ 2 (d := d3) rfl
  obtain ⟨oc4, od4, kV4, dc4, pm4, an4, cd4, ct4, sl4, l4, c4, k4⟩ := c.def_ 3 (d := d4) rfl
  obtain ⟨oc5, od5, kV5, dc5, pm5, an5, cd5, ct5, sl5, l5, c5, k5⟩ := c.def_ 4 (d := d5) rfl
  obtain ⟨oc6, od6, kV6, dc6, pm6, an6, cd6, ct6, sl6, l6, c6, k6⟩ := c.def_ 5 (d := d6) rfl
  obtain ⟨oc7, od7, kV7, dc7, pm7, an7, cd7, ct7, sl7, l7, c7, k7⟩ := c.def_ 6 (d := d7) rfl
  obtain ⟨oc8, od8, kV8, dc8, pm8, an8, cd8, ct8, sl8, l8, c8, k8⟩ := c.def_ 7 (d := d8) rfl
  obtain ⟨oc9, od9, kV9, dc9, pm9, an9, cd9, ct9, sl9, l9, c9, k9⟩ := c.def_ 8 (d := d9) rfl
  obtain ⟨oc10, od10, kV10, dc10, pm10, an10, cd10, ct10, sl10, l10, c10, k10⟩ := c.def_ 9 (d := d10) rfl
  obtain ⟨oc11, od11, kV11, dc11, pm11, an11, cd11, ct11, sl11, l11, c11, k11⟩ := c.def_ 10 (d := d11) rfl
  obtain ⟨oc12, od12, kV12, dc12, pm12, an12, cd12, ct12, sl12, l12, c12, k12⟩ := c.def_ 11 (d := d12) rfl
  obtain ⟨oc13, od13, kV13, dc13, pm13, an13, cd13, ct13, sl13, l13, c13, k13⟩ := c.def_ 12 (d := d13) rfl
  obtain ⟨oc14, od14, kV14, dc14, pm14, an14, cd14, ct14, sl14, l14, c14, k14⟩ := c.def_ 13 (d := d14) rfl
  obtain ⟨oc15, od15, kV15, dc15, pm15, an15, cd15, ct15, sl15, l15, c15, k15⟩ := c.def_ 14 (d := d15) rfl
  obtain ⟨oc16, od16, kV16, dc16, pm16, an16, cd16, ct16, sl16, l16, c16, k16⟩ := c.def_ 15 (d := d16) rfl
  obtain ⟨oc17, od17, kV17, dc17, pm17, an17, cd17, ct17, sl17, l17, c17, k17⟩ := c.def_ 16 (d := d17) rfl
  obtain ⟨oc18, od18, kV18, dc18, pm18, an18, cd18, ct18, sl18, l18, c18, k18⟩ := c.def_ 17 (d := d18) rfl
  obtain ⟨oc19, od19, kV19, dc19, pm19, an19, cd19, ct19, sl19, l19, c19, k19⟩ := c.def_ 18 (d := d19) rfl
  obtain ⟨oc20, od20, kV20, dc20, pm20, an20, cd20, ct20, sl20, l20, c20, k20⟩ := c.def_ 19 (d := d20) rfl
  obtain ⟨oc21, od21, kV21, dc21, pm21, an21, cd21, ct21, sl21, l21, c21, k21⟩ := c.def_ 20 (d := d21) rfl
  obtain ⟨oc22, od22, kV22, dc22, pm22, an22, cd22, ct22, sl22, l22, c22, k22⟩ := c.def_ 21 (d := d22) rfl
  obtain ⟨oc23, od23, kV23, dc23, pm23, an23, cd23, ct23, sl23, l23, c23, k23⟩ := c.def_ 22 (d := d23) rfl
  obtain ⟨oc24, od24, kV24, dc24, pm24, an24, cd24, ct24, sl24, l24, c24, k24⟩ := c.def_ 23 (d := d24) rfl
  obtain ⟨oc25, od25, kV25, dc25, pm25, an25, cd25, ct25, sl25, l25, c25, k25⟩ := c.def_ 24 (d := d25) rfl
  obtain ⟨oc26, od26, kV26, dc26, pm26, an26, cd26, ct26, sl26, l26, c26, k26⟩ := c.def_ 25 (d := d26) rfl
  obtain ⟨oc27, od27, kV27, dc27, pm27, an27, cd27, ct27, sl27, l27, c27, k27⟩ := c.def_ 26 (d := d27) rfl
  obtain ⟨oc28, od28, kV28, dc28, pm28, an28, cd28, ct28, sl28, l28, c28, k28⟩ := c.def_ 27 (d := d28) rfl
  obtain ⟨oc29, od29, kV29, dc29, pm29, an29, cd29, ct29, sl29, l29, c29, k29⟩ := c.def_ 28 (d := d29) rfl
  obtain ⟨oc30, od30, kV30, dc30, pm30, an30, cd30, ct30, sl30, l30, c30, k30⟩ := c.def_ 29 (d := d30) rfl
  obtain ⟨oc31, od31, kV31, dc31, pm31, an31, cd31, ct31, sl31, l31, c31, k31⟩ := c.def_ 30 (d := d31) rfl
  obtain ⟨oc32, od32, kV32, dc32, pm32, an32, cd32, ct32, sl32, l32, c32, k32⟩ := c.def_ 31 (d := d32) rfl
  obtain ⟨oc33, od33, kV33, dc33, pm33, an33, cd33, ct33, sl33, l33, c33, k33⟩ := c.def_ 32 (d := d33) rfl
  obtain ⟨oc34, od34, kV34, dc34, pm34, an34, cd34, ct34, sl34, l34, c34, k34⟩ := c.def_ 33 (d := d34) rfl
  obtain ⟨oc35, od35, kV35, dc35, pm35, an35, cd35, ct35, sl35, l35, c35, k35⟩ := c.def_ 34 (d := d35) rfl
  obtain ⟨oc36, od36, kV36, dc36, pm36, an36, cd36, ct36, sl36, l36, c36, k36⟩ := c.def_ 35 (d := d36) rfl
  obtain ⟨oc37, od37, kV37, dc37, pm37, an37, cd37, ct37, sl37, l37, c37, k37⟩ := c.def_ 36 (d := d37) rfl
  obtain ⟨oc38, od38, kV38, dc38, pm38, an38, cd38, ct38, sl38, l38, c38, k38⟩ := c.def_ 37 (d := d38) rfl
  obtain ⟨oc39, od39, kV39, dc39, pm39, an39, cd39, ct39, sl39, l39, c39, k39⟩ := c.def_ 38 (d := d39) rfl
  obtain ⟨oc40, od40, kV40, dc40, pm40, an40, cd40, ct40, sl40, l40, c40, k40⟩ := c.def_ 39 (d := d40) rfl
  obtain ⟨oc41, od41, kV41, dc41, pm41, an41, cd41, ct41, sl41, l41, c41, k41⟩ := c.def_ 40 (d := d41) rfl
  have a1 : PySem.W.findIn K (.ref (He.ga K "BadTruth")) "__init__" = some (some (.ref (He.ma K (He.ga K "BadTruth") "__init__"))) := of_decide_eq_true (c.fact 0 (b := decide (PySem.W.findIn K (.ref (He.ga K "BadTruth")) "__init__" = some (some (.ref (He.ma K (He.ga K "BadTruth") "__init__"))))) rfl)
  have i1 : PySem.W.isFn K (.ref (He.ma K (He.ga K "BadTruth") "__init__")) = true := c.fact 1 (b := PySem.W.isFn K (.ref (He.ma K (He.ga K "BadTruth") "__init__"))) rfl
  have a2 : PySem.W.findIn K (.ref (He.ga K "BadTests")) "__init__" = some (some (.ref (He.ma K (He.ga K "BadTests") "__init__"))) := of_decide_eq_true (c.fact 2 (b := decide (PySem.W.findIn K (.ref (He.ga K "BadTests")) "__init__" = some (some (.ref (He.ma K (He.ga K "BadTests") "__init__"))))) rfl)
  have i2 : PySem.W.isFn K (.ref (He.ma K (He.ga K "BadTests") "__init__")) = true := c.fact 3 (b := PySem.W.isFn K (.ref (He.ma K (He.ga K "BadTests") "__init__"))) rfl
  have a3 : PySem.W.findIn K (.ref (He.ga K "BadDeeds")) "__init__" = some (some (.ref (He.ma K (He.ga K "BadDeeds") "__init__"))) := of_decide_eq_true (c.fact 4 (b := decide (PySem.W.findIn K (.ref (He.ga K "BadDeeds")) "__init__" = some (some (.ref (He.ma K (He.ga K "BadDeeds") "__init__"))))) rfl)
  have i3 : PySem.W.isFn K (.ref (He.ma K (He.ga K "BadDeeds") "__init__")) = true := c.fact 5 (b := PySem.W.isFn K (.ref (He.ma K (He.ga K "BadDeeds") "__init__"))) rfl
  have a4 : PySem.W.findIn K (.ref (He.ga K "BadTruths")) "__init__" = some (some (.ref (He.ma K (He.ga K "BadTruths") "__init__"))) := of_decide_eq_true (c.fact 6 (b := decide (PySem.W.findIn K (.ref (He.ga K "BadTruths")) "__init__" = some (some (.ref (He.ma K (He.ga K "BadTruths") "__init__"))))) rfl)
  have i4 : PySem.W.isFn K (.ref (He.ma K (He.ga K "BadTruths") "__init__")) = true := c.fact 7 (b := PySem.W.isFn K (.ref (He.ma K (He.ga K "BadTruths") "__init__"))) rfl
  have a5 : PySem.W.findIn K (.ref (He.ga K "NoDeed")) "__init__" = some (some (.ref (He.ma K (He.ga K "NoDeed") "__init__"))) := of_decide_eq_true (c.fact 8 (b := decide (PySem.W.findIn K (.ref (He.ga K "NoDeed")) "__init__" = some (some (.ref (He.ma K (He.ga K "NoDeed") "__init__"))))) rfl)
  have i5 : PySem.W.isFn K (.ref (He.ma K (He.ga K "NoDeed") "__init__")) = true := c.fact 9 (b := PySem.W.isFn K (.ref (He.ma K (He.ga K "NoDeed") "__init__"))) rfl
  have a6 : PySem.W.findIn K (.ref (He.ga K "BadCount")) "__init__" = some (some (.ref (He.ma K (He.ga K "BadCount") "__init__"))) := of_decide_eq_true (c.fact 10 (b := decide (PySem.W.findIn K (.ref (He.ga K "BadCount")) "__init__" = some (some (.ref (He.ma K (He.ga K "BadCount") "__init__"))))) rfl)
  have i6 : PySem.W.isFn K (.ref (He.ma K (He.ga K "BadCount") "__init__")) = true := c.fact 11 (b := PySem.W.isFn K (.ref (He.ma K (He.ga K "BadCount") "__init__"))) rfl
  have a7 : PySem.W.findIn K (.ref (He.ga K "NoPlace")) "__init__" = some (some (.ref (He.ma K (He.ga K "NoPlace") "__init__"))) := of_decide_eq_true (c.fact 12 (b := decide (PySem.W.findIn K (.ref (He.ga K "NoPlace")) "__init__" = some (some (.ref (He.ma K (He.ga K "NoPlace") "__init__"))))) rfl)
  have i7 : PySem.W.isFn K (.ref (He.ma K (He.ga K "NoPlace") "__init__")) = true := c.fact 13 (b := PySem.W.isFn K (.ref (He.ma K (He.ga K "NoPlace") "__init__"))) rfl
  have a8 : PySem.W.findIn K (.ref (He.ga K "BadSize")) "__init__" = some (some (.ref (He.ma K (He.ga K "BadSize") "__init__"))) := of_decide_eq_true (c.fact 14 (b := decide (PySem.W.findIn K (.ref (He.ga K "BadSize")) "__init__" = some (some (.ref (He.ma K (He.ga K "BadSize") "__init__"))))) rfl)
  have i8 : PySem.W.isFn K (.ref (He.ma K (He.ga K "BadSize") "__init__")) = true := c.fact 15 (b := PySem.W.isFn K (.ref (He.ma K (He.ga K "BadSize") "__init__"))) rfl
  have a9 : PySem.W.findIn K (.ref (He.ga K "NoState")) "__init__" = some (some (.ref (He.ma K (He.ga K "NoState") "__init__"))) := of_decide_eq_true (c.fact 16 (b := decide (PySem.W.findIn K (.ref (He.ga K "NoState")) "__init__" = some (some (.ref (He.ma K (He.ga K "NoState") "__init__"))))) rfl)
  have i9 : PySem.W.isFn K (.ref (He.ma K (He.ga K "NoState") "__init__")) = true := c.fact 17 (b := PySem.W.isFn K (.ref (He.ma K (He.ga K "NoState") "__init__"))) rfl
  have a10 : PySem.W.findIn K (.ref (He.ga K "BadRow")) "__init__" = some (some (.ref (He.ma K (He.ga K "BadRow") "__init__"))) := of_decide_eq_true (c.fact 18 (b := decide (PySem.W.findIn K (.ref (He.ga K "BadRow")) "__init__" = some (some (.ref (He.ma K (He.ga K "BadRow") "__init__"))))) rfl)
  have i10 : PySem.W.isFn K (.ref (He.ma K (He.ga K "BadRow") "__init__")) = true := c.fact 19 (b := PySem.W.isFn K (.ref (He.ma K (He.ga K "BadRow") "__init__"))) rfl
  have a11 : PySem.W.findIn K (.ref (He.ga K "BadIndex")) "__init__" = some (some (.ref (He.ma K (He.ga K "BadIndex") "__init__"))) := of_decide_eq_true (c.fact 20 (b := decide (PySem.W.findIn K (.ref (He.ga K "BadIndex")) "__init__" = some (some (.ref (He.ma K (He.ga K "BadIndex") "__init__"))))) rfl)
  have i11 : PySem.W.isFn K (.ref (He.ma K (He.ga K "BadIndex") "__init__")) = true := c.fact 21 (b := PySem.W.isFn K (.ref (He.ma K (He.ga K "BadIndex") "__init__"))) rfl
  have a12 : PySem.W.findIn K (.ref (He.ga K "NoRow")) "__init__" = some (some (.ref (He.ma K (He.ga K "NoRow") "__init__"))) := of_decide_eq_true (c.fact 22 (b := decide (PySem.W.findIn K (.ref (He.ga K "NoRow")) "__init__" = some (some (.ref (He.ma K (He.ga K "NoRow") "__init__"))))) rfl)
  have i12 : PySem.W.isFn K (.ref (He.ma K (He.ga K "NoRow") "__init__")) = true := c.fact 23 (b := PySem.W.isFn K (.ref (He.ma K (He.ga K "NoRow") "__init__"))) rfl
  have a13 : PySem.W.findIn K (.ref (He.ga K "BadPurse")) "__init__" = some (some (.ref (He.ma K (He.ga K "BadPurse") "__init__"))) := of_decide_eq_true (c.fact 24 (b := decide (PySem.W.findIn K (.ref (He.ga K "BadPurse")) "__init__" = some (some (.ref (He.ma K (He.ga K "BadPurse") "__init__"))))) rfl)
  have i13 : PySem.W.isFn K (.ref (He.ma K (He.ga K "BadPurse") "__init__")) = true := c.fact 25 (b := PySem.W.isFn K (.ref (He.ma K (He.ga K "BadPurse") "__init__"))) rfl
  have a14 : PySem.W.findIn K (.ref (He.ga K "BadName")) "__init__" = some (some (.ref (He.ma K (He.ga K "BadName") "__init__"))) := of_decide_eq_true (c.fact 26 (b := decide (PySem.W.findIn K (.ref (He.ga K "BadName")) "__init__" = some (some (.ref (He.ma K (He.ga K "BadName") "__init__"))))) rfl)
  have i14 : PySem.W.isFn K (.ref (He.ma K (He.ga K "BadName") "__init__")) = true := c.fact 27 (b := PySem.W.isFn K (.ref (He.ma K (He.ga K "BadName") "__init__"))) rfl
  have a15 : PySem.W.findIn K (.ref (He.ga K "NoTest")) "__init__" = some (some (.ref (He.ma K (He.ga K "NoTest") "__init__"))) := of_decide_eq_true (c.fact 28 (b := decide (PySem.W.findIn K (.ref (He.ga K "NoTest")) "__init__" = some (some (.ref (He.ma K (He.ga K "NoTest") "__init__"))))) rfl)
  have i15 : PySem.W.isFn K (.ref (He.ma K (He.ga K "NoTest") "__init__")) = true := c.fact 29 (b := PySem.W.isFn K (.ref (He.ma K (He.ga K "NoTest") "__init__"))) rfl
  have a16 : PySem.W.findIn K (.ref (He.ga K "BadSet")) "__init__" = some (some (.ref (He.ma K (He.ga K "BadSet") "__init__"))) := of_decide_eq_true (c.fact 30 (b := decide (PySem.W.findIn K (.ref (He.ga K "BadSet")) "__init__" = some (some (.ref (He.ma K (He.ga K "BadSet") "__init__"))))) rfl)
  have i16 : PySem.W.isFn K (.ref (He.ma K (He.ga K "BadSet") "__init__")) = true := c.fact 31 (b := PySem.W.isFn K (.ref (He.ma K (He.ga K "BadSet") "__init__"))) rfl
  have a17 : PySem.W.findIn K (.ref (He.ga K "BadWays")) "__init__" = some (some (.ref (He.ma K (He.ga K "BadWays") "__init__"))) := of_decide_eq_true (c.fact 32 (b := decide (PySem.W.findIn K (.ref (He.ga K "BadWays")) "__init__" = some (some (.ref (He.ma K (He.ga K "BadWays") "__init__"))))) rfl)
  have i17 : PySem.W.isFn K (.ref (He.ma K (He.ga K "BadWays") "__init__")) = true := c.fact 33 (b := PySem.W.isFn K (.ref (He.ma K (He.ga K "BadWays") "__init__"))) rfl
  have a18 : PySem.W.findIn K (.ref (He.ga K "NoName")) "__init__" = some (some (.ref (He.ma K (He.ga K "NoName") "__init__"))) := of_decide_eq_true (c.fact 34 (b := decide (PySem.W.findIn K (.ref (He.ga K "NoName")) "__init__" = some (some (.ref (He.ma K (He.ga K "NoName") "__init__"))))) rfl)
  have i18 : PySem.W.isFn K (.ref (He.ma K (He.ga K "NoName") "__init__")) = true := c.fact 35 (b := PySem.W.isFn K (.ref (He.ma K (He.ga K "NoName") "__init__"))) rfl
  have a19 : PySem.W.findIn K (.ref (He.ga K "Leaned")) "__init__" = some (some (.ref (He.ma K (He.ga K "Leaned") "__init__"))) := of_decide_eq_true (c.fact 36 (b := decide (PySem.W.findIn K (.ref (He.ga K "Leaned")) "__init__" = some (some (.ref (He.ma K (He.ga K "Leaned") "__init__"))))) rfl)
  have i19 : PySem.W.isFn K (.ref (He.ma K (He.ga K "Leaned") "__init__")) = true := c.fact 37 (b := PySem.W.isFn K (.ref (He.ma K (He.ga K "Leaned") "__init__"))) rfl
  have a20 : PySem.W.findIn K (.ref (He.ga K "BadCosts")) "__init__" = some (some (.ref (He.ma K (He.ga K "BadCosts") "__init__"))) := of_decide_eq_true (c.fact 38 (b := decide (PySem.W.findIn K (.ref (He.ga K "BadCosts")) "__init__" = some (some (.ref (He.ma K (He.ga K "BadCosts") "__init__"))))) rfl)
  have i20 : PySem.W.isFn K (.ref (He.ma K (He.ga K "BadCosts") "__init__")) = true := c.fact 39 (b := PySem.W.isFn K (.ref (He.ma K (He.ga K "BadCosts") "__init__"))) rfl
  have a21 : PySem.W.findIn K (.ref (He.ga K "BadWeights")) "__init__" = some (some (.ref (He.ma K (He.ga K "BadWeights") "__init__"))) := of_decide_eq_true (c.fact 40 (b := decide (PySem.W.findIn K (.ref (He.ga K "BadWeights")) "__init__" = some (some (.ref (He.ma K (He.ga K "BadWeights") "__init__"))))) rfl)
  have i21 : PySem.W.isFn K (.ref (He.ma K (He.ga K "BadWeights") "__init__")) = true := c.fact 41 (b := PySem.W.isFn K (.ref (He.ma K (He.ga K "BadWeights") "__init__"))) rfl
  have a22 : PySem.W.findIn K (.ref (He.ga K "BadEquation")) "__init__" = some (some (.ref (He.ma K (He.ga K "BadEquation") "__init__"))) := of_decide_eq_true (c.fact 42 (b := decide (PySem.W.findIn K (.ref (He.ga K "BadEquation")) "__init__" = some (some (.ref (He.ma K (He.ga K "BadEquation") "__init__"))))) rfl)
  have i22 : PySem.W.isFn K (.ref (He.ma K (He.ga K "BadEquation") "__init__")) = true := c.fact 43 (b := PySem.W.isFn K (.ref (He.ma K (He.ga K "BadEquation") "__init__"))) rfl
  have a23 : PySem.W.findIn K (.ref (He.ga K "BadTerm")) "__init__" = some (some (.ref (He.ma K (He.ga K "BadTerm") "__init__"))) := of_decide_eq_true (c.fact 44 (b := decide (PySem.W.findIn K (.ref (He.ga K "BadTerm")) "__init__" = some (some (.ref (He.ma K (He.ga K "BadTerm") "__init__"))))) rfl)
  have i23 : PySem.W.isFn K (.ref (He.ma K (He.ga K "BadTerm") "__init__")) = true := c.fact 45 (b := PySem.W.isFn K (.ref (He.ma K (He.ga K "BadTerm") "__init__"))) rfl
  have a24 : PySem.W.findIn K (.ref (He.ga K "BadPromise")) "__init__" = some (some (.ref (He.ma K (He.ga K "BadPromise") "__init__"))) := of_decide_eq_true (c.fact 46 (b := decide (PySem.W.findIn K (.ref (He.ga K "BadPromise")) "__init__" = some (some (.ref (He.ma K (He.ga K "BadPromise") "__init__"))))) rfl)
  have i24 : PySem.W.isFn K (.ref (He.ma K (He.ga K "BadPromise") "__init__")) = true := c.fact 47 (b := PySem.W.isFn K (.ref (He.ma K (He.ga K "BadPromise") "__init__"))) rfl
  have a25 : PySem.W.findIn K (.ref (He.ga K "BadLine")) "__init__" = some (some (.ref (He.ma K (He.ga K "BadLine") "__init__"))) := of_decide_eq_true (c.fact 48 (b := decide (PySem.W.findIn K (.ref (He.ga K "BadLine")) "__init__" = some (some (.ref (He.ma K (He.ga K "BadLine") "__init__"))))) rfl)
  have i25 : PySem.W.isFn K (.ref (He.ma K (He.ga K "BadLine") "__init__")) = true := c.fact 49 (b := PySem.W.isFn K (.ref (He.ma K (He.ga K "BadLine") "__init__"))) rfl
  have a26 : PySem.W.findIn K (.ref (He.ga K "BadBar")) "__init__" = some (some (.ref (He.ma K (He.ga K "BadBar") "__init__"))) := of_decide_eq_true (c.fact 50 (b := decide (PySem.W.findIn K (.ref (He.ga K "BadBar")) "__init__" = some (some (.ref (He.ma K (He.ga K "BadBar") "__init__"))))) rfl)
  have i26 : PySem.W.isFn K (.ref (He.ma K (He.ga K "BadBar") "__init__")) = true := c.fact 51 (b := PySem.W.isFn K (.ref (He.ma K (He.ga K "BadBar") "__init__"))) rfl
  have a27 : PySem.W.findIn K (.ref (He.ga K "Broken")) "__init__" = some (some (.ref (He.ma K (He.ga K "Broken") "__init__"))) := of_decide_eq_true (c.fact 52 (b := decide (PySem.W.findIn K (.ref (He.ga K "Broken")) "__init__" = some (some (.ref (He.ma K (He.ga K "Broken") "__init__"))))) rfl)
  have i27 : PySem.W.isFn K (.ref (He.ma K (He.ga K "Broken") "__init__")) = true := c.fact 53 (b := PySem.W.isFn K (.ref (He.ma K (He.ga K "Broken") "__init__"))) rfl
  have a28 : PySem.W.findIn K (.ref (He.ga K "Refused")) "__init__" = some (some (.ref (He.ma K (He.ga K "Refused") "__init__"))) := of_decide_eq_true (c.fact 54 (b := decide (PySem.W.findIn K (.ref (He.ga K "Refused")) "__init__" = some (some (.ref (He.ma K (He.ga K "Refused") "__init__"))))) rfl)
  have i28 : PySem.W.isFn K (.ref (He.ma K (He.ga K "Refused") "__init__")) = true := c.fact 55 (b := PySem.W.isFn K (.ref (He.ma K (He.ga K "Refused") "__init__"))) rfl
  have a29 : PySem.W.findIn K (.ref (He.ga K "UnlikeBooks")) "__init__" = some (some (.ref (He.ma K (He.ga K "UnlikeBooks") "__init__"))) := of_decide_eq_true (c.fact 56 (b := decide (PySem.W.findIn K (.ref (He.ga K "UnlikeBooks")) "__init__" = some (some (.ref (He.ma K (He.ga K "UnlikeBooks") "__init__"))))) rfl)
  have i29 : PySem.W.isFn K (.ref (He.ma K (He.ga K "UnlikeBooks") "__init__")) = true := c.fact 57 (b := PySem.W.isFn K (.ref (He.ma K (He.ga K "UnlikeBooks") "__init__"))) rfl
  have a30 : PySem.W.findIn K (.ref (He.ga K "BadText")) "__init__" = some (some (.ref (He.ma K (He.ga K "BadText") "__init__"))) := of_decide_eq_true (c.fact 58 (b := decide (PySem.W.findIn K (.ref (He.ga K "BadText")) "__init__" = some (some (.ref (He.ma K (He.ga K "BadText") "__init__"))))) rfl)
  have i30 : PySem.W.isFn K (.ref (He.ma K (He.ga K "BadText") "__init__")) = true := c.fact 59 (b := PySem.W.isFn K (.ref (He.ma K (He.ga K "BadText") "__init__"))) rfl
  have a31 : PySem.W.findIn K (.ref (He.ga K "NothingToUndo")) "__init__" = some (some (.ref (He.ma K (He.ga K "NothingToUndo") "__init__"))) := of_decide_eq_true (c.fact 60 (b := decide (PySem.W.findIn K (.ref (He.ga K "NothingToUndo")) "__init__" = some (some (.ref (He.ma K (He.ga K "NothingToUndo") "__init__"))))) rfl)
  have i31 : PySem.W.isFn K (.ref (He.ma K (He.ga K "NothingToUndo") "__init__")) = true := c.fact 61 (b := PySem.W.isFn K (.ref (He.ma K (He.ga K "NothingToUndo") "__init__"))) rfl
  have a32 : PySem.W.findIn K (.ref (He.ga K "NotSure")) "__init__" = some (some (.ref (He.ma K (He.ga K "NotSure") "__init__"))) := of_decide_eq_true (c.fact 62 (b := decide (PySem.W.findIn K (.ref (He.ga K "NotSure")) "__init__" = some (some (.ref (He.ma K (He.ga K "NotSure") "__init__"))))) rfl)
  have i32 : PySem.W.isFn K (.ref (He.ma K (He.ga K "NotSure") "__init__")) = true := c.fact 63 (b := PySem.W.isFn K (.ref (He.ma K (He.ga K "NotSure") "__init__"))) rfl
  have a33 : PySem.W.nsIn K mainGlobals "_law_spring" = some (some (.ref (He.ga K "_law_spring"))) := of_decide_eq_true (c.fact 64 (b := decide (PySem.W.nsIn K mainGlobals "_law_spring" = some (some (.ref (He.ga K "_law_spring"))))) rfl)
  have a34 : PySem.W.nsIn K mainGlobals "_law_draw" = some (some (.ref (He.ga K "_law_draw"))) := of_decide_eq_true (c.fact 65 (b := decide (PySem.W.nsIn K mainGlobals "_law_draw" = some (some (.ref (He.ga K "_law_draw"))))) rfl)
  have a35 : PySem.W.nsIn K mainGlobals "_law_pick" = some (some (.ref (He.ga K "_law_pick"))) := of_decide_eq_true (c.fact 66 (b := decide (PySem.W.nsIn K mainGlobals "_law_pick" = some (some (.ref (He.ga K "_law_pick"))))) rfl)
  have a36 : PySem.W.nsIn K mainGlobals "_law_things" = some (some (.ref (He.ga K "_law_things"))) := of_decide_eq_true (c.fact 67 (b := decide (PySem.W.nsIn K mainGlobals "_law_things" = some (some (.ref (He.ga K "_law_things"))))) rfl)
  have a37 : PySem.W.nsIn K mainGlobals "_law_names" = some (some (.ref (He.ga K "_law_names"))) := of_decide_eq_true (c.fact 68 (b := decide (PySem.W.nsIn K mainGlobals "_law_names" = some (some (.ref (He.ga K "_law_names"))))) rfl)
  have a38 : PySem.W.nsIn K mainGlobals "_law_others" = some (some (.ref (He.ga K "_law_others"))) := of_decide_eq_true (c.fact 69 (b := decide (PySem.W.nsIn K mainGlobals "_law_others" = some (some (.ref (He.ga K "_law_others"))))) rfl)
  have a39 : PySem.W.nsIn K mainGlobals "_law_classes" = some (some (.ref (He.ga K "_law_classes"))) := of_decide_eq_true (c.fact 70 (b := decide (PySem.W.nsIn K mainGlobals "_law_classes" = some (some (.ref (He.ga K "_law_classes"))))) rfl)
  have a40 : PySem.W.nsIn K mainGlobals "_law_is_alone" = some (some (.ref (He.ga K "_law_is_alone"))) := of_decide_eq_true (c.fact 71 (b := decide (PySem.W.nsIn K mainGlobals "_law_is_alone" = some (some (.ref (He.ga K "_law_is_alone"))))) rfl)
  have a41 : PySem.W.nsIn K mainGlobals "law" = some (some (.ref (He.ga K "law"))) := of_decide_eq_true (c.fact 72 (b := decide (PySem.W.nsIn K mainGlobals "law" = some (some (.ref (He.ga K "law"))))) rfl)
  have aDE : PySem.W.nsIn K mainGlobals "DeedError" = some (some (.ref (He.ga K "DeedError"))) := of_decide_eq_true (c.fact 73 (b := decide (PySem.W.nsIn K mainGlobals "DeedError" = some (some (.ref (He.ga K "DeedError"))))) rfl)
  have rdD : PySem.W.readsIn K (He.ga K "DeedError") (.type "type") = true := c.fact 74 (b := PySem.W.readsIn K (He.ga K "DeedError") (.type "type")) rfl
  have rgD : PySem.W.specialIn K (.ref (He.ga K "DeedError")) "__getattribute__" = some (some (.builtin "type.__getattribute__")) := of_decide_eq_true (c.fact 75 (b := decide (PySem.W.specialIn K (.ref (He.ga K "DeedError")) "__getattribute__" = some (some (.builtin "type.__getattribute__")))) rfl)
  have fcD := isVal_ok (c.fact 76 (b := isVal (PySem.W.findCls K (.ref (He.ga K "DeedError")) (.type "type") "__init__") (.builtin "ValueError.__init__")) rfl)
  have clD : PySem.W.isClsIn K (He.ga K "DeedError") = true := c.fact 77 (b := PySem.W.isClsIn K (He.ga K "DeedError")) rfl
  have tyD0 : PySem.W.typeIn K (.ref (He.ga K "DeedError")) = some (.type "type") := of_decide_eq_true (c.fact 78 (b := decide (PySem.W.typeIn K (.ref (He.ga K "DeedError")) = some (.type "type"))) rfl)
  have isg : PySem.W.specialIn K (.builtin "object.__class__") "__get__" = some (some (.builtin "getset_descriptor.__get__")) := of_decide_eq_true (c.fact 79 (b := decide (PySem.W.specialIn K (.builtin "object.__class__") "__get__" = some (some (.builtin "getset_descriptor.__get__")))) rfl)
  have itk : PySem.W.takesIn K (.builtin "object.__class__") = some true := of_decide_eq_true (c.fact 80 (b := decide (PySem.W.takesIn K (.builtin "object.__class__") = some true)) rfl)
  have hsm : (List.lookup PySem.sysModules K).isSome = true := c.fact 81 (b := (List.lookup PySem.sysModules K).isSome) rfl
  have sbs : ((((["BadTruth", "BadTests", "BadDeeds", "BadTruths", "NoDeed", "BadCount", "NoPlace", "BadSize", "NoState", "BadRow", "BadIndex"] : List Str) ++ (["NoRow", "BadPurse", "BadName", "NoTest", "BadSet", "BadWays", "NoName", "Leaned", "BadCosts", "BadWeights", "BadEquation"] : List Str)) ++ (["BadTerm", "BadPromise", "BadLine", "BadBar", "Broken", "Refused", "UnlikeBooks", "BadText", "NothingToUndo", "NotSure"] : List Str)).all fun n => (((["BadTruth", "BadTests", "BadDeeds", "BadTruths", "NoDeed", "BadCount", "NoPlace", "BadSize", "NoState", "BadRow", "BadIndex"] : List Str) ++ (["NoRow", "BadPurse", "BadName", "NoTest", "BadSet", "BadWays", "NoName", "Leaned", "BadCosts", "BadWeights", "BadEquation"] : List Str)) ++ (["BadTerm", "BadPromise", "BadLine", "BadBar", "Broken", "Refused", "UnlikeBooks", "BadText", "NothingToUndo", "NotSure"] : List Str)).all fun m => (decide (n = m) || (decide (PySem.W.subIn K (.ref (He.ga K n)) (.ref (He.ga K m)) = some false) && !(He.ga K n == He.ga K m)))) = true := c.fact 82 (b := ((((["BadTruth", "BadTests", "BadDeeds", "BadTruths", "NoDeed", "BadCount", "NoPlace", "BadSize", "NoState", "BadRow", "BadIndex"] : List Str) ++ (["NoRow", "BadPurse", "BadName", "NoTest", "BadSet", "BadWays", "NoName", "Leaned", "BadCosts", "BadWeights", "BadEquation"] : List Str)) ++ (["BadTerm", "BadPromise", "BadLine", "BadBar", "Broken", "Refused", "UnlikeBooks", "BadText", "NothingToUndo", "NotSure"] : List Str)).all fun n => (((["BadTruth", "BadTests", "BadDeeds", "BadTruths", "NoDeed", "BadCount", "NoPlace", "BadSize", "NoState", "BadRow", "BadIndex"] : List Str) ++ (["NoRow", "BadPurse", "BadName", "NoTest", "BadSet", "BadWays", "NoName", "Leaned", "BadCosts", "BadWeights", "BadEquation"] : List Str)) ++ (["BadTerm", "BadPromise", "BadLine", "BadBar", "Broken", "Refused", "UnlikeBooks", "BadText", "NothingToUndo", "NotSure"] : List Str)).all fun m => (decide (n = m) || (decide (PySem.W.subIn K (.ref (He.ga K n)) (.ref (He.ga K m)) = some false) && !(He.ga K n == He.ga K m))))) rfl
  have sde : ((((["BadTruth", "BadTests", "BadDeeds", "BadTruths", "NoDeed", "BadCount", "NoPlace", "BadSize", "NoState", "BadRow", "BadIndex"] : List Str) ++ (["NoRow", "BadPurse", "BadName", "NoTest", "BadSet", "BadWays", "NoName", "Leaned", "BadCosts", "BadWeights", "BadEquation"] : List Str)) ++ (["BadTerm", "BadPromise", "BadLine", "BadBar", "Broken", "Refused", "UnlikeBooks", "BadText", "NothingToUndo", "NotSure"] : List Str)).all fun n => (decide (PySem.W.subIn K (.ref (He.ga K n)) (.ref (He.ga K "DeedError")) = some true) && !(He.ga K n == He.ga K "DeedError"))) = true := c.fact 83 (b := ((((["BadTruth", "BadTests", "BadDeeds", "BadTruths", "NoDeed", "BadCount", "NoPlace", "BadSize", "NoState", "BadRow", "BadIndex"] : List Str) ++ (["NoRow", "BadPurse", "BadName", "NoTest", "BadSet", "BadWays", "NoName", "Leaned", "BadCosts", "BadWeights", "BadEquation"] : List Str)) ++ (["BadTerm", "BadPromise", "BadLine", "BadBar", "Broken", "Refused", "UnlikeBooks", "BadText", "NothingToUndo", "NotSure"] : List Str)).all fun n => (decide (PySem.W.subIn K (.ref (He.ga K n)) (.ref (He.ga K "DeedError")) = some true) && !(He.ga K n == He.ga K "DeedError")))) rfl
  have sve : ((((["BadTruth", "BadTests", "BadDeeds", "BadTruths", "NoDeed", "BadCount", "NoPlace", "BadSize", "NoState", "BadRow", "BadIndex"] : List Str) ++ (["NoRow", "BadPurse", "BadName", "NoTest", "BadSet", "BadWays", "NoName", "Leaned", "BadCosts", "BadWeights", "BadEquation"] : List Str)) ++ (["BadTerm", "BadPromise", "BadLine", "BadBar", "Broken", "Refused", "UnlikeBooks", "BadText", "NothingToUndo", "NotSure"] : List Str)).all fun n => decide (PySem.W.subIn K (.ref (He.ga K n)) (.type "ValueError") = some true)) = true := c.fact 84 (b := ((((["BadTruth", "BadTests", "BadDeeds", "BadTruths", "NoDeed", "BadCount", "NoPlace", "BadSize", "NoState", "BadRow", "BadIndex"] : List Str) ++ (["NoRow", "BadPurse", "BadName", "NoTest", "BadSet", "BadWays", "NoName", "Leaned", "BadCosts", "BadWeights", "BadEquation"] : List Str)) ++ (["BadTerm", "BadPromise", "BadLine", "BadBar", "Broken", "Refused", "UnlikeBooks", "BadText", "NothingToUndo", "NotSure"] : List Str)).all fun n => decide (PySem.W.subIn K (.ref (He.ga K n)) (.type "ValueError") = some true))) rfl
  have aE1 : PySem.W.nsIn K mainGlobals "BadTruth" = some (some (.ref (He.ga K "BadTruth"))) := of_decide_eq_true (c.fact 85 (b := decide (PySem.W.nsIn K mainGlobals "BadTruth" = some (some (.ref (He.ga K "BadTruth"))))) rfl)
  obtain ⟨_, _, _, _, _, _, _, _, _, _, _, _, _, _, xE1⟩ := isExcO_ok (c.fact 86 (b := isExcO (K.lookup (He.ga K "BadTruth")) (He.ga K "BadTruth") [.ref (He.ga K "DeedError"), .type "ValueError", .type "Exception", .type "BaseException", .type "object"]) rfl)
  have saE1 : PySem.W.findIn K (.ref (He.ga K "BadTruth")) "__setattr__" = some (some (.builtin "object.__setattr__")) := of_decide_eq_true (c.fact 87 (b := decide (PySem.W.findIn K (.ref (He.ga K "BadTruth")) "__setattr__" = some (some (.builtin "object.__setattr__")))) rfl)
  have exE1 : PySem.W.subIn K (.ref (He.ga K "BadTruth")) (.type "BaseException") = some true := of_decide_eq_true (c.fact 88 (b := decide (PySem.W.subIn K (.ref (He.ga K "BadTruth")) (.type "BaseException") = some true)) rfl)
  have tyE1 : PySem.W.typeIn K (.ref (He.ga K "BadTruth")) = some (.type "type") := of_decide_eq_true (c.fact 89 (b := decide (PySem.W.typeIn K (.ref (He.ga K "BadTruth")) = some (.type "type"))) rfl)
  have kcE1 : PySem.W.keepIn K (.ref (He.ga K "BadTruth")) = true := c.fact 90 (b := PySem.W.keepIn K (.ref (He.ga K "BadTruth"))) rfl
  have clE1 : PySem.W.isClsIn K (He.ga K "BadTruth") = true := c.fact 91 (b := PySem.W.isClsIn K (He.ga K "BadTruth")) rfl
  have tfE1 : PySem.W.typeIn K (.ref (He.ma K (He.ga K "BadTruth") "__init__")) = some (.type "function") := of_decide_eq_true (c.fact 92 (b := decide (PySem.W.typeIn K (.ref (He.ma K (He.ga K "BadTruth") "__init__")) = some (.type "function"))) rfl)
  have gaE1 : PySem.W.findIn K (.ref (He.ga K "BadTruth")) "__getattribute__" = some (some (.builtin "BaseException.__getattribute__")) := of_decide_eq_true (c.fact 93 (b := decide (PySem.W.findIn K (.ref (He.ga K "BadTruth")) "__getattribute__" = some (some (.builtin "BaseException.__getattribute__")))) rfl)
  have ggE1 : PySem.W.findIn K (.ref (He.ga K "BadTruth")) "__getattr__" = some none := of_decide_eq_true (c.fact 94 (b := decide (PySem.W.findIn K (.ref (He.ga K "BadTruth")) "__getattr__" = some none)) rfl)
  have hdE1 : PySem.W.hasDictIn K (He.ga K "BadTruth") = true := c.fact 95 (b := PySem.W.hasDictIn K (He.ga K "BadTruth")) rfl
  have icE1 : PySem.W.findIn K (.ref (He.ga K "BadTruth")) "__class__" = some (some (.builtin "object.__class__")) := of_decide_eq_true (c.fact 96 (b := decide (PySem.W.findIn K (.ref (He.ga K "BadTruth")) "__class__" = some (some (.builtin "object.__class__")))) rfl)
  have imE1 : PySem.W.mroIn K (He.ga K "BadTruth") (.type "object") = some true := of_decide_eq_true (c.fact 97 (b := decide (PySem.W.mroIn K (He.ga K "BadTruth") (.type "object") = some true)) rfl)
  have noE1 : PySem.W.findIn K (.ref (He.ga K "BadTruth")) "thing" = some none := of_decide_eq_true (c.fact 98 (b := decide (PySem.W.findIn K (.ref (He.ga K "BadTruth")) "thing" = some none)) rfl)
  have aE2 : PySem.W.nsIn K mainGlobals "BadTests" = some (some (.ref (He.ga K "BadTests"))) := of_decide_eq_true (c.fact 99 (b := decide (PySem.W.nsIn K mainGlobals "BadTests" = some (some (.ref (He.ga K "BadTests"))))) rfl)
  obtain ⟨_, _, _, _, _, _, _, _, _, _, _, _, _, _, xE2⟩ := isExcO_ok (c.fact 100 (b := isExcO (K.lookup (He.ga K "BadTests")) (He.ga K "BadTests") [.ref (He.ga K "DeedError"), .type "ValueError", .type "Exception", .type "BaseException", .type "object"]) rfl)
  have saE2 : PySem.W.findIn K (.ref (He.ga K "BadTests")) "__setattr__" = some (some (.builtin "object.__setattr__")) := of_decide_eq_true (c.fact 101 (b := decide (PySem.W.findIn K (.ref (He.ga K "BadTests")) "__setattr__" = some (some (.builtin "object.__setattr__")))) rfl)
  have exE2 : PySem.W.subIn K (.ref (He.ga K "BadTests")) (.type "BaseException") = some true := of_decide_eq_true (c.fact 102 (b := decide (PySem.W.subIn K (.ref (He.ga K "BadTests")) (.type "BaseException") = some true)) rfl)
  have tyE2 : PySem.W.typeIn K (.ref (He.ga K "BadTests")) = some (.type "type") := of_decide_eq_true (c.fact 103 (b := decide (PySem.W.typeIn K (.ref (He.ga K "BadTests")) = some (.type "type"))) rfl)
  have kcE2 : PySem.W.keepIn K (.ref (He.ga K "BadTests")) = true := c.fact 104 (b := PySem.W.keepIn K (.ref (He.ga K "BadTests"))) rfl
  have clE2 : PySem.W.isClsIn K (He.ga K "BadTests") = true := c.fact 105 (b := PySem.W.isClsIn K (He.ga K "BadTests")) rfl
  have tfE2 : PySem.W.typeIn K (.ref (He.ma K (He.ga K "BadTests") "__init__")) = some (.type "function") := of_decide_eq_true (c.fact 106 (b := decide (PySem.W.typeIn K (.ref (He.ma K (He.ga K "BadTests") "__init__")) = some (.type "function"))) rfl)
  have gaE2 : PySem.W.findIn K (.ref (He.ga K "BadTests")) "__getattribute__" = some (some (.builtin "BaseException.__getattribute__")) := of_decide_eq_true (c.fact 107 (b := decide (PySem.W.findIn K (.ref (He.ga K "BadTests")) "__getattribute__" = some (some (.builtin "BaseException.__getattribute__")))) rfl)
  have ggE2 : PySem.W.findIn K (.ref (He.ga K "BadTests")) "__getattr__" = some none := of_decide_eq_true (c.fact 108 (b := decide (PySem.W.findIn K (.ref (He.ga K "BadTests")) "__getattr__" = some none)) rfl)
  have hdE2 : PySem.W.hasDictIn K (He.ga K "BadTests") = true := c.fact 109 (b := PySem.W.hasDictIn K (He.ga K "BadTests")) rfl
  have icE2 : PySem.W.findIn K (.ref (He.ga K "BadTests")) "__class__" = some (some (.builtin "object.__class__")) := of_decide_eq_true (c.fact 110 (b := decide (PySem.W.findIn K (.ref (He.ga K "BadTests")) "__class__" = some (some (.builtin "object.__class__")))) rfl)
  have imE2 : PySem.W.mroIn K (He.ga K "BadTests") (.type "object") = some true := of_decide_eq_true (c.fact 111 (b := decide (PySem.W.mroIn K (He.ga K "BadTests") (.type "object") = some true)) rfl)
  have noE2 : PySem.W.findIn K (.ref (He.ga K "BadTests")) "thing" = some none := of_decide_eq_true (c.fact 112 (b := decide (PySem.W.findIn K (.ref (He.ga K "BadTests")) "thing" = some none)) rfl)
  have aE3 : PySem.W.nsIn K mainGlobals "BadDeeds" = some (some (.ref (He.ga K "BadDeeds"))) := of_decide_eq_true (c.fact 113 (b := decide (PySem.W.nsIn K mainGlobals "BadDeeds" = some (some (.ref (He.ga K "BadDeeds"))))) rfl)
  obtain ⟨_, _, _, _, _, _, _, _, _, _, _, _, _, _, xE3⟩ := isExcO_ok (c.fact 114 (b := isExcO (K.lookup (He.ga K "BadDeeds")) (He.ga K "BadDeeds") [.ref (He.ga K "DeedError"), .type "ValueError", .type "Exception", .type "BaseException", .type "object"]) rfl)
  have saE3 : PySem.W.findIn K (.ref (He.ga K "BadDeeds")) "__setattr__" = some (some (.builtin "object.__setattr__")) := of_decide_eq_true (c.fact 115 (b := decide (PySem.W.findIn K (.ref (He.ga K "BadDeeds")) "__setattr__" = some (some (.builtin "object.__setattr__")))) rfl)
  have exE3 : PySem.W.subIn K (.ref (He.ga K "BadDeeds")) (.type "BaseException") = some true := of_decide_eq_true (c.fact 116 (b := decide (PySem.W.subIn K (.ref (He.ga K "BadDeeds")) (.type "BaseException") = some true)) rfl)
  have tyE3 : PySem.W.typeIn K (.ref (He.ga K "BadDeeds")) = some (.type "type") := of_decide_eq_true (c.fact 117 (b := decide (PySem.W.typeIn K (.ref (He.ga K "BadDeeds")) = some (.type "type"))) rfl)
  have kcE3 : PySem.W.keepIn K (.ref (He.ga K "BadDeeds")) = true := c.fact 118 (b := PySem.W.keepIn K (.ref (He.ga K "BadDeeds"))) rfl
  have clE3 : PySem.W.isClsIn K (He.ga K "BadDeeds") = true := c.fact 119 (b := PySem.W.isClsIn K (He.ga K "BadDeeds")) rfl
  have tfE3 : PySem.W.typeIn K (.ref (He.ma K (He.ga K "BadDeeds") "__init__")) = some (.type "function") := of_decide_eq_true (c.fact 120 (b := decide (PySem.W.typeIn K (.ref (He.ma K (He.ga K "BadDeeds") "__init__")) = some (.type "function"))) rfl)
  have gaE3 : PySem.W.findIn K (.ref (He.ga K "BadDeeds")) "__getattribute__" = some (some (.builtin "BaseException.__getattribute__")) := of_decide_eq_true (c.fact 121 (b := decide (PySem.W.findIn K (.ref (He.ga K "BadDeeds")) "__getattribute__" = some (some (.builtin "BaseException.__getattribute__")))) rfl)
  have ggE3 : PySem.W.findIn K (.ref (He.ga K "BadDeeds")) "__getattr__" = some none := of_decide_eq_true (c.fact 122 (b := decide (PySem.W.findIn K (.ref (He.ga K "BadDeeds")) "__getattr__" = some none)) rfl)
  have hdE3 : PySem.W.hasDictIn K (He.ga K "BadDeeds") = true := c.fact 123 (b := PySem.W.hasDictIn K (He.ga K "BadDeeds")) rfl
  have icE3 : PySem.W.findIn K (.ref (He.ga K "BadDeeds")) "__class__" = some (some (.builtin "object.__class__")) := of_decide_eq_true (c.fact 124 (b := decide (PySem.W.findIn K (.ref (He.ga K "BadDeeds")) "__class__" = some (some (.builtin "object.__class__")))) rfl)
  have imE3 : PySem.W.mroIn K (He.ga K "BadDeeds") (.type "object") = some true := of_decide_eq_true (c.fact 125 (b := decide (PySem.W.mroIn K (He.ga K "BadDeeds") (.type "object") = some true)) rfl)
  have noE3 : PySem.W.findIn K (.ref (He.ga K "BadDeeds")) "thing" = some none := of_decide_eq_true (c.fact 126 (b := decide (PySem.W.findIn K (.ref (He.ga K "BadDeeds")) "thing" = some none)) rfl)
  have aE4 : PySem.W.nsIn K mainGlobals "BadTruths" = some (some (.ref (He.ga K "BadTruths"))) := of_decide_eq_true (c.fact 127 (b := decide (PySem.W.nsIn K mainGlobals "BadTruths" = some (some (.ref (He.ga K "BadTruths"))))) rfl)
  obtain ⟨_, _, _, _, _, _, _, _, _, _, _, _, _, _, xE4⟩ := isExcO_ok (c.fact 128 (b := isExcO (K.lookup (He.ga K "BadTruths")) (He.ga K "BadTruths") [.ref (He.ga K "DeedError"), .type "ValueError", .type "Exception", .type "BaseException", .type "object"]) rfl)
  have saE4 : PySem.W.findIn K (.ref (He.ga K "BadTruths")) "__setattr__" = some (some (.builtin "object.__setattr__")) := of_decide_eq_true (c.fact 129 (b := decide (PySem.W.findIn K (.ref (He.ga K "BadTruths")) "__setattr__" = some (some (.builtin "object.__setattr__")))) rfl)
  have exE4 : PySem.W.subIn K (.ref (He.ga K "BadTruths")) (.type "BaseException") = some true := of_decide_eq_true (c.fact 130 (b := decide (PySem.W.subIn K (.ref (He.ga K "BadTruths")) (.type "BaseException") = some true)) rfl)
  have tyE4 : PySem.W.typeIn K (.ref (He.ga K "BadTruths")) = some (.type "type") := of_decide_eq_true (c.fact 131 (b := decide (PySem.W.typeIn K (.ref (He.ga K "BadTruths")) = some (.type "type"))) rfl)
  have kcE4 : PySem.W.keepIn K (.ref (He.ga K "BadTruths")) = true := c.fact 132 (b := PySem.W.keepIn K (.ref (He.ga K "BadTruths"))) rfl
  have clE4 : PySem.W.isClsIn K (He.ga K "BadTruths") = true := c.fact 133 (b := PySem.W.isClsIn K (He.ga K "BadTruths")) rfl
  have tfE4 : PySem.W.typeIn K (.ref (He.ma K (He.ga K "BadTruths") "__init__")) = some (.type "function") := of_decide_eq_true (c.fact 134 (b := decide (PySem.W.typeIn K (.ref (He.ma K (He.ga K "BadTruths") "__init__")) = some (.type "function"))) rfl)
  have gaE4 : PySem.W.findIn K (.ref (He.ga K "BadTruths")) "__getattribute__" = some (some (.builtin "BaseException.__getattribute__")) := of_decide_eq_true (c.fact 135 (b := decide (PySem.W.findIn K (.ref (He.ga K "BadTruths")) "__getattribute__" = some (some (.builtin "BaseException.__getattribute__")))) rfl)
  have ggE4 : PySem.W.findIn K (.ref (He.ga K "BadTruths")) "__getattr__" = some none := of_decide_eq_true (c.fact 136 (b := decide (PySem.W.findIn K (.ref (He.ga K "BadTruths")) "__getattr__" = some none)) rfl)
  have hdE4 : PySem.W.hasDictIn K (He.ga K "BadTruths") = true := c.fact 137 (b := PySem.W.hasDictIn K (He.ga K "BadTruths")) rfl
  have icE4 : PySem.W.findIn K (.ref (He.ga K "BadTruths")) "__class__" = some (some (.builtin "object.__class__")) := of_decide_eq_true (c.fact 138 (b := decide (PySem.W.findIn K (.ref (He.ga K "BadTruths")) "__class__" = some (some (.builtin "object.__class__")))) rfl)
  have imE4 : PySem.W.mroIn K (He.ga K "BadTruths") (.type "object") = some true := of_decide_eq_true (c.fact 139 (b := decide (PySem.W.mroIn K (He.ga K "BadTruths") (.type "object") = some true)) rfl)
  have noE4 : PySem.W.findIn K (.ref (He.ga K "BadTruths")) "thing" = some none := of_decide_eq_true (c.fact 140 (b := decide (PySem.W.findIn K (.ref (He.ga K "BadTruths")) "thing" = some none)) rfl)
  have aE5 : PySem.W.nsIn K mainGlobals "NoDeed" = some (some (.ref (He.ga K "NoDeed"))) := of_decide_eq_true (c.fact 141 (b := decide (PySem.W.nsIn K mainGlobals "NoDeed" = some (some (.ref (He.ga K "NoDeed"))))) rfl)
  obtain ⟨_, _, _, _, _, _, _, _, _, _, _, _, _, _, xE5⟩ := isExcO_ok (c.fact 142 (b := isExcO (K.lookup (He.ga K "NoDeed")) (He.ga K "NoDeed") [.ref (He.ga K "DeedError"), .type "ValueError", .type "Exception", .type "BaseException", .type "object"]) rfl)
  have saE5 : PySem.W.findIn K (.ref (He.ga K "NoDeed")) "__setattr__" = some (some (.builtin "object.__setattr__")) := of_decide_eq_true (c.fact 143 (b := decide (PySem.W.findIn K (.ref (He.ga K "NoDeed")) "__setattr__" = some (some (.builtin "object.__setattr__")))) rfl)
  have exE5 : PySem.W.subIn K (.ref (He.ga K "NoDeed")) (.type "BaseException") = some true := of_decide_eq_true (c.fact 144 (b := decide (PySem.W.subIn K (.ref (He.ga K "NoDeed")) (.type "BaseException") = some true)) rfl)
  have tyE5 : PySem.W.typeIn K (.ref (He.ga K "NoDeed")) = some (.type "type") := of_decide_eq_true (c.fact 145 (b := decide (PySem.W.typeIn K (.ref (He.ga K "NoDeed")) = some (.type "type"))) rfl)
  have kcE5 : PySem.W.keepIn K (.ref (He.ga K "NoDeed")) = true := c.fact 146 (b := PySem.W.keepIn K (.ref (He.ga K "NoDeed"))) rfl
  have clE5 : PySem.W.isClsIn K (He.ga K "NoDeed") = true := c.fact 147 (b := PySem.W.isClsIn K (He.ga K "NoDeed")) rfl
  have tfE5 : PySem.W.typeIn K (.ref (He.ma K (He.ga K "NoDeed") "__init__")) = some (.type "function") := of_decide_eq_true (c.fact 148 (b := decide (PySem.W.typeIn K (.ref (He.ma K (He.ga K "NoDeed") "__init__")) = some (.type "function"))) rfl)
  have gaE5 : PySem.W.findIn K (.ref (He.ga K "NoDeed")) "__getattribute__" = some (some (.builtin "BaseException.__getattribute__")) := of_decide_eq_true (c.fact 149 (b := decide (PySem.W.findIn K (.ref (He.ga K "NoDeed")) "__getattribute__" = some (some (.builtin "BaseException.__getattribute__")))) rfl)
  have ggE5 : PySem.W.findIn K (.ref (He.ga K "NoDeed")) "__getattr__" = some none := of_decide_eq_true (c.fact 150 (b := decide (PySem.W.findIn K (.ref (He.ga K "NoDeed")) "__getattr__" = some none)) rfl)
  have hdE5 : PySem.W.hasDictIn K (He.ga K "NoDeed") = true := c.fact 151 (b := PySem.W.hasDictIn K (He.ga K "NoDeed")) rfl
  have icE5 : PySem.W.findIn K (.ref (He.ga K "NoDeed")) "__class__" = some (some (.builtin "object.__class__")) := of_decide_eq_true (c.fact 152 (b := decide (PySem.W.findIn K (.ref (He.ga K "NoDeed")) "__class__" = some (some (.builtin "object.__class__")))) rfl)
  have imE5 : PySem.W.mroIn K (He.ga K "NoDeed") (.type "object") = some true := of_decide_eq_true (c.fact 153 (b := decide (PySem.W.mroIn K (He.ga K "NoDeed") (.type "object") = some true)) rfl)
  have noE5 : PySem.W.findIn K (.ref (He.ga K "NoDeed")) "thing" = some none := of_decide_eq_true (c.fact 154 (b := decide (PySem.W.findIn K (.ref (He.ga K "NoDeed")) "thing" = some none)) rfl)
  have aE6 : PySem.W.nsIn K mainGlobals "BadCount" = some (some (.ref (He.ga K "BadCount"))) := of_decide_eq_true (c.fact 155 (b := decide (PySem.W.nsIn K mainGlobals "BadCount" = some (some (.ref (He.ga K "BadCount"))))) rfl)
  obtain ⟨_, _, _, _, _, _, _, _, _, _, _, _, _, _, xE6⟩ := isExcO_ok (c.fact 156 (b := isExcO (K.lookup (He.ga K "BadCount")) (He.ga K "BadCount") [.ref (He.ga K "DeedError"), .type "ValueError", .type "Exception", .type "BaseException", .type "object"]) rfl)
  have saE6 : PySem.W.findIn K (.ref (He.ga K "BadCount")) "__setattr__" = some (some (.builtin "object.__setattr__")) := of_decide_eq_true (c.fact 157 (b := decide (PySem.W.findIn K (.ref (He.ga K "BadCount")) "__setattr__" = some (some (.builtin "object.__setattr__")))) rfl)
  have exE6 : PySem.W.subIn K (.ref (He.ga K "BadCount")) (.type "BaseException") = some true := of_decide_eq_true (c.fact 158 (b := decide (PySem.W.subIn K (.ref (He.ga K "BadCount")) (.type "BaseException") = some true)) rfl)
  have tyE6 : PySem.W.typeIn K (.ref (He.ga K "BadCount")) = some (.type "type") := of_decide_eq_true (c.fact 159 (b := decide (PySem.W.typeIn K (.ref (He.ga K "BadCount")) = some (.type "type"))) rfl)
  have kcE6 : PySem.W.keepIn K (.ref (He.ga K "BadCount")) = true := c.fact 160 (b := PySem.W.keepIn K (.ref (He.ga K "BadCount"))) rfl
  have clE6 : PySem.W.isClsIn K (He.ga K "BadCount") = true := c.fact 161 (b := PySem.W.isClsIn K (He.ga K "BadCount")) rfl
  have tfE6 : PySem.W.typeIn K (.ref (He.ma K (He.ga K "BadCount") "__init__")) = some (.type "function") := of_decide_eq_true (c.fact 162 (b := decide (PySem.W.typeIn K (.ref (He.ma K (He.ga K "BadCount") "__init__")) = some (.type "function"))) rfl)
  have gaE6 : PySem.W.findIn K (.ref (He.ga K "BadCount")) "__getattribute__" = some (some (.builtin "BaseException.__getattribute__")) := of_decide_eq_true (c.fact 163 (b := decide (PySem.W.findIn K (.ref (He.ga K "BadCount")) "__getattribute__" = some (some (.builtin "BaseException.__getattribute__")))) rfl)
  have ggE6 : PySem.W.findIn K (.ref (He.ga K "BadCount")) "__getattr__" = some none := of_decide_eq_true (c.fact 164 (b := decide (PySem.W.findIn K (.ref (He.ga K "BadCount")) "__getattr__" = some none)) rfl)
  have hdE6 : PySem.W.hasDictIn K (He.ga K "BadCount") = true := c.fact 165 (b := PySem.W.hasDictIn K (He.ga K "BadCount")) rfl
  have icE6 : PySem.W.findIn K (.ref (He.ga K "BadCount")) "__class__" = some (some (.builtin "object.__class__")) := of_decide_eq_true (c.fact 166 (b := decide (PySem.W.findIn K (.ref (He.ga K "BadCount")) "__class__" = some (some (.builtin "object.__class__")))) rfl)
  have imE6 : PySem.W.mroIn K (He.ga K "BadCount") (.type "object") = some true := of_decide_eq_true (c.fact 167 (b := decide (PySem.W.mroIn K (He.ga K "BadCount") (.type "object") = some true)) rfl)
  have noE6 : PySem.W.findIn K (.ref (He.ga K "BadCount")) "thing" = some none := of_decide_eq_true (c.fact 168 (b := decide (PySem.W.findIn K (.ref (He.ga K "BadCount")) "thing" = some none)) rfl)
  have aE7 : PySem.W.nsIn K mainGlobals "NoPlace" = some (some (.ref (He.ga K "NoPlace"))) := of_decide_eq_true (c.fact 169 (b := decide (PySem.W.nsIn K mainGlobals "NoPlace" = some (some (.ref (He.ga K "NoPlace"))))) rfl)
  obtain ⟨_, _, _, _, _, _, _, _, _, _, _, _, _, _, xE7⟩ := isExcO_ok (c.fact 170 (b := isExcO (K.lookup (He.ga K "NoPlace")) (He.ga K "NoPlace") [.ref (He.ga K "DeedError"), .type "ValueError", .type "Exception", .type "BaseException", .type "object"]) rfl)
  have saE7 : PySem.W.findIn K (.ref (He.ga K "NoPlace")) "__setattr__" = some (some (.builtin "object.__setattr__")) := of_decide_eq_true (c.fact 171 (b := decide (PySem.W.findIn K (.ref (He.ga K "NoPlace")) "__setattr__" = some (some (.builtin "object.__setattr__")))) rfl)
  have exE7 : PySem.W.subIn K (.ref (He.ga K "NoPlace")) (.type "BaseException") = some true := of_decide_eq_true (c.fact 172 (b := decide (PySem.W.subIn K (.ref (He.ga K "NoPlace")) (.type "BaseException") = some true)) rfl)
  have tyE7 : PySem.W.typeIn K (.ref (He.ga K "NoPlace")) = some (.type "type") := of_decide_eq_true (c.fact 173 (b := decide (PySem.W.typeIn K (.ref (He.ga K "NoPlace")) = some (.type "type"))) rfl)
  have kcE7 : PySem.W.keepIn K (.ref (He.ga K "NoPlace")) = true := c.fact 174 (b := PySem.W.keepIn K (.ref (He.ga K "NoPlace"))) rfl
  have clE7 : PySem.W.isClsIn K (He.ga K "NoPlace") = true := c.fact 175 (b := PySem.W.isClsIn K (He.ga K "NoPlace")) rfl
  have tfE7 : PySem.W.typeIn K (.ref (He.ma K (He.ga K "NoPlace") "__init__")) = some (.type "function") := of_decide_eq_true (c.fact 176 (b := decide (PySem.W.typeIn K (.ref (He.ma K (He.ga K "NoPlace") "__init__")) = some (.type "function"))) rfl)
  have gaE7 : PySem.W.findIn K (.ref (He.ga K "NoPlace")) "__getattribute__" = some (some (.builtin "BaseException.__getattribute__")) := of_decide_eq_true (c.fact 177 (b := decide (PySem.W.findIn K (.ref (He.ga K "NoPlace")) "__getattribute__" = some (some (.builtin "BaseException.__getattribute__")))) rfl)
  have ggE7 : PySem.W.findIn K (.ref (He.ga K "NoPlace")) "__getattr__" = some none := of_decide_eq_true (c.fact 178 (b := decide (PySem.W.findIn K (.ref (He.ga K "NoPlace")) "__getattr__" = some none)) rfl)
  have hdE7 : PySem.W.hasDictIn K (He.ga K "NoPlace") = true := c.fact 179 (b := PySem.W.hasDictIn K (He.ga K "NoPlace")) rfl
  have icE7 : PySem.W.findIn K (.ref (He.ga K "NoPlace")) "__class__" = some (some (.builtin "object.__class__")) := of_decide_eq_true (c.fact 180 (b := decide (PySem.W.findIn K (.ref (He.ga K "NoPlace")) "__class__" = some (some (.builtin "object.__class__")))) rfl)
  have imE7 : PySem.W.mroIn K (He.ga K "NoPlace") (.type "object") = some true := of_decide_eq_true (c.fact 181 (b := decide (PySem.W.mroIn K (He.ga K "NoPlace") (.type "object") = some true)) rfl)
  have noE7 : PySem.W.findIn K (.ref (He.ga K "NoPlace")) "thing" = some none := of_decide_eq_true (c.fact 182 (b := decide (PySem.W.findIn K (.ref (He.ga K "NoPlace")) "thing" = some none)) rfl)
  have aE8 : PySem.W.nsIn K mainGlobals "BadSize" = some (some (.ref (He.ga K "BadSize"))) := of_decide_eq_true (c.fact 183 (b := decide (PySem.W.nsIn K mainGlobals "BadSize" = some (some (.ref (He.ga K "BadSize"))))) rfl)
  obtain ⟨_, _, _, _, _, _, _, _, _, _, _, _, _, _, xE8⟩ := isExcO_ok (c.fact 184 (b := isExcO (K.lookup (He.ga K "BadSize")) (He.ga K "BadSize") [.ref (He.ga K "DeedError"), .type "ValueError", .type "Exception", .type "BaseException", .type "object"]) rfl)
  have saE8 : PySem.W.findIn K (.ref (He.ga K "BadSize")) "__setattr__" = some (some (.builtin "object.__setattr__")) := of_decide_eq_true (c.fact 185 (b := decide (PySem.W.findIn K (.ref (He.ga K "BadSize")) "__setattr__" = some (some (.builtin "object.__setattr__")))) rfl)
  have exE8 : PySem.W.subIn K (.ref (He.ga K "BadSize")) (.type "BaseException") = some true := of_decide_eq_true (c.fact 186 (b := decide (PySem.W.subIn K (.ref (He.ga K "BadSize")) (.type "BaseException") = some true)) rfl)
  have tyE8 : PySem.W.typeIn K (.ref (He.ga K "BadSize")) = some (.type "type") := of_decide_eq_true (c.fact 187 (b := decide (PySem.W.typeIn K (.ref (He.ga K "BadSize")) = some (.type "type"))) rfl)
  have kcE8 : PySem.W.keepIn K (.ref (He.ga K "BadSize")) = true := c.fact 188 (b := PySem.W.keepIn K (.ref (He.ga K "BadSize"))) rfl
  have clE8 : PySem.W.isClsIn K (He.ga K "BadSize") = true := c.fact 189 (b := PySem.W.isClsIn K (He.ga K "BadSize")) rfl
  have tfE8 : PySem.W.typeIn K (.ref (He.ma K (He.ga K "BadSize") "__init__")) = some (.type "function") := of_decide_eq_true (c.fact 190 (b := decide (PySem.W.typeIn K (.ref (He.ma K (He.ga K "BadSize") "__init__")) = some (.type "function"))) rfl)
  have gaE8 : PySem.W.findIn K (.ref (He.ga K "BadSize")) "__getattribute__" = some (some (.builtin "BaseException.__getattribute__")) := of_decide_eq_true (c.fact 191 (b := decide (PySem.W.findIn K (.ref (He.ga K "BadSize")) "__getattribute__" = some (some (.builtin "BaseException.__getattribute__")))) rfl)
  have ggE8 : PySem.W.findIn K (.ref (He.ga K "BadSize")) "__getattr__" = some none := of_decide_eq_true (c.fact 192 (b := decide (PySem.W.findIn K (.ref (He.ga K "BadSize")) "__getattr__" = some none)) rfl)
  have hdE8 : PySem.W.hasDictIn K (He.ga K "BadSize") = true := c.fact 193 (b := PySem.W.hasDictIn K (He.ga K "BadSize")) rfl
  have icE8 : PySem.W.findIn K (.ref (He.ga K "BadSize")) "__class__" = some (some (.builtin "object.__class__")) := of_decide_eq_true (c.fact 194 (b := decide (PySem.W.findIn K (.ref (He.ga K "BadSize")) "__class__" = some (some (.builtin "object.__class__")))) rfl)
  have imE8 : PySem.W.mroIn K (He.ga K "BadSize") (.type "object") = some true := of_decide_eq_true (c.fact 195 (b := decide (PySem.W.mroIn K (He.ga K "BadSize") (.type "object") = some true)) rfl)
  have noE8 : PySem.W.findIn K (.ref (He.ga K "BadSize")) "thing" = some none := of_decide_eq_true (c.fact 196 (b := decide (PySem.W.findIn K (.ref (He.ga K "BadSize")) "thing" = some none)) rfl)
  have aE9 : PySem.W.nsIn K mainGlobals "NoState" = some (some (.ref (He.ga K "NoState"))) := of_decide_eq_true (c.fact 197 (b := decide (PySem.W.nsIn K mainGlobals "NoState" = some (some (.ref (He.ga K "NoState"))))) rfl)
  obtain ⟨_, _, _, _, _, _, _, _, _, _, _, _, _, _, xE9⟩ := isExcO_ok (c.fact 198 (b := isExcO (K.lookup (He.ga K "NoState")) (He.ga K "NoState") [.ref (He.ga K "DeedError"), .type "ValueError", .type "Exception", .type "BaseException", .type "object"]) rfl)
  have saE9 : PySem.W.findIn K (.ref (He.ga K "NoState")) "__setattr__" = some (some (.builtin "object.__setattr__")) := of_decide_eq_true (c.fact 199 (b := decide (PySem.W.findIn K (.ref (He.ga K "NoState")) "__setattr__" = some (some (.builtin "object.__setattr__")))) rfl)
  have exE9 : PySem.W.subIn K (.ref (He.ga K "NoState")) (.type "BaseException") = some true := of_decide_eq_true (c.fact 200 (b := decide (PySem.W.subIn K (.ref (He.ga K "NoState")) (.type "BaseException") = some true)) rfl)
  have tyE9 : PySem.W.typeIn K (.ref (He.ga K "NoState")) = some (.type "type") := of_decide_eq_true (c.fact 201 (b := decide (PySem.W.typeIn K (.ref (He.ga K "NoState")) = some (.type "type"))) rfl)
  have kcE9 : PySem.W.keepIn K (.ref (He.ga K "NoState")) = true := c.fact 202 (b := PySem.W.keepIn K (.ref (He.ga K "NoState"))) rfl
  have clE9 : PySem.W.isClsIn K (He.ga K "NoState") = true := c.fact 203 (b := PySem.W.isClsIn K (He.ga K "NoState")) rfl
  have tfE9 : PySem.W.typeIn K (.ref (He.ma K (He.ga K "NoState") "__init__")) = some (.type "function") := of_decide_eq_true (c.fact 204 (b := decide (PySem.W.typeIn K (.ref (He.ma K (He.ga K "NoState") "__init__")) = some (.type "function"))) rfl)
  have gaE9 : PySem.W.findIn K (.ref (He.ga K "NoState")) "__getattribute__" = some (some (.builtin "BaseException.__getattribute__")) := of_decide_eq_true (c.fact 205 (b := decide (PySem.W.findIn K (.ref (He.ga K "NoState")) "__getattribute__" = some (some (.builtin "BaseException.__getattribute__")))) rfl)
  have ggE9 : PySem.W.findIn K (.ref (He.ga K "NoState")) "__getattr__" = some none := of_decide_eq_true (c.fact 206 (b := decide (PySem.W.findIn K (.ref (He.ga K "NoState")) "__getattr__" = some none)) rfl)
  have hdE9 : PySem.W.hasDictIn K (He.ga K "NoState") = true := c.fact 207 (b := PySem.W.hasDictIn K (He.ga K "NoState")) rfl
  have icE9 : PySem.W.findIn K (.ref (He.ga K "NoState")) "__class__" = some (some (.builtin "object.__class__")) := of_decide_eq_true (c.fact 208 (b := decide (PySem.W.findIn K (.ref (He.ga K "NoState")) "__class__" = some (some (.builtin "object.__class__")))) rfl)
  have imE9 : PySem.W.mroIn K (He.ga K "NoState") (.type "object") = some true := of_decide_eq_true (c.fact 209 (b := decide (PySem.W.mroIn K (He.ga K "NoState") (.type "object") = some true)) rfl)
  have noE9 : PySem.W.findIn K (.ref (He.ga K "NoState")) "thing" = some none := of_decide_eq_true (c.fact 210 (b := decide (PySem.W.findIn K (.ref (He.ga K "NoState")) "thing" = some none)) rfl)
  have aE10 : PySem.W.nsIn K mainGlobals "BadRow" = some (some (.ref (He.ga K "BadRow"))) := of_decide_eq_true (c.fact 211 (b := decide (PySem.W.nsIn K mainGlobals "BadRow" = some (some (.ref (He.ga K "BadRow"))))) rfl)
  obtain ⟨_, _, _, _, _, _, _, _, _, _, _, _, _, _, xE10⟩ := isExcO_ok (c.fact 212 (b := isExcO (K.lookup (He.ga K "BadRow")) (He.ga K "BadRow") [.ref (He.ga K "DeedError"), .type "ValueError", .type "Exception", .type "BaseException", .type "object"]) rfl)
  have saE10 : PySem.W.findIn K (.ref (He.ga K "BadRow")) "__setattr__" = some (some (.builtin "object.__setattr__")) := of_decide_eq_true (c.fact 213 (b := decide (PySem.W.findIn K (.ref (He.ga K "BadRow")) "__setattr__" = some (some (.builtin "object.__setattr__")))) rfl)
  have exE10 : PySem.W.subIn K (.ref (He.ga K "BadRow")) (.type "BaseException") = some true := of_decide_eq_true (c.fact 214 (b := decide (PySem.W.subIn K (.ref (He.ga K "BadRow")) (.type "BaseException") = some true)) rfl)
  have tyE10 : PySem.W.typeIn K (.ref (He.ga K "BadRow")) = some (.type "type") := of_decide_eq_true (c.fact 215 (b := decide (PySem.W.typeIn K (.ref (He.ga K "BadRow")) = some (.type "type"))) rfl)
  have kcE10 : PySem.W.keepIn K (.ref (He.ga K "BadRow")) = true := c.fact 216 (b := PySem.W.keepIn K (.ref (He.ga K "BadRow"))) rfl
  have clE10 : PySem.W.isClsIn K (He.ga K "BadRow") = true := c.fact 217 (b := PySem.W.isClsIn K (He.ga K "BadRow")) rfl
  have tfE10 : PySem.W.typeIn K (.ref (He.ma K (He.ga K "BadRow") "__init__")) = some (.type "function") := of_decide_eq_true (c.fact 218 (b := decide (PySem.W.typeIn K (.ref (He.ma K (He.ga K "BadRow") "__init__")) = some (.type "function"))) rfl)
  have gaE10 : PySem.W.findIn K (.ref (He.ga K "BadRow")) "__getattribute__" = some (some (.builtin "BaseException.__getattribute__")) := of_decide_eq_true (c.fact 219 (b := decide (PySem.W.findIn K (.ref (He.ga K "BadRow")) "__getattribute__" = some (some (.builtin "BaseException.__getattribute__")))) rfl)
  have ggE10 : PySem.W.findIn K (.ref (He.ga K "BadRow")) "__getattr__" = some none := of_decide_eq_true (c.fact 220 (b := decide (PySem.W.findIn K (.ref (He.ga K "BadRow")) "__getattr__" = some none)) rfl)
  have hdE10 : PySem.W.hasDictIn K (He.ga K "BadRow") = true := c.fact 221 (b := PySem.W.hasDictIn K (He.ga K "BadRow")) rfl
  have icE10 : PySem.W.findIn K (.ref (He.ga K "BadRow")) "__class__" = some (some (.builtin "object.__class__")) := of_decide_eq_true (c.fact 222 (b := decide (PySem.W.findIn K (.ref (He.ga K "BadRow")) "__class__" = some (some (.builtin "object.__class__")))) rfl)
  have imE10 : PySem.W.mroIn K (He.ga K "BadRow") (.type "object") = some true := of_decide_eq_true (c.fact 223 (b := decide (PySem.W.mroIn K (He.ga K "BadRow") (.type "object") = some true)) rfl)
  have noE10 : PySem.W.findIn K (.ref (He.ga K "BadRow")) "thing" = some none := of_decide_eq_true (c.fact 224 (b := decide (PySem.W.findIn K (.ref (He.ga K "BadRow")) "thing" = some none)) rfl)
  have aE11 : PySem.W.nsIn K mainGlobals "BadIndex" = some (some (.ref (He.ga K "BadIndex"))) := of_decide_eq_true (c.fact 225 (b := decide (PySem.W.nsIn K mainGlobals "BadIndex" = some (some (.ref (He.ga K "BadIndex"))))) rfl)
  obtain ⟨_, _, _, _, _, _, _, _, _, _, _, _, _, _, xE11⟩ := isExcO_ok (c.fact 226 (b := isExcO (K.lookup (He.ga K "BadIndex")) (He.ga K "BadIndex") [.ref (He.ga K "DeedError"), .type "ValueError", .type "Exception", .type "BaseException", .type "object"]) rfl)
  have saE11 : PySem.W.findIn K (.ref (He.ga K "BadIndex")) "__setattr__" = some (some (.builtin "object.__setattr__")) := of_decide_eq_true (c.fact 227 (b := decide (PySem.W.findIn K (.ref (He.ga K "BadIndex")) "__setattr__" = some (some (.builtin "object.__setattr__")))) rfl)
  have exE11 : PySem.W.subIn K (.ref (He.ga K "BadIndex")) (.type "BaseException") = some true := of_decide_eq_true (c.fact 228 (b := decide (PySem.W.subIn K (.ref (He.ga K "BadIndex")) (.type "BaseException") = some true)) rfl)
  have tyE11 : PySem.W.typeIn K (.ref (He.ga K "BadIndex")) = some (.type "type") := of_decide_eq_true (c.fact 229 (b := decide (PySem.W.typeIn K (.ref (He.ga K "BadIndex")) = some (.type "type"))) rfl)
  have kcE11 : PySem.W.keepIn K (.ref (He.ga K "BadIndex")) = true := c.fact 230 (b := PySem.W.keepIn K (.ref (He.ga K "BadIndex"))) rfl
  have clE11 : PySem.W.isClsIn K (He.ga K "BadIndex") = true := c.fact 231 (b := PySem.W.isClsIn K (He.ga K "BadIndex")) rfl
  have tfE11 : PySem.W.typeIn K (.ref (He.ma K (He.ga K "BadIndex") "__init__")) = some (.type "function") := of_decide_eq_true (c.fact 232 (b := decide (PySem.W.typeIn K (.ref (He.ma K (He.ga K "BadIndex") "__init__")) = some (.type "function"))) rfl)
  have gaE11 : PySem.W.findIn K (.ref (He.ga K "BadIndex")) "__getattribute__" = some (some (.builtin "BaseException.__getattribute__")) := of_decide_eq_true (c.fact 233 (b := decide (PySem.W.findIn K (.ref (He.ga K "BadIndex")) "__getattribute__" = some (some (.builtin "BaseException.__getattribute__")))) rfl)
  have ggE11 : PySem.W.findIn K (.ref (He.ga K "BadIndex")) "__getattr__" = some none := of_decide_eq_true (c.fact 234 (b := decide (PySem.W.findIn K (.ref (He.ga K "BadIndex")) "__getattr__" = some none)) rfl)
  have hdE11 : PySem.W.hasDictIn K (He.ga K "BadIndex") = true := c.fact 235 (b := PySem.W.hasDictIn K (He.ga K "BadIndex")) rfl
  have icE11 : PySem.W.findIn K (.ref (He.ga K "BadIndex")) "__class__" = some (some (.builtin "object.__class__")) := of_decide_eq_true (c.fact 236 (b := decide (PySem.W.findIn K (.ref (He.ga K "BadIndex")) "__class__" = some (some (.builtin "object.__class__")))) rfl)
  have imE11 : PySem.W.mroIn K (He.ga K "BadIndex") (.type "object") = some true := of_decide_eq_true (c.fact 237 (b := decide (PySem.W.mroIn K (He.ga K "BadIndex") (.type "object") = some true)) rfl)
  have noE11 : PySem.W.findIn K (.ref (He.ga K "BadIndex")) "thing" = some none := of_decide_eq_true (c.fact 238 (b := decide (PySem.W.findIn K (.ref (He.ga K "BadIndex")) "thing" = some none)) rfl)
  have aE12 : PySem.W.nsIn K mainGlobals "NoRow" = some (some (.ref (He.ga K "NoRow"))) := of_decide_eq_true (c.fact 239 (b := decide (PySem.W.nsIn K mainGlobals "NoRow" = some (some (.ref (He.ga K "NoRow"))))) rfl)
  obtain ⟨_, _, _, _, _, _, _, _, _, _, _, _, _, _, xE12⟩ := isExcO_ok (c.fact 240 (b := isExcO (K.lookup (He.ga K "NoRow")) (He.ga K "NoRow") [.ref (He.ga K "DeedError"), .type "ValueError", .type "Exception", .type "BaseException", .type "object"]) rfl)
  have saE12 : PySem.W.findIn K (.ref (He.ga K "NoRow")) "__setattr__" = some (some (.builtin "object.__setattr__")) := of_decide_eq_true (c.fact 241 (b := decide (PySem.W.findIn K (.ref (He.ga K "NoRow")) "__setattr__" = some (some (.builtin "object.__setattr__")))) rfl)
  have exE12 : PySem.W.subIn K (.ref (He.ga K "NoRow")) (.type "BaseException") = some true := of_decide_eq_true (c.fact 242 (b := decide (PySem.W.subIn K (.ref (He.ga K "NoRow")) (.type "BaseException") = some true)) rfl)
  have tyE12 : PySem.W.typeIn K (.ref (He.ga K "NoRow")) = some (.type "type") := of_decide_eq_true (c.fact 243 (b := decide (PySem.W.typeIn K (.ref (He.ga K "NoRow")) = some (.type "type"))) rfl)
  have kcE12 : PySem.W.keepIn K (.ref (He.ga K "NoRow")) = true := c.fact 244 (b := PySem.W.keepIn K (.ref (He.ga K "NoRow"))) rfl
  have clE12 : PySem.W.isClsIn K (He.ga K "NoRow") = true := c.fact 245 (b := PySem.W.isClsIn K (He.ga K "NoRow")) rfl
  have tfE12 : PySem.W.typeIn K (.ref (He.ma K (He.ga K "NoRow") "__init__")) = some (.type "function") := of_decide_eq_true (c.fact 246 (b := decide (PySem.W.typeIn K (.ref (He.ma K (He.ga K "NoRow") "__init__")) = some (.type "function"))) rfl)
  have gaE12 : PySem.W.findIn K (.ref (He.ga K "NoRow")) "__getattribute__" = some (some (.builtin "BaseException.__getattribute__")) := of_decide_eq_true (c.fact 247 (b := decide (PySem.W.findIn K (.ref (He.ga K "NoRow")) "__getattribute__" = some (some (.builtin "BaseException.__getattribute__")))) rfl)
  have ggE12 : PySem.W.findIn K (.ref (He.ga K "NoRow")) "__getattr__" = some none := of_decide_eq_true (c.fact 248 (b := decide (PySem.W.findIn K (.ref (He.ga K "NoRow")) "__getattr__" = some none)) rfl)
  have hdE12 : PySem.W.hasDictIn K (He.ga K "NoRow") = true := c.fact 249 (b := PySem.W.hasDictIn K (He.ga K "NoRow")) rfl
  have icE12 : PySem.W.findIn K (.ref (He.ga K "NoRow")) "__class__" = some (some (.builtin "object.__class__")) := of_decide_eq_true (c.fact 250 (b := decide (PySem.W.findIn K (.ref (He.ga K "NoRow")) "__class__" = some (some (.builtin "object.__class__")))) rfl)
  have imE12 : PySem.W.mroIn K (He.ga K "NoRow") (.type "object") = some true := of_decide_eq_true (c.fact 251 (b := decide (PySem.W.mroIn K (He.ga K "NoRow") (.type "object") = some true)) rfl)
  have noE12 : PySem.W.findIn K (.ref (He.ga K "NoRow")) "thing" = some none := of_decide_eq_true (c.fact 252 (b := decide (PySem.W.findIn K (.ref (He.ga K "NoRow")) "thing" = some none)) rfl)
  have aE13 : PySem.W.nsIn K mainGlobals "BadPurse" = some (some (.ref (He.ga K "BadPurse"))) := of_decide_eq_true (c.fact 253 (b := decide (PySem.W.nsIn K mainGlobals "BadPurse" = some (some (.ref (He.ga K "BadPurse"))))) rfl)
  obtain ⟨_, _, _, _, _, _, _, _, _, _, _, _, _, _, xE13⟩ := isExcO_ok (c.fact 254 (b := isExcO (K.lookup (He.ga K "BadPurse")) (He.ga K "BadPurse") [.ref (He.ga K "DeedError"), .type "ValueError", .type "Exception", .type "BaseException", .type "object"]) rfl)
  have saE13 : PySem.W.findIn K (.ref (He.ga K "BadPurse")) "__setattr__" = some (some (.builtin "object.__setattr__")) := of_decide_eq_true (c.fact 255 (b := decide (PySem.W.findIn K (.ref (He.ga K "BadPurse")) "__setattr__" = some (some (.builtin "object.__setattr__")))) rfl)
  have exE13 : PySem.W.subIn K (.ref (He.ga K "BadPurse")) (.type "BaseException") = some true := of_decide_eq_true (c.fact 256 (b := decide (PySem.W.subIn K (.ref (He.ga K "BadPurse")) (.type "BaseException") = some true)) rfl)
  have tyE13 : PySem.W.typeIn K (.ref (He.ga K "BadPurse")) = some (.type "type") := of_decide_eq_true (c.fact 257 (b := decide (PySem.W.typeIn K (.ref (He.ga K "BadPurse")) = some (.type "type"))) rfl)
  have kcE13 : PySem.W.keepIn K (.ref (He.ga K "BadPurse")) = true := c.fact 258 (b := PySem.W.keepIn K (.ref (He.ga K "BadPurse"))) rfl
  have clE13 : PySem.W.isClsIn K (He.ga K "BadPurse") = true := c.fact 259 (b := PySem.W.isClsIn K (He.ga K "BadPurse")) rfl
  have tfE13 : PySem.W.typeIn K (.ref (He.ma K (He.ga K "BadPurse") "__init__")) = some (.type "function") := of_decide_eq_true (c.fact 260 (b := decide (PySem.W.typeIn K (.ref (He.ma K (He.ga K "BadPurse") "__init__")) = some (.type "function"))) rfl)
  have gaE13 : PySem.W.findIn K (.ref (He.ga K "BadPurse")) "__getattribute__" = some (some (.builtin "BaseException.__getattribute__")) := of_decide_eq_true (c.fact 261 (b := decide (PySem.W.findIn K (.ref (He.ga K "BadPurse")) "__getattribute__" = some (some (.builtin "BaseException.__getattribute__")))) rfl)
  have ggE13 : PySem.W.findIn K (.ref (He.ga K "BadPurse")) "__getattr__" = some none := of_decide_eq_true (c.fact 262 (b := decide (PySem.W.findIn K (.ref (He.ga K "BadPurse")) "__getattr__" = some none)) rfl)
  have hdE13 : PySem.W.hasDictIn K (He.ga K "BadPurse") = true := c.fact 263 (b := PySem.W.hasDictIn K (He.ga K "BadPurse")) rfl
  have icE13 : PySem.W.findIn K (.ref (He.ga K "BadPurse")) "__class__" = some (some (.builtin "object.__class__")) := of_decide_eq_true (c.fact 264 (b := decide (PySem.W.findIn K (.ref (He.ga K "BadPurse")) "__class__" = some (some (.builtin "object.__class__")))) rfl)
  have imE13 : PySem.W.mroIn K (He.ga K "BadPurse") (.type "object") = some true := of_decide_eq_true (c.fact 265 (b := decide (PySem.W.mroIn K (He.ga K "BadPurse") (.type "object") = some true)) rfl)
  have noE13 : PySem.W.findIn K (.ref (He.ga K "BadPurse")) "thing" = some none := of_decide_eq_true (c.fact 266 (b := decide (PySem.W.findIn K (.ref (He.ga K "BadPurse")) "thing" = some none)) rfl)
  have aE14 : PySem.W.nsIn K mainGlobals "BadName" = some (some (.ref (He.ga K "BadName"))) := of_decide_eq_true (c.fact 267 (b := decide (PySem.W.nsIn K mainGlobals "BadName" = some (some (.ref (He.ga K "BadName"))))) rfl)
  obtain ⟨_, _, _, _, _, _, _, _, _, _, _, _, _, _, xE14⟩ := isExcO_ok (c.fact 268 (b := isExcO (K.lookup (He.ga K "BadName")) (He.ga K "BadName") [.ref (He.ga K "DeedError"), .type "ValueError", .type "Exception", .type "BaseException", .type "object"]) rfl)
  have saE14 : PySem.W.findIn K (.ref (He.ga K "BadName")) "__setattr__" = some (some (.builtin "object.__setattr__")) := of_decide_eq_true (c.fact 269 (b := decide (PySem.W.findIn K (.ref (He.ga K "BadName")) "__setattr__" = some (some (.builtin "object.__setattr__")))) rfl)
  have exE14 : PySem.W.subIn K (.ref (He.ga K "BadName")) (.type "BaseException") = some true := of_decide_eq_true (c.fact 270 (b := decide (PySem.W.subIn K (.ref (He.ga K "BadName")) (.type "BaseException") = some true)) rfl)
  have tyE14 : PySem.W.typeIn K (.ref (He.ga K "BadName")) = some (.type "type") := of_decide_eq_true (c.fact 271 (b := decide (PySem.W.typeIn K (.ref (He.ga K "BadName")) = some (.type "type"))) rfl)
  have kcE14 : PySem.W.keepIn K (.ref (He.ga K "BadName")) = true := c.fact 272 (b := PySem.W.keepIn K (.ref (He.ga K "BadName"))) rfl
  have clE14 : PySem.W.isClsIn K (He.ga K "BadName") = true := c.fact 273 (b := PySem.W.isClsIn K (He.ga K "BadName")) rfl
  have tfE14 : PySem.W.typeIn K (.ref (He.ma K (He.ga K "BadName") "__init__")) = some (.type "function") := of_decide_eq_true (c.fact 274 (b := decide (PySem.W.typeIn K (.ref (He.ma K (He.ga K "BadName") "__init__")) = some (.type "function"))) rfl)
  have gaE14 : PySem.W.findIn K (.ref (He.ga K "BadName")) "__getattribute__" = some (some (.builtin "BaseException.__getattribute__")) := of_decide_eq_true (c.fact 275 (b := decide (PySem.W.findIn K (.ref (He.ga K "BadName")) "__getattribute__" = some (some (.builtin "BaseException.__getattribute__")))) rfl)
  have ggE14 : PySem.W.findIn K (.ref (He.ga K "BadName")) "__getattr__" = some none := of_decide_eq_true (c.fact 276 (b := decide (PySem.W.findIn K (.ref (He.ga K "BadName")) "__getattr__" = some none)) rfl)
  have hdE14 : PySem.W.hasDictIn K (He.ga K "BadName") = true := c.fact 277 (b := PySem.W.hasDictIn K (He.ga K "BadName")) rfl
  have icE14 : PySem.W.findIn K (.ref (He.ga K "BadName")) "__class__" = some (some (.builtin "object.__class__")) := of_decide_eq_true (c.fact 278 (b := decide (PySem.W.findIn K (.ref (He.ga K "BadName")) "__class__" = some (some (.builtin "object.__class__")))) rfl)
  have imE14 : PySem.W.mroIn K (He.ga K "BadName") (.type "object") = some true := of_decide_eq_true (c.fact 279 (b := decide (PySem.W.mroIn K (He.ga K "BadName") (.type "object") = some true)) rfl)
  have noE14 : PySem.W.findIn K (.ref (He.ga K "BadName")) "name" = some none := of_decide_eq_true (c.fact 280 (b := decide (PySem.W.findIn K (.ref (He.ga K "BadName")) "name" = some none)) rfl)
  have aE15 : PySem.W.nsIn K mainGlobals "NoTest" = some (some (.ref (He.ga K "NoTest"))) := of_decide_eq_true (c.fact 281 (b := decide (PySem.W.nsIn K mainGlobals "NoTest" = some (some (.ref (He.ga K "NoTest"))))) rfl)
  obtain ⟨_, _, _, _, _, _, _, _, _, _, _, _, _, _, xE15⟩ := isExcO_ok (c.fact 282 (b := isExcO (K.lookup (He.ga K "NoTest")) (He.ga K "NoTest") [.ref (He.ga K "DeedError"), .type "ValueError", .type "Exception", .type "BaseException", .type "object"]) rfl)
  have saE15 : PySem.W.findIn K (.ref (He.ga K "NoTest")) "__setattr__" = some (some (.builtin "object.__setattr__")) := of_decide_eq_true (c.fact 283 (b := decide (PySem.W.findIn K (.ref (He.ga K "NoTest")) "__setattr__" = some (some (.builtin "object.__setattr__")))) rfl)
  have exE15 : PySem.W.subIn K (.ref (He.ga K "NoTest")) (.type "BaseException") = some true := of_decide_eq_true (c.fact 284 (b := decide (PySem.W.subIn K (.ref (He.ga K "NoTest")) (.type "BaseException") = some true)) rfl)
  have tyE15 : PySem.W.typeIn K (.ref (He.ga K "NoTest")) = some (.type "type") := of_decide_eq_true (c.fact 285 (b := decide (PySem.W.typeIn K (.ref (He.ga K "NoTest")) = some (.type "type"))) rfl)
  have kcE15 : PySem.W.keepIn K (.ref (He.ga K "NoTest")) = true := c.fact 286 (b := PySem.W.keepIn K (.ref (He.ga K "NoTest"))) rfl
  have clE15 : PySem.W.isClsIn K (He.ga K "NoTest") = true := c.fact 287 (b := PySem.W.isClsIn K (He.ga K "NoTest")) rfl
  have tfE15 : PySem.W.typeIn K (.ref (He.ma K (He.ga K "NoTest") "__init__")) = some (.type "function") := of_decide_eq_true (c.fact 288 (b := decide (PySem.W.typeIn K (.ref (He.ma K (He.ga K "NoTest") "__init__")) = some (.type "function"))) rfl)
  have gaE15 : PySem.W.findIn K (.ref (He.ga K "NoTest")) "__getattribute__" = some (some (.builtin "BaseException.__getattribute__")) := of_decide_eq_true (c.fact 289 (b := decide (PySem.W.findIn K (.ref (He.ga K "NoTest")) "__getattribute__" = some (some (.builtin "BaseException.__getattribute__")))) rfl)
  have ggE15 : PySem.W.findIn K (.ref (He.ga K "NoTest")) "__getattr__" = some none := of_decide_eq_true (c.fact 290 (b := decide (PySem.W.findIn K (.ref (He.ga K "NoTest")) "__getattr__" = some none)) rfl)
  have hdE15 : PySem.W.hasDictIn K (He.ga K "NoTest") = true := c.fact 291 (b := PySem.W.hasDictIn K (He.ga K "NoTest")) rfl
  have icE15 : PySem.W.findIn K (.ref (He.ga K "NoTest")) "__class__" = some (some (.builtin "object.__class__")) := of_decide_eq_true (c.fact 292 (b := decide (PySem.W.findIn K (.ref (He.ga K "NoTest")) "__class__" = some (some (.builtin "object.__class__")))) rfl)
  have imE15 : PySem.W.mroIn K (He.ga K "NoTest") (.type "object") = some true := of_decide_eq_true (c.fact 293 (b := decide (PySem.W.mroIn K (He.ga K "NoTest") (.type "object") = some true)) rfl)
  have noE15 : PySem.W.findIn K (.ref (He.ga K "NoTest")) "name" = some none := of_decide_eq_true (c.fact 294 (b := decide (PySem.W.findIn K (.ref (He.ga K "NoTest")) "name" = some none)) rfl)
  have aE16 : PySem.W.nsIn K mainGlobals "BadSet" = some (some (.ref (He.ga K "BadSet"))) := of_decide_eq_true (c.fact 295 (b := decide (PySem.W.nsIn K mainGlobals "BadSet" = some (some (.ref (He.ga K "BadSet"))))) rfl)
  obtain ⟨_, _, _, _, _, _, _, _, _, _, _, _, _, _, xE16⟩ := isExcO_ok (c.fact 296 (b := isExcO (K.lookup (He.ga K "BadSet")) (He.ga K "BadSet") [.ref (He.ga K "DeedError"), .type "ValueError", .type "Exception", .type "BaseException", .type "object"]) rfl)
  have saE16 : PySem.W.findIn K (.ref (He.ga K "BadSet")) "__setattr__" = some (some (.builtin "object.__setattr__")) := of_decide_eq_true (c.fact 297 (b := decide (PySem.W.findIn K (.ref (He.ga K "BadSet")) "__setattr__" = some (some (.builtin "object.__setattr__")))) rfl)
  have exE16 : PySem.W.subIn K (.ref (He.ga K "BadSet")) (.type "BaseException") = some true := of_decide_eq_true (c.fact 298 (b := decide (PySem.W.subIn K (.ref (He.ga K "BadSet")) (.type "BaseException") = some true)) rfl)
  have tyE16 : PySem.W.typeIn K (.ref (He.ga K "BadSet")) = some (.type "type") := of_decide_eq_true (c.fact 299 (b := decide (PySem.W.typeIn K (.ref (He.ga K "BadSet")) = some (.type "type"))) rfl)
  have kcE16 : PySem.W.keepIn K (.ref (He.ga K "BadSet")) = true := c.fact 300 (b := PySem.W.keepIn K (.ref (He.ga K "BadSet"))) rfl
  have clE16 : PySem.W.isClsIn K (He.ga K "BadSet") = true := c.fact 301 (b := PySem.W.isClsIn K (He.ga K "BadSet")) rfl
  have tfE16 : PySem.W.typeIn K (.ref (He.ma K (He.ga K "BadSet") "__init__")) = some (.type "function") := of_decide_eq_true (c.fact 302 (b := decide (PySem.W.typeIn K (.ref (He.ma K (He.ga K "BadSet") "__init__")) = some (.type "function"))) rfl)
  have gaE16 : PySem.W.findIn K (.ref (He.ga K "BadSet")) "__getattribute__" = some (some (.builtin "BaseException.__getattribute__")) := of_decide_eq_true (c.fact 303 (b := decide (PySem.W.findIn K (.ref (He.ga K "BadSet")) "__getattribute__" = some (some (.builtin "BaseException.__getattribute__")))) rfl)
  have ggE16 : PySem.W.findIn K (.ref (He.ga K "BadSet")) "__getattr__" = some none := of_decide_eq_true (c.fact 304 (b := decide (PySem.W.findIn K (.ref (He.ga K "BadSet")) "__getattr__" = some none)) rfl)
  have hdE16 : PySem.W.hasDictIn K (He.ga K "BadSet") = true := c.fact 305 (b := PySem.W.hasDictIn K (He.ga K "BadSet")) rfl
  have icE16 : PySem.W.findIn K (.ref (He.ga K "BadSet")) "__class__" = some (some (.builtin "object.__class__")) := of_decide_eq_true (c.fact 306 (b := decide (PySem.W.findIn K (.ref (He.ga K "BadSet")) "__class__" = some (some (.builtin "object.__class__")))) rfl)
  have imE16 : PySem.W.mroIn K (He.ga K "BadSet") (.type "object") = some true := of_decide_eq_true (c.fact 307 (b := decide (PySem.W.mroIn K (He.ga K "BadSet") (.type "object") = some true)) rfl)
  have noE16 : PySem.W.findIn K (.ref (He.ga K "BadSet")) "name" = some none := of_decide_eq_true (c.fact 308 (b := decide (PySem.W.findIn K (.ref (He.ga K "BadSet")) "name" = some none)) rfl)
  have aE17 : PySem.W.nsIn K mainGlobals "BadWays" = some (some (.ref (He.ga K "BadWays"))) := of_decide_eq_true (c.fact 309 (b := decide (PySem.W.nsIn K mainGlobals "BadWays" = some (some (.ref (He.ga K "BadWays"))))) rfl)
  obtain ⟨_, _, _, _, _, _, _, _, _, _, _, _, _, _, xE17⟩ := isExcO_ok (c.fact 310 (b := isExcO (K.lookup (He.ga K "BadWays")) (He.ga K "BadWays") [.ref (He.ga K "DeedError"), .type "ValueError", .type "Exception", .type "BaseException", .type "object"]) rfl)
  have saE17 : PySem.W.findIn K (.ref (He.ga K "BadWays")) "__setattr__" = some (some (.builtin "object.__setattr__")) := of_decide_eq_true (c.fact 311 (b := decide (PySem.W.findIn K (.ref (He.ga K "BadWays")) "__setattr__" = some (some (.builtin "object.__setattr__")))) rfl)
  have exE17 : PySem.W.subIn K (.ref (He.ga K "BadWays")) (.type "BaseException") = some true := of_decide_eq_true (c.fact 312 (b := decide (PySem.W.subIn K (.ref (He.ga K "BadWays")) (.type "BaseException") = some true)) rfl)
  have tyE17 : PySem.W.typeIn K (.ref (He.ga K "BadWays")) = some (.type "type") := of_decide_eq_true (c.fact 313 (b := decide (PySem.W.typeIn K (.ref (He.ga K "BadWays")) = some (.type "type"))) rfl)
  have kcE17 : PySem.W.keepIn K (.ref (He.ga K "BadWays")) = true := c.fact 314 (b := PySem.W.keepIn K (.ref (He.ga K "BadWays"))) rfl
  have clE17 : PySem.W.isClsIn K (He.ga K "BadWays") = true := c.fact 315 (b := PySem.W.isClsIn K (He.ga K "BadWays")) rfl
  have tfE17 : PySem.W.typeIn K (.ref (He.ma K (He.ga K "BadWays") "__init__")) = some (.type "function") := of_decide_eq_true (c.fact 316 (b := decide (PySem.W.typeIn K (.ref (He.ma K (He.ga K "BadWays") "__init__")) = some (.type "function"))) rfl)
  have gaE17 : PySem.W.findIn K (.ref (He.ga K "BadWays")) "__getattribute__" = some (some (.builtin "BaseException.__getattribute__")) := of_decide_eq_true (c.fact 317 (b := decide (PySem.W.findIn K (.ref (He.ga K "BadWays")) "__getattribute__" = some (some (.builtin "BaseException.__getattribute__")))) rfl)
  have ggE17 : PySem.W.findIn K (.ref (He.ga K "BadWays")) "__getattr__" = some none := of_decide_eq_true (c.fact 318 (b := decide (PySem.W.findIn K (.ref (He.ga K "BadWays")) "__getattr__" = some none)) rfl)
  have hdE17 : PySem.W.hasDictIn K (He.ga K "BadWays") = true := c.fact 319 (b := PySem.W.hasDictIn K (He.ga K "BadWays")) rfl
  have icE17 : PySem.W.findIn K (.ref (He.ga K "BadWays")) "__class__" = some (some (.builtin "object.__class__")) := of_decide_eq_true (c.fact 320 (b := decide (PySem.W.findIn K (.ref (He.ga K "BadWays")) "__class__" = some (some (.builtin "object.__class__")))) rfl)
  have imE17 : PySem.W.mroIn K (He.ga K "BadWays") (.type "object") = some true := of_decide_eq_true (c.fact 321 (b := decide (PySem.W.mroIn K (He.ga K "BadWays") (.type "object") = some true)) rfl)
  have noE17 : PySem.W.findIn K (.ref (He.ga K "BadWays")) "name" = some none := of_decide_eq_true (c.fact 322 (b := decide (PySem.W.findIn K (.ref (He.ga K "BadWays")) "name" = some none)) rfl)
  have aE18 : PySem.W.nsIn K mainGlobals "NoName" = some (some (.ref (He.ga K "NoName"))) := of_decide_eq_true (c.fact 323 (b := decide (PySem.W.nsIn K mainGlobals "NoName" = some (some (.ref (He.ga K "NoName"))))) rfl)
  obtain ⟨_, _, _, _, _, _, _, _, _, _, _, _, _, _, xE18⟩ := isExcO_ok (c.fact 324 (b := isExcO (K.lookup (He.ga K "NoName")) (He.ga K "NoName") [.ref (He.ga K "DeedError"), .type "ValueError", .type "Exception", .type "BaseException", .type "object"]) rfl)
  have saE18 : PySem.W.findIn K (.ref (He.ga K "NoName")) "__setattr__" = some (some (.builtin "object.__setattr__")) := of_decide_eq_true (c.fact 325 (b := decide (PySem.W.findIn K (.ref (He.ga K "NoName")) "__setattr__" = some (some (.builtin "object.__setattr__")))) rfl)
  have exE18 : PySem.W.subIn K (.ref (He.ga K "NoName")) (.type "BaseException") = some true := of_decide_eq_true (c.fact 326 (b := decide (PySem.W.subIn K (.ref (He.ga K "NoName")) (.type "BaseException") = some true)) rfl)
  have tyE18 : PySem.W.typeIn K (.ref (He.ga K "NoName")) = some (.type "type") := of_decide_eq_true (c.fact 327 (b := decide (PySem.W.typeIn K (.ref (He.ga K "NoName")) = some (.type "type"))) rfl)
  have kcE18 : PySem.W.keepIn K (.ref (He.ga K "NoName")) = true := c.fact 328 (b := PySem.W.keepIn K (.ref (He.ga K "NoName"))) rfl
  have clE18 : PySem.W.isClsIn K (He.ga K "NoName") = true := c.fact 329 (b := PySem.W.isClsIn K (He.ga K "NoName")) rfl
  have tfE18 : PySem.W.typeIn K (.ref (He.ma K (He.ga K "NoName") "__init__")) = some (.type "function") := of_decide_eq_true (c.fact 330 (b := decide (PySem.W.typeIn K (.ref (He.ma K (He.ga K "NoName") "__init__")) = some (.type "function"))) rfl)
  have gaE18 : PySem.W.findIn K (.ref (He.ga K "NoName")) "__getattribute__" = some (some (.builtin "BaseException.__getattribute__")) := of_decide_eq_true (c.fact 331 (b := decide (PySem.W.findIn K (.ref (He.ga K "NoName")) "__getattribute__" = some (some (.builtin "BaseException.__getattribute__")))) rfl)
  have ggE18 : PySem.W.findIn K (.ref (He.ga K "NoName")) "__getattr__" = some none := of_decide_eq_true (c.fact 332 (b := decide (PySem.W.findIn K (.ref (He.ga K "NoName")) "__getattr__" = some none)) rfl)
  have hdE18 : PySem.W.hasDictIn K (He.ga K "NoName") = true := c.fact 333 (b := PySem.W.hasDictIn K (He.ga K "NoName")) rfl
  have icE18 : PySem.W.findIn K (.ref (He.ga K "NoName")) "__class__" = some (some (.builtin "object.__class__")) := of_decide_eq_true (c.fact 334 (b := decide (PySem.W.findIn K (.ref (He.ga K "NoName")) "__class__" = some (some (.builtin "object.__class__")))) rfl)
  have imE18 : PySem.W.mroIn K (He.ga K "NoName") (.type "object") = some true := of_decide_eq_true (c.fact 335 (b := decide (PySem.W.mroIn K (He.ga K "NoName") (.type "object") = some true)) rfl)
  have noE18 : PySem.W.findIn K (.ref (He.ga K "NoName")) "name" = some none := of_decide_eq_true (c.fact 336 (b := decide (PySem.W.findIn K (.ref (He.ga K "NoName")) "name" = some none)) rfl)
  have aE19 : PySem.W.nsIn K mainGlobals "Leaned" = some (some (.ref (He.ga K "Leaned"))) := of_decide_eq_true (c.fact 337 (b := decide (PySem.W.nsIn K mainGlobals "Leaned" = some (some (.ref (He.ga K "Leaned"))))) rfl)
  obtain ⟨_, _, _, _, _, _, _, _, _, _, _, _, _, _, xE19⟩ := isExcO_ok (c.fact 338 (b := isExcO (K.lookup (He.ga K "Leaned")) (He.ga K "Leaned") [.ref (He.ga K "DeedError"), .type "ValueError", .type "Exception", .type "BaseException", .type "object"]) rfl)
  have saE19 : PySem.W.findIn K (.ref (He.ga K "Leaned")) "__setattr__" = some (some (.builtin "object.__setattr__")) := of_decide_eq_true (c.fact 339 (b := decide (PySem.W.findIn K (.ref (He.ga K "Leaned")) "__setattr__" = some (some (.builtin "object.__setattr__")))) rfl)
  have exE19 : PySem.W.subIn K (.ref (He.ga K "Leaned")) (.type "BaseException") = some true := of_decide_eq_true (c.fact 340 (b := decide (PySem.W.subIn K (.ref (He.ga K "Leaned")) (.type "BaseException") = some true)) rfl)
  have tyE19 : PySem.W.typeIn K (.ref (He.ga K "Leaned")) = some (.type "type") := of_decide_eq_true (c.fact 341 (b := decide (PySem.W.typeIn K (.ref (He.ga K "Leaned")) = some (.type "type"))) rfl)
  have kcE19 : PySem.W.keepIn K (.ref (He.ga K "Leaned")) = true := c.fact 342 (b := PySem.W.keepIn K (.ref (He.ga K "Leaned"))) rfl
  have clE19 : PySem.W.isClsIn K (He.ga K "Leaned") = true := c.fact 343 (b := PySem.W.isClsIn K (He.ga K "Leaned")) rfl
  have tfE19 : PySem.W.typeIn K (.ref (He.ma K (He.ga K "Leaned") "__init__")) = some (.type "function") := of_decide_eq_true (c.fact 344 (b := decide (PySem.W.typeIn K (.ref (He.ma K (He.ga K "Leaned") "__init__")) = some (.type "function"))) rfl)
  have gaE19 : PySem.W.findIn K (.ref (He.ga K "Leaned")) "__getattribute__" = some (some (.builtin "BaseException.__getattribute__")) := of_decide_eq_true (c.fact 345 (b := decide (PySem.W.findIn K (.ref (He.ga K "Leaned")) "__getattribute__" = some (some (.builtin "BaseException.__getattribute__")))) rfl)
  have ggE19 : PySem.W.findIn K (.ref (He.ga K "Leaned")) "__getattr__" = some none := of_decide_eq_true (c.fact 346 (b := decide (PySem.W.findIn K (.ref (He.ga K "Leaned")) "__getattr__" = some none)) rfl)
  have hdE19 : PySem.W.hasDictIn K (He.ga K "Leaned") = true := c.fact 347 (b := PySem.W.hasDictIn K (He.ga K "Leaned")) rfl
  have icE19 : PySem.W.findIn K (.ref (He.ga K "Leaned")) "__class__" = some (some (.builtin "object.__class__")) := of_decide_eq_true (c.fact 348 (b := decide (PySem.W.findIn K (.ref (He.ga K "Leaned")) "__class__" = some (some (.builtin "object.__class__")))) rfl)
  have imE19 : PySem.W.mroIn K (He.ga K "Leaned") (.type "object") = some true := of_decide_eq_true (c.fact 349 (b := decide (PySem.W.mroIn K (He.ga K "Leaned") (.type "object") = some true)) rfl)
  have noE19 : PySem.W.findIn K (.ref (He.ga K "Leaned")) "name" = some none := of_decide_eq_true (c.fact 350 (b := decide (PySem.W.findIn K (.ref (He.ga K "Leaned")) "name" = some none)) rfl)
  have aE20 : PySem.W.nsIn K mainGlobals "BadCosts" = some (some (.ref (He.ga K "BadCosts"))) := of_decide_eq_true (c.fact 351 (b := decide (PySem.W.nsIn K mainGlobals "BadCosts" = some (some (.ref (He.ga K "BadCosts"))))) rfl)
  obtain ⟨_, _, _, _, _, _, _, _, _, _, _, _, _, _, xE20⟩ := isExcO_ok (c.fact 352 (b := isExcO (K.lookup (He.ga K "BadCosts")) (He.ga K "BadCosts") [.ref (He.ga K "DeedError"), .type "ValueError", .type "Exception", .type "BaseException", .type "object"]) rfl)
  have saE20 : PySem.W.findIn K (.ref (He.ga K "BadCosts")) "__setattr__" = some (some (.builtin "object.__setattr__")) := of_decide_eq_true (c.fact 353 (b := decide (PySem.W.findIn K (.ref (He.ga K "BadCosts")) "__setattr__" = some (some (.builtin "object.__setattr__")))) rfl)
  have exE20 : PySem.W.subIn K (.ref (He.ga K "BadCosts")) (.type "BaseException") = some true := of_decide_eq_true (c.fact 354 (b := decide (PySem.W.subIn K (.ref (He.ga K "BadCosts")) (.type "BaseException") = some true)) rfl)
  have tyE20 : PySem.W.typeIn K (.ref (He.ga K "BadCosts")) = some (.type "type") := of_decide_eq_true (c.fact 355 (b := decide (PySem.W.typeIn K (.ref (He.ga K "BadCosts")) = some (.type "type"))) rfl)
  have kcE20 : PySem.W.keepIn K (.ref (He.ga K "BadCosts")) = true := c.fact 356 (b := PySem.W.keepIn K (.ref (He.ga K "BadCosts"))) rfl
  have clE20 : PySem.W.isClsIn K (He.ga K "BadCosts") = true := c.fact 357 (b := PySem.W.isClsIn K (He.ga K "BadCosts")) rfl
  have tfE20 : PySem.W.typeIn K (.ref (He.ma K (He.ga K "BadCosts") "__init__")) = some (.type "function") := of_decide_eq_true (c.fact 358 (b := decide (PySem.W.typeIn K (.ref (He.ma K (He.ga K "BadCosts") "__init__")) = some (.type "function"))) rfl)
  have gaE20 : PySem.W.findIn K (.ref (He.ga K "BadCosts")) "__getattribute__" = some (some (.builtin "BaseException.__getattribute__")) := of_decide_eq_true (c.fact 359 (b := decide (PySem.W.findIn K (.ref (He.ga K "BadCosts")) "__getattribute__" = some (some (.builtin "BaseException.__getattribute__")))) rfl)
  have ggE20 : PySem.W.findIn K (.ref (He.ga K "BadCosts")) "__getattr__" = some none := of_decide_eq_true (c.fact 360 (b := decide (PySem.W.findIn K (.ref (He.ga K "BadCosts")) "__getattr__" = some none)) rfl)
  have hdE20 : PySem.W.hasDictIn K (He.ga K "BadCosts") = true := c.fact 361 (b := PySem.W.hasDictIn K (He.ga K "BadCosts")) rfl
  have icE20 : PySem.W.findIn K (.ref (He.ga K "BadCosts")) "__class__" = some (some (.builtin "object.__class__")) := of_decide_eq_true (c.fact 362 (b := decide (PySem.W.findIn K (.ref (He.ga K "BadCosts")) "__class__" = some (some (.builtin "object.__class__")))) rfl)
  have imE20 : PySem.W.mroIn K (He.ga K "BadCosts") (.type "object") = some true := of_decide_eq_true (c.fact 363 (b := decide (PySem.W.mroIn K (He.ga K "BadCosts") (.type "object") = some true)) rfl)
  have noE20 : PySem.W.findIn K (.ref (He.ga K "BadCosts")) "name" = some none := of_decide_eq_true (c.fact 364 (b := decide (PySem.W.findIn K (.ref (He.ga K "BadCosts")) "name" = some none)) rfl)
  have aE21 : PySem.W.nsIn K mainGlobals "BadWeights" = some (some (.ref (He.ga K "BadWeights"))) := of_decide_eq_true (c.fact 365 (b := decide (PySem.W.nsIn K mainGlobals "BadWeights" = some (some (.ref (He.ga K "BadWeights"))))) rfl)
  obtain ⟨_, _, _, _, _, _, _, _, _, _, _, _, _, _, xE21⟩ := isExcO_ok (c.fact 366 (b := isExcO (K.lookup (He.ga K "BadWeights")) (He.ga K "BadWeights") [.ref (He.ga K "DeedError"), .type "ValueError", .type "Exception", .type "BaseException", .type "object"]) rfl)
  have saE21 : PySem.W.findIn K (.ref (He.ga K "BadWeights")) "__setattr__" = some (some (.builtin "object.__setattr__")) := of_decide_eq_true (c.fact 367 (b := decide (PySem.W.findIn K (.ref (He.ga K "BadWeights")) "__setattr__" = some (some (.builtin "object.__setattr__")))) rfl)
  have exE21 : PySem.W.subIn K (.ref (He.ga K "BadWeights")) (.type "BaseException") = some true := of_decide_eq_true (c.fact 368 (b := decide (PySem.W.subIn K (.ref (He.ga K "BadWeights")) (.type "BaseException") = some true)) rfl)
  have tyE21 : PySem.W.typeIn K (.ref (He.ga K "BadWeights")) = some (.type "type") := of_decide_eq_true (c.fact 369 (b := decide (PySem.W.typeIn K (.ref (He.ga K "BadWeights")) = some (.type "type"))) rfl)
  have kcE21 : PySem.W.keepIn K (.ref (He.ga K "BadWeights")) = true := c.fact 370 (b := PySem.W.keepIn K (.ref (He.ga K "BadWeights"))) rfl
  have clE21 : PySem.W.isClsIn K (He.ga K "BadWeights") = true := c.fact 371 (b := PySem.W.isClsIn K (He.ga K "BadWeights")) rfl
  have tfE21 : PySem.W.typeIn K (.ref (He.ma K (He.ga K "BadWeights") "__init__")) = some (.type "function") := of_decide_eq_true (c.fact 372 (b := decide (PySem.W.typeIn K (.ref (He.ma K (He.ga K "BadWeights") "__init__")) = some (.type "function"))) rfl)
  have gaE21 : PySem.W.findIn K (.ref (He.ga K "BadWeights")) "__getattribute__" = some (some (.builtin "BaseException.__getattribute__")) := of_decide_eq_true (c.fact 373 (b := decide (PySem.W.findIn K (.ref (He.ga K "BadWeights")) "__getattribute__" = some (some (.builtin "BaseException.__getattribute__")))) rfl)
  have ggE21 : PySem.W.findIn K (.ref (He.ga K "BadWeights")) "__getattr__" = some none := of_decide_eq_true (c.fact 374 (b := decide (PySem.W.findIn K (.ref (He.ga K "BadWeights")) "__getattr__" = some none)) rfl)
  have hdE21 : PySem.W.hasDictIn K (He.ga K "BadWeights") = true := c.fact 375 (b := PySem.W.hasDictIn K (He.ga K "BadWeights")) rfl
  have icE21 : PySem.W.findIn K (.ref (He.ga K "BadWeights")) "__class__" = some (some (.builtin "object.__class__")) := of_decide_eq_true (c.fact 376 (b := decide (PySem.W.findIn K (.ref (He.ga K "BadWeights")) "__class__" = some (some (.builtin "object.__class__")))) rfl)
  have imE21 : PySem.W.mroIn K (He.ga K "BadWeights") (.type "object") = some true := of_decide_eq_true (c.fact 377 (b := decide (PySem.W.mroIn K (He.ga K "BadWeights") (.type "object") = some true)) rfl)
  have noE21 : PySem.W.findIn K (.ref (He.ga K "BadWeights")) "name" = some none := of_decide_eq_true (c.fact 378 (b := decide (PySem.W.findIn K (.ref (He.ga K "BadWeights")) "name" = some none)) rfl)
  have aE22 : PySem.W.nsIn K mainGlobals "BadEquation" = some (some (.ref (He.ga K "BadEquation"))) := of_decide_eq_true (c.fact 379 (b := decide (PySem.W.nsIn K mainGlobals "BadEquation" = some (some (.ref (He.ga K "BadEquation"))))) rfl)
  obtain ⟨_, _, _, _, _, _, _, _, _, _, _, _, _, _, xE22⟩ := isExcO_ok (c.fact 380 (b := isExcO (K.lookup (He.ga K "BadEquation")) (He.ga K "BadEquation") [.ref (He.ga K "DeedError"), .type "ValueError", .type "Exception", .type "BaseException", .type "object"]) rfl)
  have saE22 : PySem.W.findIn K (.ref (He.ga K "BadEquation")) "__setattr__" = some (some (.builtin "object.__setattr__")) := of_decide_eq_true (c.fact 381 (b := decide (PySem.W.findIn K (.ref (He.ga K "BadEquation")) "__setattr__" = some (some (.builtin "object.__setattr__")))) rfl)
  have exE22 : PySem.W.subIn K (.ref (He.ga K "BadEquation")) (.type "BaseException") = some true := of_decide_eq_true (c.fact 382 (b := decide (PySem.W.subIn K (.ref (He.ga K "BadEquation")) (.type "BaseException") = some true)) rfl)
  have tyE22 : PySem.W.typeIn K (.ref (He.ga K "BadEquation")) = some (.type "type") := of_decide_eq_true (c.fact 383 (b := decide (PySem.W.typeIn K (.ref (He.ga K "BadEquation")) = some (.type "type"))) rfl)
  have kcE22 : PySem.W.keepIn K (.ref (He.ga K "BadEquation")) = true := c.fact 384 (b := PySem.W.keepIn K (.ref (He.ga K "BadEquation"))) rfl
  have clE22 : PySem.W.isClsIn K (He.ga K "BadEquation") = true := c.fact 385 (b := PySem.W.isClsIn K (He.ga K "BadEquation")) rfl
  have tfE22 : PySem.W.typeIn K (.ref (He.ma K (He.ga K "BadEquation") "__init__")) = some (.type "function") := of_decide_eq_true (c.fact 386 (b := decide (PySem.W.typeIn K (.ref (He.ma K (He.ga K "BadEquation") "__init__")) = some (.type "function"))) rfl)
  have gaE22 : PySem.W.findIn K (.ref (He.ga K "BadEquation")) "__getattribute__" = some (some (.builtin "BaseException.__getattribute__")) := of_decide_eq_true (c.fact 387 (b := decide (PySem.W.findIn K (.ref (He.ga K "BadEquation")) "__getattribute__" = some (some (.builtin "BaseException.__getattribute__")))) rfl)
  have ggE22 : PySem.W.findIn K (.ref (He.ga K "BadEquation")) "__getattr__" = some none := of_decide_eq_true (c.fact 388 (b := decide (PySem.W.findIn K (.ref (He.ga K "BadEquation")) "__getattr__" = some none)) rfl)
  have hdE22 : PySem.W.hasDictIn K (He.ga K "BadEquation") = true := c.fact 389 (b := PySem.W.hasDictIn K (He.ga K "BadEquation")) rfl
  have icE22 : PySem.W.findIn K (.ref (He.ga K "BadEquation")) "__class__" = some (some (.builtin "object.__class__")) := of_decide_eq_true (c.fact 390 (b := decide (PySem.W.findIn K (.ref (He.ga K "BadEquation")) "__class__" = some (some (.builtin "object.__class__")))) rfl)
  have imE22 : PySem.W.mroIn K (He.ga K "BadEquation") (.type "object") = some true := of_decide_eq_true (c.fact 391 (b := decide (PySem.W.mroIn K (He.ga K "BadEquation") (.type "object") = some true)) rfl)
  have noE22 : PySem.W.findIn K (.ref (He.ga K "BadEquation")) "name" = some none := of_decide_eq_true (c.fact 392 (b := decide (PySem.W.findIn K (.ref (He.ga K "BadEquation")) "name" = some none)) rfl)
  have aE23 : PySem.W.nsIn K mainGlobals "BadTerm" = some (some (.ref (He.ga K "BadTerm"))) := of_decide_eq_true (c.fact 393 (b := decide (PySem.W.nsIn K mainGlobals "BadTerm" = some (some (.ref (He.ga K "BadTerm"))))) rfl)
  obtain ⟨_, _, _, _, _, _, _, _, _, _, _, _, _, _, xE23⟩ := isExcO_ok (c.fact 394 (b := isExcO (K.lookup (He.ga K "BadTerm")) (He.ga K "BadTerm") [.ref (He.ga K "DeedError"), .type "ValueError", .type "Exception", .type "BaseException", .type "object"]) rfl)
  have saE23 : PySem.W.findIn K (.ref (He.ga K "BadTerm")) "__setattr__" = some (some (.builtin "object.__setattr__")) := of_decide_eq_true (c.fact 395 (b := decide (PySem.W.findIn K (.ref (He.ga K "BadTerm")) "__setattr__" = some (some (.builtin "object.__setattr__")))) rfl)
  have exE23 : PySem.W.subIn K (.ref (He.ga K "BadTerm")) (.type "BaseException") = some true := of_decide_eq_true (c.fact 396 (b := decide (PySem.W.subIn K (.ref (He.ga K "BadTerm")) (.type "BaseException") = some true)) rfl)
  have tyE23 : PySem.W.typeIn K (.ref (He.ga K "BadTerm")) = some (.type "type") := of_decide_eq_true (c.fact 397 (b := decide (PySem.W.typeIn K (.ref (He.ga K "BadTerm")) = some (.type "type"))) rfl)
  have kcE23 : PySem.W.keepIn K (.ref (He.ga K "BadTerm")) = true := c.fact 398 (b := PySem.W.keepIn K (.ref (He.ga K "BadTerm"))) rfl
  have clE23 : PySem.W.isClsIn K (He.ga K "BadTerm") = true := c.fact 399 (b := PySem.W.isClsIn K (He.ga K "BadTerm")) rfl
  have tfE23 : PySem.W.typeIn K (.ref (He.ma K (He.ga K "BadTerm") "__init__")) = some (.type "function") := of_decide_eq_true (c.fact 400 (b := decide (PySem.W.typeIn K (.ref (He.ma K (He.ga K "BadTerm") "__init__")) = some (.type "function"))) rfl)
  have gaE23 : PySem.W.findIn K (.ref (He.ga K "BadTerm")) "__getattribute__" = some (some (.builtin "BaseException.__getattribute__")) := of_decide_eq_true (c.fact 401 (b := decide (PySem.W.findIn K (.ref (He.ga K "BadTerm")) "__getattribute__" = some (some (.builtin "BaseException.__getattribute__")))) rfl)
  have ggE23 : PySem.W.findIn K (.ref (He.ga K "BadTerm")) "__getattr__" = some none := of_decide_eq_true (c.fact 402 (b := decide (PySem.W.findIn K (.ref (He.ga K "BadTerm")) "__getattr__" = some none)) rfl)
  have hdE23 : PySem.W.hasDictIn K (He.ga K "BadTerm") = true := c.fact 403 (b := PySem.W.hasDictIn K (He.ga K "BadTerm")) rfl
  have icE23 : PySem.W.findIn K (.ref (He.ga K "BadTerm")) "__class__" = some (some (.builtin "object.__class__")) := of_decide_eq_true (c.fact 404 (b := decide (PySem.W.findIn K (.ref (He.ga K "BadTerm")) "__class__" = some (some (.builtin "object.__class__")))) rfl)
  have imE23 : PySem.W.mroIn K (He.ga K "BadTerm") (.type "object") = some true := of_decide_eq_true (c.fact 405 (b := decide (PySem.W.mroIn K (He.ga K "BadTerm") (.type "object") = some true)) rfl)
  have noE23 : PySem.W.findIn K (.ref (He.ga K "BadTerm")) "index" = some none := of_decide_eq_true (c.fact 406 (b := decide (PySem.W.findIn K (.ref (He.ga K "BadTerm")) "index" = some none)) rfl)
  have aE24 : PySem.W.nsIn K mainGlobals "BadPromise" = some (some (.ref (He.ga K "BadPromise"))) := of_decide_eq_true (c.fact 407 (b := decide (PySem.W.nsIn K mainGlobals "BadPromise" = some (some (.ref (He.ga K "BadPromise"))))) rfl)
  obtain ⟨_, _, _, _, _, _, _, _, _, _, _, _, _, _, xE24⟩ := isExcO_ok (c.fact 408 (b := isExcO (K.lookup (He.ga K "BadPromise")) (He.ga K "BadPromise") [.ref (He.ga K "DeedError"), .type "ValueError", .type "Exception", .type "BaseException", .type "object"]) rfl)
  have saE24 : PySem.W.findIn K (.ref (He.ga K "BadPromise")) "__setattr__" = some (some (.builtin "object.__setattr__")) := of_decide_eq_true (c.fact 409 (b := decide (PySem.W.findIn K (.ref (He.ga K "BadPromise")) "__setattr__" = some (some (.builtin "object.__setattr__")))) rfl)
  have exE24 : PySem.W.subIn K (.ref (He.ga K "BadPromise")) (.type "BaseException") = some true := of_decide_eq_true (c.fact 410 (b := decide (PySem.W.subIn K (.ref (He.ga K "BadPromise")) (.type "BaseException") = some true)) rfl)
  have tyE24 : PySem.W.typeIn K (.ref (He.ga K "BadPromise")) = some (.type "type") := of_decide_eq_true (c.fact 411 (b := decide (PySem.W.typeIn K (.ref (He.ga K "BadPromise")) = some (.type "type"))) rfl)
  have kcE24 : PySem.W.keepIn K (.ref (He.ga K "BadPromise")) = true := c.fact 412 (b := PySem.W.keepIn K (.ref (He.ga K "BadPromise"))) rfl
  have clE24 : PySem.W.isClsIn K (He.ga K "BadPromise") = true := c.fact 413 (b := PySem.W.isClsIn K (He.ga K "BadPromise")) rfl
  have tfE24 : PySem.W.typeIn K (.ref (He.ma K (He.ga K "BadPromise") "__init__")) = some (.type "function") := of_decide_eq_true (c.fact 414 (b := decide (PySem.W.typeIn K (.ref (He.ma K (He.ga K "BadPromise") "__init__")) = some (.type "function"))) rfl)
  have gaE24 : PySem.W.findIn K (.ref (He.ga K "BadPromise")) "__getattribute__" = some (some (.builtin "BaseException.__getattribute__")) := of_decide_eq_true (c.fact 415 (b := decide (PySem.W.findIn K (.ref (He.ga K "BadPromise")) "__getattribute__" = some (some (.builtin "BaseException.__getattribute__")))) rfl)
  have ggE24 : PySem.W.findIn K (.ref (He.ga K "BadPromise")) "__getattr__" = some none := of_decide_eq_true (c.fact 416 (b := decide (PySem.W.findIn K (.ref (He.ga K "BadPromise")) "__getattr__" = some none)) rfl)
  have hdE24 : PySem.W.hasDictIn K (He.ga K "BadPromise") = true := c.fact 417 (b := PySem.W.hasDictIn K (He.ga K "BadPromise")) rfl
  have icE24 : PySem.W.findIn K (.ref (He.ga K "BadPromise")) "__class__" = some (some (.builtin "object.__class__")) := of_decide_eq_true (c.fact 418 (b := decide (PySem.W.findIn K (.ref (He.ga K "BadPromise")) "__class__" = some (some (.builtin "object.__class__")))) rfl)
  have imE24 : PySem.W.mroIn K (He.ga K "BadPromise") (.type "object") = some true := of_decide_eq_true (c.fact 419 (b := decide (PySem.W.mroIn K (He.ga K "BadPromise") (.type "object") = some true)) rfl)
  have noE24 : PySem.W.findIn K (.ref (He.ga K "BadPromise")) "index" = some none := of_decide_eq_true (c.fact 420 (b := decide (PySem.W.findIn K (.ref (He.ga K "BadPromise")) "index" = some none)) rfl)
  have aE25 : PySem.W.nsIn K mainGlobals "BadLine" = some (some (.ref (He.ga K "BadLine"))) := of_decide_eq_true (c.fact 421 (b := decide (PySem.W.nsIn K mainGlobals "BadLine" = some (some (.ref (He.ga K "BadLine"))))) rfl)
  obtain ⟨_, _, _, _, _, _, _, _, _, _, _, _, _, _, xE25⟩ := isExcO_ok (c.fact 422 (b := isExcO (K.lookup (He.ga K "BadLine")) (He.ga K "BadLine") [.ref (He.ga K "DeedError"), .type "ValueError", .type "Exception", .type "BaseException", .type "object"]) rfl)
  have saE25 : PySem.W.findIn K (.ref (He.ga K "BadLine")) "__setattr__" = some (some (.builtin "object.__setattr__")) := of_decide_eq_true (c.fact 423 (b := decide (PySem.W.findIn K (.ref (He.ga K "BadLine")) "__setattr__" = some (some (.builtin "object.__setattr__")))) rfl)
  have exE25 : PySem.W.subIn K (.ref (He.ga K "BadLine")) (.type "BaseException") = some true := of_decide_eq_true (c.fact 424 (b := decide (PySem.W.subIn K (.ref (He.ga K "BadLine")) (.type "BaseException") = some true)) rfl)
  have tyE25 : PySem.W.typeIn K (.ref (He.ga K "BadLine")) = some (.type "type") := of_decide_eq_true (c.fact 425 (b := decide (PySem.W.typeIn K (.ref (He.ga K "BadLine")) = some (.type "type"))) rfl)
  have kcE25 : PySem.W.keepIn K (.ref (He.ga K "BadLine")) = true := c.fact 426 (b := PySem.W.keepIn K (.ref (He.ga K "BadLine"))) rfl
  have clE25 : PySem.W.isClsIn K (He.ga K "BadLine") = true := c.fact 427 (b := PySem.W.isClsIn K (He.ga K "BadLine")) rfl
  have tfE25 : PySem.W.typeIn K (.ref (He.ma K (He.ga K "BadLine") "__init__")) = some (.type "function") := of_decide_eq_true (c.fact 428 (b := decide (PySem.W.typeIn K (.ref (He.ma K (He.ga K "BadLine") "__init__")) = some (.type "function"))) rfl)
  have gaE25 : PySem.W.findIn K (.ref (He.ga K "BadLine")) "__getattribute__" = some (some (.builtin "BaseException.__getattribute__")) := of_decide_eq_true (c.fact 429 (b := decide (PySem.W.findIn K (.ref (He.ga K "BadLine")) "__getattribute__" = some (some (.builtin "BaseException.__getattribute__")))) rfl)
  have ggE25 : PySem.W.findIn K (.ref (He.ga K "BadLine")) "__getattr__" = some none := of_decide_eq_true (c.fact 430 (b := decide (PySem.W.findIn K (.ref (He.ga K "BadLine")) "__getattr__" = some none)) rfl)
  have hdE25 : PySem.W.hasDictIn K (He.ga K "BadLine") = true := c.fact 431 (b := PySem.W.hasDictIn K (He.ga K "BadLine")) rfl
  have icE25 : PySem.W.findIn K (.ref (He.ga K "BadLine")) "__class__" = some (some (.builtin "object.__class__")) := of_decide_eq_true (c.fact 432 (b := decide (PySem.W.findIn K (.ref (He.ga K "BadLine")) "__class__" = some (some (.builtin "object.__class__")))) rfl)
  have imE25 : PySem.W.mroIn K (He.ga K "BadLine") (.type "object") = some true := of_decide_eq_true (c.fact 433 (b := decide (PySem.W.mroIn K (He.ga K "BadLine") (.type "object") = some true)) rfl)
  have noE25 : PySem.W.findIn K (.ref (He.ga K "BadLine")) "index" = some none := of_decide_eq_true (c.fact 434 (b := decide (PySem.W.findIn K (.ref (He.ga K "BadLine")) "index" = some none)) rfl)
  have aE26 : PySem.W.nsIn K mainGlobals "BadBar" = some (some (.ref (He.ga K "BadBar"))) := of_decide_eq_true (c.fact 435 (b := decide (PySem.W.nsIn K mainGlobals "BadBar" = some (some (.ref (He.ga K "BadBar"))))) rfl)
  obtain ⟨_, _, _, _, _, _, _, _, _, _, _, _, _, _, xE26⟩ := isExcO_ok (c.fact 436 (b := isExcO (K.lookup (He.ga K "BadBar")) (He.ga K "BadBar") [.ref (He.ga K "DeedError"), .type "ValueError", .type "Exception", .type "BaseException", .type "object"]) rfl)
  have saE26 : PySem.W.findIn K (.ref (He.ga K "BadBar")) "__setattr__" = some (some (.builtin "object.__setattr__")) := of_decide_eq_true (c.fact 437 (b := decide (PySem.W.findIn K (.ref (He.ga K "BadBar")) "__setattr__" = some (some (.builtin "object.__setattr__")))) rfl)
  have exE26 : PySem.W.subIn K (.ref (He.ga K "BadBar")) (.type "BaseException") = some true := of_decide_eq_true (c.fact 438 (b := decide (PySem.W.subIn K (.ref (He.ga K "BadBar")) (.type "BaseException") = some true)) rfl)
  have tyE26 : PySem.W.typeIn K (.ref (He.ga K "BadBar")) = some (.type "type") := of_decide_eq_true (c.fact 439 (b := decide (PySem.W.typeIn K (.ref (He.ga K "BadBar")) = some (.type "type"))) rfl)
  have kcE26 : PySem.W.keepIn K (.ref (He.ga K "BadBar")) = true := c.fact 440 (b := PySem.W.keepIn K (.ref (He.ga K "BadBar"))) rfl
  have clE26 : PySem.W.isClsIn K (He.ga K "BadBar") = true := c.fact 441 (b := PySem.W.isClsIn K (He.ga K "BadBar")) rfl
  have tfE26 : PySem.W.typeIn K (.ref (He.ma K (He.ga K "BadBar") "__init__")) = some (.type "function") := of_decide_eq_true (c.fact 442 (b := decide (PySem.W.typeIn K (.ref (He.ma K (He.ga K "BadBar") "__init__")) = some (.type "function"))) rfl)
  have gaE26 : PySem.W.findIn K (.ref (He.ga K "BadBar")) "__getattribute__" = some (some (.builtin "BaseException.__getattribute__")) := of_decide_eq_true (c.fact 443 (b := decide (PySem.W.findIn K (.ref (He.ga K "BadBar")) "__getattribute__" = some (some (.builtin "BaseException.__getattribute__")))) rfl)
  have ggE26 : PySem.W.findIn K (.ref (He.ga K "BadBar")) "__getattr__" = some none := of_decide_eq_true (c.fact 444 (b := decide (PySem.W.findIn K (.ref (He.ga K "BadBar")) "__getattr__" = some none)) rfl)
  have hdE26 : PySem.W.hasDictIn K (He.ga K "BadBar") = true := c.fact 445 (b := PySem.W.hasDictIn K (He.ga K "BadBar")) rfl
  have icE26 : PySem.W.findIn K (.ref (He.ga K "BadBar")) "__class__" = some (some (.builtin "object.__class__")) := of_decide_eq_true (c.fact 446 (b := decide (PySem.W.findIn K (.ref (He.ga K "BadBar")) "__class__" = some (some (.builtin "object.__class__")))) rfl)
  have imE26 : PySem.W.mroIn K (He.ga K "BadBar") (.type "object") = some true := of_decide_eq_true (c.fact 447 (b := decide (PySem.W.mroIn K (He.ga K "BadBar") (.type "object") = some true)) rfl)
  have noE26 : PySem.W.findIn K (.ref (He.ga K "BadBar")) "index" = some none := of_decide_eq_true (c.fact 448 (b := decide (PySem.W.findIn K (.ref (He.ga K "BadBar")) "index" = some none)) rfl)
  have aE27 : PySem.W.nsIn K mainGlobals "Broken" = some (some (.ref (He.ga K "Broken"))) := of_decide_eq_true (c.fact 449 (b := decide (PySem.W.nsIn K mainGlobals "Broken" = some (some (.ref (He.ga K "Broken"))))) rfl)
  obtain ⟨_, _, _, _, _, _, _, _, _, _, _, _, _, _, xE27⟩ := isExcO_ok (c.fact 450 (b := isExcO (K.lookup (He.ga K "Broken")) (He.ga K "Broken") [.ref (He.ga K "DeedError"), .type "ValueError", .type "Exception", .type "BaseException", .type "object"]) rfl)
  have saE27 : PySem.W.findIn K (.ref (He.ga K "Broken")) "__setattr__" = some (some (.builtin "object.__setattr__")) := of_decide_eq_true (c.fact 451 (b := decide (PySem.W.findIn K (.ref (He.ga K "Broken")) "__setattr__" = some (some (.builtin "object.__setattr__")))) rfl)
  have exE27 : PySem.W.subIn K (.ref (He.ga K "Broken")) (.type "BaseException") = some true := of_decide_eq_true (c.fact 452 (b := decide (PySem.W.subIn K (.ref (He.ga K "Broken")) (.type "BaseException") = some true)) rfl)
  have tyE27 : PySem.W.typeIn K (.ref (He.ga K "Broken")) = some (.type "type") := of_decide_eq_true (c.fact 453 (b := decide (PySem.W.typeIn K (.ref (He.ga K "Broken")) = some (.type "type"))) rfl)
  have kcE27 : PySem.W.keepIn K (.ref (He.ga K "Broken")) = true := c.fact 454 (b := PySem.W.keepIn K (.ref (He.ga K "Broken"))) rfl
  have clE27 : PySem.W.isClsIn K (He.ga K "Broken") = true := c.fact 455 (b := PySem.W.isClsIn K (He.ga K "Broken")) rfl
  have tfE27 : PySem.W.typeIn K (.ref (He.ma K (He.ga K "Broken") "__init__")) = some (.type "function") := of_decide_eq_true (c.fact 456 (b := decide (PySem.W.typeIn K (.ref (He.ma K (He.ga K "Broken") "__init__")) = some (.type "function"))) rfl)
  have gaE27 : PySem.W.findIn K (.ref (He.ga K "Broken")) "__getattribute__" = some (some (.builtin "BaseException.__getattribute__")) := of_decide_eq_true (c.fact 457 (b := decide (PySem.W.findIn K (.ref (He.ga K "Broken")) "__getattribute__" = some (some (.builtin "BaseException.__getattribute__")))) rfl)
  have ggE27 : PySem.W.findIn K (.ref (He.ga K "Broken")) "__getattr__" = some none := of_decide_eq_true (c.fact 458 (b := decide (PySem.W.findIn K (.ref (He.ga K "Broken")) "__getattr__" = some none)) rfl)
  have hdE27 : PySem.W.hasDictIn K (He.ga K "Broken") = true := c.fact 459 (b := PySem.W.hasDictIn K (He.ga K "Broken")) rfl
  have icE27 : PySem.W.findIn K (.ref (He.ga K "Broken")) "__class__" = some (some (.builtin "object.__class__")) := of_decide_eq_true (c.fact 460 (b := decide (PySem.W.findIn K (.ref (He.ga K "Broken")) "__class__" = some (some (.builtin "object.__class__")))) rfl)
  have imE27 : PySem.W.mroIn K (He.ga K "Broken") (.type "object") = some true := of_decide_eq_true (c.fact 461 (b := decide (PySem.W.mroIn K (He.ga K "Broken") (.type "object") = some true)) rfl)
  have noE27 : PySem.W.findIn K (.ref (He.ga K "Broken")) "promise" = some none := of_decide_eq_true (c.fact 462 (b := decide (PySem.W.findIn K (.ref (He.ga K "Broken")) "promise" = some none)) rfl)
  have aE28 : PySem.W.nsIn K mainGlobals "Refused" = some (some (.ref (He.ga K "Refused"))) := of_decide_eq_true (c.fact 463 (b := decide (PySem.W.nsIn K mainGlobals "Refused" = some (some (.ref (He.ga K "Refused"))))) rfl)
  obtain ⟨_, _, _, _, _, _, _, _, _, _, _, _, _, _, xE28⟩ := isExcO_ok (c.fact 464 (b := isExcO (K.lookup (He.ga K "Refused")) (He.ga K "Refused") [.ref (He.ga K "DeedError"), .type "ValueError", .type "Exception", .type "BaseException", .type "object"]) rfl)
  have saE28 : PySem.W.findIn K (.ref (He.ga K "Refused")) "__setattr__" = some (some (.builtin "object.__setattr__")) := of_decide_eq_true (c.fact 465 (b := decide (PySem.W.findIn K (.ref (He.ga K "Refused")) "__setattr__" = some (some (.builtin "object.__setattr__")))) rfl)
  have exE28 : PySem.W.subIn K (.ref (He.ga K "Refused")) (.type "BaseException") = some true := of_decide_eq_true (c.fact 466 (b := decide (PySem.W.subIn K (.ref (He.ga K "Refused")) (.type "BaseException") = some true)) rfl)
  have tyE28 : PySem.W.typeIn K (.ref (He.ga K "Refused")) = some (.type "type") := of_decide_eq_true (c.fact 467 (b := decide (PySem.W.typeIn K (.ref (He.ga K "Refused")) = some (.type "type"))) rfl)
  have kcE28 : PySem.W.keepIn K (.ref (He.ga K "Refused")) = true := c.fact 468 (b := PySem.W.keepIn K (.ref (He.ga K "Refused"))) rfl
  have clE28 : PySem.W.isClsIn K (He.ga K "Refused") = true := c.fact 469 (b := PySem.W.isClsIn K (He.ga K "Refused")) rfl
  have tfE28 : PySem.W.typeIn K (.ref (He.ma K (He.ga K "Refused") "__init__")) = some (.type "function") := of_decide_eq_true (c.fact 470 (b := decide (PySem.W.typeIn K (.ref (He.ma K (He.ga K "Refused") "__init__")) = some (.type "function"))) rfl)
  have gaE28 : PySem.W.findIn K (.ref (He.ga K "Refused")) "__getattribute__" = some (some (.builtin "BaseException.__getattribute__")) := of_decide_eq_true (c.fact 471 (b := decide (PySem.W.findIn K (.ref (He.ga K "Refused")) "__getattribute__" = some (some (.builtin "BaseException.__getattribute__")))) rfl)
  have ggE28 : PySem.W.findIn K (.ref (He.ga K "Refused")) "__getattr__" = some none := of_decide_eq_true (c.fact 472 (b := decide (PySem.W.findIn K (.ref (He.ga K "Refused")) "__getattr__" = some none)) rfl)
  have hdE28 : PySem.W.hasDictIn K (He.ga K "Refused") = true := c.fact 473 (b := PySem.W.hasDictIn K (He.ga K "Refused")) rfl
  have icE28 : PySem.W.findIn K (.ref (He.ga K "Refused")) "__class__" = some (some (.builtin "object.__class__")) := of_decide_eq_true (c.fact 474 (b := decide (PySem.W.findIn K (.ref (He.ga K "Refused")) "__class__" = some (some (.builtin "object.__class__")))) rfl)
  have imE28 : PySem.W.mroIn K (He.ga K "Refused") (.type "object") = some true := of_decide_eq_true (c.fact 475 (b := decide (PySem.W.mroIn K (He.ga K "Refused") (.type "object") = some true)) rfl)
  have noE28 : PySem.W.findIn K (.ref (He.ga K "Refused")) "row" = some none := of_decide_eq_true (c.fact 476 (b := decide (PySem.W.findIn K (.ref (He.ga K "Refused")) "row" = some none)) rfl)
  have aE29 : PySem.W.nsIn K mainGlobals "UnlikeBooks" = some (some (.ref (He.ga K "UnlikeBooks"))) := of_decide_eq_true (c.fact 477 (b := decide (PySem.W.nsIn K mainGlobals "UnlikeBooks" = some (some (.ref (He.ga K "UnlikeBooks"))))) rfl)
  obtain ⟨_, _, _, _, _, _, _, _, _, _, _, _, _, _, xE29⟩ := isExcO_ok (c.fact 478 (b := isExcO (K.lookup (He.ga K "UnlikeBooks")) (He.ga K "UnlikeBooks") [.ref (He.ga K "DeedError"), .type "ValueError", .type "Exception", .type "BaseException", .type "object"]) rfl)
  have saE29 : PySem.W.findIn K (.ref (He.ga K "UnlikeBooks")) "__setattr__" = some (some (.builtin "object.__setattr__")) := of_decide_eq_true (c.fact 479 (b := decide (PySem.W.findIn K (.ref (He.ga K "UnlikeBooks")) "__setattr__" = some (some (.builtin "object.__setattr__")))) rfl)
  have exE29 : PySem.W.subIn K (.ref (He.ga K "UnlikeBooks")) (.type "BaseException") = some true := of_decide_eq_true (c.fact 480 (b := decide (PySem.W.subIn K (.ref (He.ga K "UnlikeBooks")) (.type "BaseException") = some true)) rfl)
  have tyE29 : PySem.W.typeIn K (.ref (He.ga K "UnlikeBooks")) = some (.type "type") := of_decide_eq_true (c.fact 481 (b := decide (PySem.W.typeIn K (.ref (He.ga K "UnlikeBooks")) = some (.type "type"))) rfl)
  have kcE29 : PySem.W.keepIn K (.ref (He.ga K "UnlikeBooks")) = true := c.fact 482 (b := PySem.W.keepIn K (.ref (He.ga K "UnlikeBooks"))) rfl
  have clE29 : PySem.W.isClsIn K (He.ga K "UnlikeBooks") = true := c.fact 483 (b := PySem.W.isClsIn K (He.ga K "UnlikeBooks")) rfl
  have tfE29 : PySem.W.typeIn K (.ref (He.ma K (He.ga K "UnlikeBooks") "__init__")) = some (.type "function") := of_decide_eq_true (c.fact 484 (b := decide (PySem.W.typeIn K (.ref (He.ma K (He.ga K "UnlikeBooks") "__init__")) = some (.type "function"))) rfl)
  have gaE29 : PySem.W.findIn K (.ref (He.ga K "UnlikeBooks")) "__getattribute__" = some (some (.builtin "BaseException.__getattribute__")) := of_decide_eq_true (c.fact 485 (b := decide (PySem.W.findIn K (.ref (He.ga K "UnlikeBooks")) "__getattribute__" = some (some (.builtin "BaseException.__getattribute__")))) rfl)
  have ggE29 : PySem.W.findIn K (.ref (He.ga K "UnlikeBooks")) "__getattr__" = some none := of_decide_eq_true (c.fact 486 (b := decide (PySem.W.findIn K (.ref (He.ga K "UnlikeBooks")) "__getattr__" = some none)) rfl)
  have hdE29 : PySem.W.hasDictIn K (He.ga K "UnlikeBooks") = true := c.fact 487 (b := PySem.W.hasDictIn K (He.ga K "UnlikeBooks")) rfl
  have icE29 : PySem.W.findIn K (.ref (He.ga K "UnlikeBooks")) "__class__" = some (some (.builtin "object.__class__")) := of_decide_eq_true (c.fact 488 (b := decide (PySem.W.findIn K (.ref (He.ga K "UnlikeBooks")) "__class__" = some (some (.builtin "object.__class__")))) rfl)
  have imE29 : PySem.W.mroIn K (He.ga K "UnlikeBooks") (.type "object") = some true := of_decide_eq_true (c.fact 489 (b := decide (PySem.W.mroIn K (He.ga K "UnlikeBooks") (.type "object") = some true)) rfl)
  have aE30 : PySem.W.nsIn K mainGlobals "BadText" = some (some (.ref (He.ga K "BadText"))) := of_decide_eq_true (c.fact 490 (b := decide (PySem.W.nsIn K mainGlobals "BadText" = some (some (.ref (He.ga K "BadText"))))) rfl)
  obtain ⟨_, _, _, _, _, _, _, _, _, _, _, _, _, _, xE30⟩ := isExcO_ok (c.fact 491 (b := isExcO (K.lookup (He.ga K "BadText")) (He.ga K "BadText") [.ref (He.ga K "DeedError"), .type "ValueError", .type "Exception", .type "BaseException", .type "object"]) rfl)
  have saE30 : PySem.W.findIn K (.ref (He.ga K "BadText")) "__setattr__" = some (some (.builtin "object.__setattr__")) := of_decide_eq_true (c.fact 492 (b := decide (PySem.W.findIn K (.ref (He.ga K "BadText")) "__setattr__" = some (some (.builtin "object.__setattr__")))) rfl)
  have exE30 : PySem.W.subIn K (.ref (He.ga K "BadText")) (.type "BaseException") = some true := of_decide_eq_true (c.fact 493 (b := decide (PySem.W.subIn K (.ref (He.ga K "BadText")) (.type "BaseException") = some true)) rfl)
  have tyE30 : PySem.W.typeIn K (.ref (He.ga K "BadText")) = some (.type "type") := of_decide_eq_true (c.fact 494 (b := decide (PySem.W.typeIn K (.ref (He.ga K "BadText")) = some (.type "type"))) rfl)
  have kcE30 : PySem.W.keepIn K (.ref (He.ga K "BadText")) = true := c.fact 495 (b := PySem.W.keepIn K (.ref (He.ga K "BadText"))) rfl
  have clE30 : PySem.W.isClsIn K (He.ga K "BadText") = true := c.fact 496 (b := PySem.W.isClsIn K (He.ga K "BadText")) rfl
  have tfE30 : PySem.W.typeIn K (.ref (He.ma K (He.ga K "BadText") "__init__")) = some (.type "function") := of_decide_eq_true (c.fact 497 (b := decide (PySem.W.typeIn K (.ref (He.ma K (He.ga K "BadText") "__init__")) = some (.type "function"))) rfl)
  have gaE30 : PySem.W.findIn K (.ref (He.ga K "BadText")) "__getattribute__" = some (some (.builtin "BaseException.__getattribute__")) := of_decide_eq_true (c.fact 498 (b := decide (PySem.W.findIn K (.ref (He.ga K "BadText")) "__getattribute__" = some (some (.builtin "BaseException.__getattribute__")))) rfl)
  have ggE30 : PySem.W.findIn K (.ref (He.ga K "BadText")) "__getattr__" = some none := of_decide_eq_true (c.fact 499 (b := decide (PySem.W.findIn K (.ref (He.ga K "BadText")) "__getattr__" = some none)) rfl)
  have hdE30 : PySem.W.hasDictIn K (He.ga K "BadText") = true := c.fact 500 (b := PySem.W.hasDictIn K (He.ga K "BadText")) rfl
  have icE30 : PySem.W.findIn K (.ref (He.ga K "BadText")) "__class__" = some (some (.builtin "object.__class__")) := of_decide_eq_true (c.fact 501 (b := decide (PySem.W.findIn K (.ref (He.ga K "BadText")) "__class__" = some (some (.builtin "object.__class__")))) rfl)
  have imE30 : PySem.W.mroIn K (He.ga K "BadText") (.type "object") = some true := of_decide_eq_true (c.fact 502 (b := decide (PySem.W.mroIn K (He.ga K "BadText") (.type "object") = some true)) rfl)
  have aE31 : PySem.W.nsIn K mainGlobals "NothingToUndo" = some (some (.ref (He.ga K "NothingToUndo"))) := of_decide_eq_true (c.fact 503 (b := decide (PySem.W.nsIn K mainGlobals "NothingToUndo" = some (some (.ref (He.ga K "NothingToUndo"))))) rfl)
  obtain ⟨_, _, _, _, _, _, _, _, _, _, _, _, _, _, xE31⟩ := isExcO_ok (c.fact 504 (b := isExcO (K.lookup (He.ga K "NothingToUndo")) (He.ga K "NothingToUndo") [.ref (He.ga K "DeedError"), .type "ValueError", .type "Exception", .type "BaseException", .type "object"]) rfl)
  have saE31 : PySem.W.findIn K (.ref (He.ga K "NothingToUndo")) "__setattr__" = some (some (.builtin "object.__setattr__")) := of_decide_eq_true (c.fact 505 (b := decide (PySem.W.findIn K (.ref (He.ga K "NothingToUndo")) "__setattr__" = some (some (.builtin "object.__setattr__")))) rfl)
  have exE31 : PySem.W.subIn K (.ref (He.ga K "NothingToUndo")) (.type "BaseException") = some true := of_decide_eq_true (c.fact 506 (b := decide (PySem.W.subIn K (.ref (He.ga K "NothingToUndo")) (.type "BaseException") = some true)) rfl)
  have tyE31 : PySem.W.typeIn K (.ref (He.ga K "NothingToUndo")) = some (.type "type") := of_decide_eq_true (c.fact 507 (b := decide (PySem.W.typeIn K (.ref (He.ga K "NothingToUndo")) = some (.type "type"))) rfl)
  have kcE31 : PySem.W.keepIn K (.ref (He.ga K "NothingToUndo")) = true := c.fact 508 (b := PySem.W.keepIn K (.ref (He.ga K "NothingToUndo"))) rfl
  have clE31 : PySem.W.isClsIn K (He.ga K "NothingToUndo") = true := c.fact 509 (b := PySem.W.isClsIn K (He.ga K "NothingToUndo")) rfl
  have tfE31 : PySem.W.typeIn K (.ref (He.ma K (He.ga K "NothingToUndo") "__init__")) = some (.type "function") := of_decide_eq_true (c.fact 510 (b := decide (PySem.W.typeIn K (.ref (He.ma K (He.ga K "NothingToUndo") "__init__")) = some (.type "function"))) rfl)
  have gaE31 : PySem.W.findIn K (.ref (He.ga K "NothingToUndo")) "__getattribute__" = some (some (.builtin "BaseException.__getattribute__")) := of_decide_eq_true (c.fact 511 (b := decide (PySem.W.findIn K (.ref (He.ga K "NothingToUndo")) "__getattribute__" = some (some (.builtin "BaseException.__getattribute__")))) rfl)
  have ggE31 : PySem.W.findIn K (.ref (He.ga K "NothingToUndo")) "__getattr__" = some none := of_decide_eq_true (c.fact 512 (b := decide (PySem.W.findIn K (.ref (He.ga K "NothingToUndo")) "__getattr__" = some none)) rfl)
  have hdE31 : PySem.W.hasDictIn K (He.ga K "NothingToUndo") = true := c.fact 513 (b := PySem.W.hasDictIn K (He.ga K "NothingToUndo")) rfl
  have icE31 : PySem.W.findIn K (.ref (He.ga K "NothingToUndo")) "__class__" = some (some (.builtin "object.__class__")) := of_decide_eq_true (c.fact 514 (b := decide (PySem.W.findIn K (.ref (He.ga K "NothingToUndo")) "__class__" = some (some (.builtin "object.__class__")))) rfl)
  have imE31 : PySem.W.mroIn K (He.ga K "NothingToUndo") (.type "object") = some true := of_decide_eq_true (c.fact 515 (b := decide (PySem.W.mroIn K (He.ga K "NothingToUndo") (.type "object") = some true)) rfl)
  have aE32 : PySem.W.nsIn K mainGlobals "NotSure" = some (some (.ref (He.ga K "NotSure"))) := of_decide_eq_true (c.fact 516 (b := decide (PySem.W.nsIn K mainGlobals "NotSure" = some (some (.ref (He.ga K "NotSure"))))) rfl)
  obtain ⟨_, _, _, _, _, _, _, _, _, _, _, _, _, _, xE32⟩ := isExcO_ok (c.fact 517 (b := isExcO (K.lookup (He.ga K "NotSure")) (He.ga K "NotSure") [.ref (He.ga K "DeedError"), .type "ValueError", .type "Exception", .type "BaseException", .type "object"]) rfl)
  have saE32 : PySem.W.findIn K (.ref (He.ga K "NotSure")) "__setattr__" = some (some (.builtin "object.__setattr__")) := of_decide_eq_true (c.fact 518 (b := decide (PySem.W.findIn K (.ref (He.ga K "NotSure")) "__setattr__" = some (some (.builtin "object.__setattr__")))) rfl)
  have exE32 : PySem.W.subIn K (.ref (He.ga K "NotSure")) (.type "BaseException") = some true := of_decide_eq_true (c.fact 519 (b := decide (PySem.W.subIn K (.ref (He.ga K "NotSure")) (.type "BaseException") = some true)) rfl)
  have tyE32 : PySem.W.typeIn K (.ref (He.ga K "NotSure")) = some (.type "type") := of_decide_eq_true (c.fact 520 (b := decide (PySem.W.typeIn K (.ref (He.ga K "NotSure")) = some (.type "type"))) rfl)
  have kcE32 : PySem.W.keepIn K (.ref (He.ga K "NotSure")) = true := c.fact 521 (b := PySem.W.keepIn K (.ref (He.ga K "NotSure"))) rfl
  have clE32 : PySem.W.isClsIn K (He.ga K "NotSure") = true := c.fact 522 (b := PySem.W.isClsIn K (He.ga K "NotSure")) rfl
  have tfE32 : PySem.W.typeIn K (.ref (He.ma K (He.ga K "NotSure") "__init__")) = some (.type "function") := of_decide_eq_true (c.fact 523 (b := decide (PySem.W.typeIn K (.ref (He.ma K (He.ga K "NotSure") "__init__")) = some (.type "function"))) rfl)
  have gaE32 : PySem.W.findIn K (.ref (He.ga K "NotSure")) "__getattribute__" = some (some (.builtin "BaseException.__getattribute__")) := of_decide_eq_true (c.fact 524 (b := decide (PySem.W.findIn K (.ref (He.ga K "NotSure")) "__getattribute__" = some (some (.builtin "BaseException.__getattribute__")))) rfl)
  have ggE32 : PySem.W.findIn K (.ref (He.ga K "NotSure")) "__getattr__" = some none := of_decide_eq_true (c.fact 525 (b := decide (PySem.W.findIn K (.ref (He.ga K "NotSure")) "__getattr__" = some none)) rfl)
  have hdE32 : PySem.W.hasDictIn K (He.ga K "NotSure") = true := c.fact 526 (b := PySem.W.hasDictIn K (He.ga K "NotSure")) rfl
  have icE32 : PySem.W.findIn K (.ref (He.ga K "NotSure")) "__class__" = some (some (.builtin "object.__class__")) := of_decide_eq_true (c.fact 527 (b := decide (PySem.W.findIn K (.ref (He.ga K "NotSure")) "__class__" = some (some (.builtin "object.__class__")))) rfl)
  have imE32 : PySem.W.mroIn K (He.ga K "NotSure") (.type "object") = some true := of_decide_eq_true (c.fact 528 (b := decide (PySem.W.mroIn K (He.ga K "NotSure") (.type "object") = some true)) rfl)
  have z_len : PySem.W.nsIn K mainGlobals "len" = some none := of_decide_eq_true (c.fact 529 (b := decide (PySem.W.nsIn K mainGlobals "len" = some none)) rfl)
  have z_sorted : PySem.W.nsIn K mainGlobals "sorted" = some none := of_decide_eq_true (c.fact 530 (b := decide (PySem.W.nsIn K mainGlobals "sorted" = some none)) rfl)
  have z_set : PySem.W.nsIn K mainGlobals "set" = some none := of_decide_eq_true (c.fact 531 (b := decide (PySem.W.nsIn K mainGlobals "set" = some none)) rfl)
  have z_str : PySem.W.nsIn K mainGlobals "str" = some none := of_decide_eq_true (c.fact 532 (b := decide (PySem.W.nsIn K mainGlobals "str" = some none)) rfl)
  have z_int : PySem.W.nsIn K mainGlobals "int" = some none := of_decide_eq_true (c.fact 533 (b := decide (PySem.W.nsIn K mainGlobals "int" = some none)) rfl)
  have z_tuple : PySem.W.nsIn K mainGlobals "tuple" = some none := of_decide_eq_true (c.fact 534 (b := decide (PySem.W.nsIn K mainGlobals "tuple" = some none)) rfl)
  have z_list : PySem.W.nsIn K mainGlobals "list" = some none := of_decide_eq_true (c.fact 535 (b := decide (PySem.W.nsIn K mainGlobals "list" = some none)) rfl)
  have z_any : PySem.W.nsIn K mainGlobals "any" = some none := of_decide_eq_true (c.fact 536 (b := decide (PySem.W.nsIn K mainGlobals "any" = some none)) rfl)
  have z_all : PySem.W.nsIn K mainGlobals "all" = some none := of_decide_eq_true (c.fact 537 (b := decide (PySem.W.nsIn K mainGlobals "all" = some none)) rfl)
  have z_isinstance : PySem.W.nsIn K mainGlobals "isinstance" = some none := of_decide_eq_true (c.fact 538 (b := decide (PySem.W.nsIn K mainGlobals "isinstance" = some none)) rfl)
  have z_range : PySem.W.nsIn K mainGlobals "range" = some none := of_decide_eq_true (c.fact 539 (b := decide (PySem.W.nsIn K mainGlobals "range" = some none)) rfl)
  have z_zip : PySem.W.nsIn K mainGlobals "zip" = some none := of_decide_eq_true (c.fact 540 (b := decide (PySem.W.nsIn K mainGlobals "zip" = some none)) rfl)
  have z_bool : PySem.W.nsIn K mainGlobals "bool" = some none := of_decide_eq_true (c.fact 541 (b := decide (PySem.W.nsIn K mainGlobals "bool" = some none)) rfl)
  have z_dict : PySem.W.nsIn K mainGlobals "dict" = some none := of_decide_eq_true (c.fact 542 (b := decide (PySem.W.nsIn K mainGlobals "dict" = some none)) rfl)
  have z_enumerate : PySem.W.nsIn K mainGlobals "enumerate" = some none := of_decide_eq_true (c.fact 543 (b := decide (PySem.W.nsIn K mainGlobals "enumerate" = some none)) rfl)
  have z_repr : PySem.W.nsIn K mainGlobals "repr" = some none := of_decide_eq_true (c.fact 544 (b := decide (PySem.W.nsIn K mainGlobals "repr" = some none)) rfl)
  have z_ValueError : PySem.W.nsIn K mainGlobals "ValueError" = some none := of_decide_eq_true (c.fact 545 (b := decide (PySem.W.nsIn K mainGlobals "ValueError" = some none)) rfl)
  exact all_mk X G hfa a1 i1 l1 c1 k1 a2 i2 l2 c2 k2 a3 i3 l3 c3 k3 a4 i4 l4 c4 k4 a5 i5 l5 c5 k5 a6 i6 l6 c6 k6 a7 i7 l7 c7 k7 a8 i8 l8 c8 k8 a9 i9 l9 c9 k9 a10 i10 l10 c10 k10 a11 i11 l11 c11 k11 a12 i12 l12 c12 k12 a13 i13 l13 c13 k13 a14 i14 l14 c14 k14 a15 i15 l15 c15 k15 a16 i16 l16 c16 k16 a17 i17 l17 c17 k17 a18 i18 l18 c18 k18 a19 i19 l19 c19 k19 a20 i20 l20 c20 k20 a21 i21 l21 c21 k21 a22 i22 l22 c22 k22 a23 i23 l23 c23 k23 a24 i24 l24 c24 k24 a25 i25 l25 c25 k25 a26 i26 l26 c26 k26 a27 i27 l27 c27 k27 a28 i28 l28 c28 k28 a29 i29 l29 c29 k29 a30 i30 l30 c30 k30 a31 i31 l31 c31 k31 a32 i32 l32 c32 k32 a33 l33 c33 k33 a34 l34 c34 k34 a35 l35 c35 k35 a36 l36 c36 k36 a37 l37 c37 k37 a38 l38 c38 k38 a39 l39 c39 k39 a40 l40 c40 k40 a41 l41 c41 k41 aDE rdD rgD fcD clD tyD0 isg itk hsm sbs sde sve aE1 xE1 saE1 exE1 tyE1 kcE1 clE1 tfE1 gaE1 ggE1 hdE1 icE1 imE1 noE1 aE2 xE2 saE2 exE2 tyE2 kcE2 clE2 tfE2 gaE2 ggE2 hdE2 icE2 imE2 noE2 aE3 xE3 saE3 exE3 tyE3 kcE3 clE3 tfE3 gaE3 ggE3 hdE3 icE3 imE3 noE3 aE4 xE4 saE4 exE4 tyE4 kcE4 clE4 tfE4 gaE4 ggE4 hdE4 icE4 imE4 noE4 aE5 xE5 saE5 exE5 tyE5 kcE5 clE5 tfE5 gaE5 ggE5 hdE5 icE5 imE5 noE5 aE6 xE6 saE6 exE6 tyE6 kcE6 clE6 tfE6 gaE6 ggE6 hdE6 icE6 imE6 noE6 aE7 xE7 saE7 exE7 tyE7 kcE7 clE7 tfE7 gaE7 ggE7 hdE7 icE7 imE7 noE7 aE8 xE8 saE8 exE8 tyE8 kcE8 clE8 tfE8 gaE8 ggE8 hdE8 icE8 imE8 noE8 aE9 xE9 saE9 exE9 tyE9 kcE9 clE9 tfE9 gaE9 ggE9 hdE9 icE9 imE9 noE9 aE10 xE10 saE10 exE10 tyE10 kcE10 clE10 tfE10 gaE10 ggE10 hdE10 icE10 imE10 noE10 aE11 xE11 saE11 exE11 tyE11 kcE11 clE11 tfE11 gaE11 ggE11 hdE11 icE11 imE11 noE11 aE12 xE12 saE12 exE12 tyE12 kcE12 clE12 tfE12 gaE12 ggE12 hdE12 icE12 imE12 noE12 aE13 xE13 saE13 exE13 tyE13 kcE13 clE13 tfE13 gaE13 ggE13 hdE13 icE13 imE13 noE13 aE14 xE14 saE14 exE14 tyE14 kcE14 clE14 tfE14 gaE14 ggE14 hdE14 icE14 imE14 noE14 aE15 xE15 saE15 exE15 tyE15 kcE15 clE15 tfE15 gaE15 ggE15 hdE15 icE15 imE15 noE15 aE16 xE16 saE16 exE16 tyE16 kcE16 clE16 tfE16 gaE16 ggE16 hdE16 icE16 imE16 noE16 aE17 xE17 saE17 exE17 tyE17 kcE17 clE17 tfE17 gaE17 ggE17 hdE17 icE17 imE17 noE17 aE18 xE18 saE18 exE18 tyE18 kcE18 clE18 tfE18 gaE18 ggE18 hdE18 icE18 imE18 noE18 aE19 xE19 saE19 exE19 tyE19 kcE19 clE19 tfE19 gaE19 ggE19 hdE19 icE19 imE19 noE19 aE20 xE20 saE20 exE20 tyE20 kcE20 clE20 tfE20 gaE20 ggE20 hdE20 icE20 imE20 noE20 aE21 xE21 saE21 exE21 tyE21 kcE21 clE21 tfE21 gaE21 ggE21 hdE21 icE21 imE21 noE21 aE22 xE22 saE22 exE22 tyE22 kcE22 clE22 tfE22 gaE22 ggE22 hdE22 icE22 imE22 noE22 aE23 xE23 saE23 exE23 tyE23 kcE23 clE23 tfE23 gaE23 ggE23 hdE23 icE23 imE23 noE23 aE24 xE24 saE24 exE24 tyE24 kcE24 clE24 tfE24 gaE24 ggE24 hdE24 icE24 imE24 noE24 aE25 xE25 saE25 exE25 tyE25 kcE25 clE25 tfE25 gaE25 ggE25 hdE25 icE25 imE25 noE25 aE26 xE26 saE26 exE26 tyE26 kcE26 clE26 tfE26 gaE26 ggE26 hdE26 icE26 imE26 noE26 aE27 xE27 saE27 exE27 tyE27 kcE27 clE27 tfE27 gaE27 ggE27 hdE27 icE27 imE27 noE27 aE28 xE28 saE28 exE28 tyE28 kcE28 clE28 tfE28 gaE28 ggE28 hdE28 icE28 imE28 noE28 aE29 xE29 saE29 exE29 tyE29 kcE29 clE29 tfE29 gaE29 ggE29 hdE29 icE29 imE29 aE30 xE30 saE30 exE30 tyE30 kcE30 clE30 tfE30 gaE30 ggE30 hdE30 icE30 imE30 aE31 xE31 saE31 exE31 tyE31 kcE31 clE31 tfE31 gaE31 ggE31 hdE31 icE31 imE31 aE32 xE32 saE32 exE32 tyE32 kcE32 clE32 tfE32 gaE32 ggE32 hdE32 icE32 imE32 z_len z_sorted z_set z_str z_int z_tuple z_list z_any z_all z_isinstance z_range z_zip z_bool z_dict z_enumerate z_repr z_ValueError
end Du
open PySem PySem.W PySem.Calls PyProof.Rows
theorem PySem.Challenge.cw_deedmeanings_k01_errors_made_holds : PySem.Challenge.rw_deedmeanings_k01_errors_made.Holds := by
  w_on; o_law
  refine HandSHeadRun.head_any (r := OpenLaw.row PySem.Challenge.rw_deedmeanings_k01_errors_made) (q := view (OpenLaw.row PySem.Challenge.rw_deedmeanings_k01_errors_made).prog [43]) (H := Du.hk) (ob := Du.ob) (M := 12000) (loose := Du.looseL) (d := HandSHeadRun.topDef (OpenLaw.row PySem.Challenge.rw_deedmeanings_k01_errors_made).prog 43) (kwd := []) Du.ob_eq
    (by kernel_rfl) (fun s => by kernel_rfl) Du.theRun (by kernel_rfl) (by kernel_rfl) (by kernel_rfl) (by rfl) (by first | assumption | decide +kernel) (by decide +kernel) ⟨rfl, rfl, rfl, rfl, rfl, by decide +kernel⟩ ?hw ?hc
  case hw => w_witness2
  case hc =>
    refine Du.walk (l := PySem.Challenge.rw_deedmeanings_k01_errors_made) rfl (by kernel_rfl) ?F
    intro w mg fa h Y G hmg0
    obtain ⟨K, KX, c⟩ := Y
    have hmg : mg ("law" : PySem.Str) = some (.ref fa) := by
      have e : (HandSHeadRun.topDef (OpenLaw.row PySem.Challenge.rw_deedmeanings_k01_errors_made).prog 43).name = ("law" : PySem.Str) := by kernel_rfl
      rw [← e]
      exact hmg0
    exact ⟨K, KX, Du.made KX G hmg c⟩
