import PyProof.Rows.All
import Wide.All
import KE.KStateDown
import HandS.Head0
import HandS.Head1
import HandS.Head2
import HandS.HeadEnd
import HandS.HeadHook1
import HandS.HeadHook2
import HandS.HeadHook3
import HandS.HeadHook4
import HandS.Words
import OpenK.AllK
import Wide.FinOn
import HandS.ForMost
import KE.KeyNested
import KE.KDictKeyed
import HandS.Codes
import HandS.Zip
import HandS.Star
import HandS.Walk
import HandS.TupAny
import HandS.Style
import HandS.Conv
import HandS.RaiseMore
import HandS.Deep
import HandS.IsInst
import HandS.Flow
import HandS.Strs
import HandS.SetFor
import HandS.DictComp
import HandS.More
import HandS.ClsMeth
import HandS.SlotsOwn
import KE.KOpsOwn
import HandS.Lambda
import KE.KDictPairs
import HandS.DictEq
import KE.KDictList
import KE.KDictZip
import PyProof.DictUpdate
import PyProof.SetRoads
import KE.GoesEnum
import HandS.Iter
import PyProof.ReprRoads
import PyProof.ReprLen
import HandS.Ends
import HandS.Defaults
import HandS.NoneIn
import KE.KDictWalk
import HandS.OwnEq
import HandS.EndTab
import HandS.WordsExc
import HandS.TryMany
import HandS.ExcInit
import HandS.ExcField
import PyProof.ListStr
import PySem.Challenge.RW_deedmeanings_k57_texts_of_says_refused
set_option Elab.async false
set_option linter.all false
set_option maxRecDepth 100000
set_option maxHeartbeats 4000000
/-! the head by facts: the top run in the kernel, nothing of it written out -/
namespace Du
open PySem L2 PySem.Spec PyProof.Rows
/-! addresses by names -/
/-- a class's static method: its object, its function -/
def spA (K : PySem.W.Frag) (C : Addr) (m : Str) : Addr := match PySem.W.findCls K (.ref C) (.type "type") m with
  | some (.get _ (.ref p) _ _) => p
  | _ => 0
def srA (K : PySem.W.Frag) (p : Addr) : List Value := match PySem.W.recIn K p "staticmethod" with
  | some (_ :: r) => r
  | _ => []
def stA (K : PySem.W.Frag) (p : Addr) : Addr := match PySem.W.recIn K p "staticmethod" with
  | some (.ref f :: _) => f
  | _ => 0
/-- a def's defaults, the i-th thing of a tuple -/
def dfA (K : PySem.W.Frag) (f : Addr) : Addr := match K.lookup f with
  | some ⟨_, _, .func fd, _⟩ => (match fd.defaults with
    | .ref T => T
    | _ => 0)
  | _ => 0
def itA (K : PySem.W.Frag) (T : Addr) (i : Nat) : Addr := match K.lookup T with
  | some ⟨_, _, .seq its _, _⟩ => (match its.toList[i]? with
    | some (.ref a) => a
    | _ => 0)
  | _ => 0
/-! facts with something unsaid -/
def isInt (o : Option (Option Value)) (i : Int) : Bool := match o with
  | some (some (.int j _)) => decide (j = i)
  | _ => false
def isStr (o : Option (Option Value)) (z : Str) : Bool := match o with
  | some (some (.str y _)) => decide (y = z)
  | _ => false
theorem isInt_ok {o : Option (Option Value)} {i : Int} (h : isInt o i = true) : ∃ t, o = some (some (.int i t)) := by
  unfold isInt at h
  split at h
  · rw [of_decide_eq_true h]; exact ⟨_, rfl⟩
  · cases h
theorem isStr_ok {o : Option (Option Value)} {z : Str} (h : isStr o z = true) : ∃ t, o = some (some (.str z t)) := by
  unfold isStr at h
  split at h
  · rw [of_decide_eq_true h]; exact ⟨_, rfl⟩
  · cases h
def tupIs (K : PySem.W.Frag) (T : Addr) (vs : List Value) : Bool := match K.lookup T with
  | some ⟨.type c, _, .seq its _, _⟩ => decide (c = "tuple") && decide (its.toList = vs)
  | _ => false
def isGet (o : Option PySem.W.CFound) (g a ob tp : Value) : Bool := match o with
  | some (.get g' a' o' t') => decide (g' = g) && (decide (a' = a) && (decide (o' = ob) && decide (t' = tp)))
  | _ => false
theorem isGet_ok {o : Option PySem.W.CFound} {g a ob tp : Value} (h : isGet o g a ob tp = true) : o = some (.get g a ob tp) := by
  unfold isGet at h
  split at h
  · obtain ⟨h1, h⟩ := He.ba h
    obtain ⟨h2, h⟩ := He.ba h
    obtain ⟨h3, h4⟩ := He.ba h
    rw [of_decide_eq_true h1, of_decide_eq_true h2, of_decide_eq_true h3, of_decide_eq_true h4]
  · cases h
def isVal (o : Option PySem.W.CFound) (v : Value) : Bool := match o with
  | some (.val v') => decide (v' = v)
  | _ => false
theorem isVal_ok {o : Option PySem.W.CFound} {v : Value} (h : isVal o v = true) : o = some (.val v) := by
  unfold isVal at h
  split at h
  · rw [of_decide_eq_true h]
  · cases h
/-! error classes -/
def isExcO (o : Option Obj) (C : Addr) (bm : List Value) : Bool := match o with
  | some ⟨.type t, _, .cls ⟨_, _, m, _, _, hd, _, _, _, _, hdel⟩, ⟨[_, _, _, _, some (.builtin nid), _]⟩⟩ => decide (t = "type") && (decide (m = .ref C :: bm) && (hd && (!hdel && decide (nid = "ValueError.__new__"))))
  | _ => false
theorem isExcO_ok {o : Option Obj} {C : Addr} {bm : List Value} (h : isExcO o C bm = true) : ∃ nm q N bs sn sub ab col dd k0 k1 k2 k3 k5, o = some (excClassObj nm q C N bs bm true sn sub ab col dd k0 k1 k2 k3 k5 "ValueError.__new__") := by
  unfold isExcO at h
  split at h
  · rename_i t dd nm bs m N q hd sn sub ab col hdel k0 k1 k2 k3 nid k5
    obtain ⟨h1, h⟩ := He.ba h
    obtain ⟨h2, h⟩ := He.ba h
    obtain ⟨h3, h⟩ := He.ba h
    obtain ⟨h4, h5⟩ := He.ba h
    have h1 := of_decide_eq_true h1
    have h2 := of_decide_eq_true h2
    have h5 := of_decide_eq_true h5
    subst h1 h2 h3 h5
    cases hdel with
    | true => cases h4
    | false => exact ⟨nm, q, N, bs, sn, sub, ab, col, dd, k0, k1, k2, k3, k5, rfl⟩
  · cases h
/-! defs -/
structure DefS where
  ad : PySem.W.Frag → Addr
  name : Str
  qual : Str
  params : Arguments
  body : List Stmt
  scope : Scope
  dT : Option (PySem.W.Frag → Addr) := none
def DefS.val (d : DefS) : He.FnW := some (d.name, d.qual, d.params, .stmts d.body, d.scope, mainGlobals, [], builtinsNs)
def fnAt (K : PySem.W.Frag) (a : Addr) : He.FnW := match K.lookup a with
  | some ⟨_, _, .func fd, _⟩ => some (fd.name, fd.qualname, fd.params, fd.body, fd.scope, fd.globals, fd.closure, fd.builtins)
  | _ => none
def DefS.dV (K : PySem.W.Frag) (d : DefS) : Value := match d.dT with
  | none => .none
  | some T => .ref (T K)
def DefS.ok (K : PySem.W.Frag) (d : DefS) : Bool := PySem.W.keepIn K (.ref (d.ad K)) && (match K.lookup (d.ad K) with
  | some ⟨_, _, .func fd, _⟩ => PySem.W.codeIn K fd.code d.qual && decide (fd.defaults = d.dV K)
  | _ => false)
theorem DefS.fn {K : PySem.W.Frag} {d : DefS} (e : fnAt K (d.ad K) = d.val) (c : d.ok K = true) :
    ∃ (oc : Value) (od : Option Addr) (kV dc pm : Value) (an : Option Addr) (cd ct : Value) (sl : Array (Option Value)), K.lookup (d.ad K) = some ⟨oc, od, .func (PySem.W.fnOf d.name d.qual d.params d.body d.scope (d.dV K) kV dc pm an cd ct), sl⟩ ∧ PySem.W.codeIn K cd d.qual = true ∧ PySem.W.keepIn K (.ref (d.ad K)) = true := by
  obtain ⟨kp, c2⟩ := He.ba c
  unfold fnAt at e
  cases q : K.lookup (d.ad K) with
  | none =>
    rw [q] at c2
    cases c2
  | some o =>
    obtain ⟨oc, od, dt, osl⟩ := o
    rw [q] at c2 e
    cases dt with
    | func fd =>
      obtain ⟨n1, n2, n3, n4, n5, n6, n7, n8, n9, n10, n11, n12, n13, n14, n15⟩ := fd
      have e2 : (some (n1, n2, n3, n4, n5, n6, n7, n15) : He.FnW) = some (d.name, d.qual, d.params, .stmts d.body, d.scope, mainGlobals, [], builtinsNs) := e
      simp only [Option.some.injEq, Prod.mk.injEq] at e2
      obtain ⟨h1, h2, h3, h4, h5, h6, h7, h8⟩ := e2
      have c3 : (PySem.W.codeIn K n13 d.qual && decide (n8 = d.dV K)) = true := c2
      obtain ⟨k1, k2⟩ := He.ba c3
      have k3 := of_decide_eq_true k2
      subst h1 h2 h3 h4 h5 h6 h7 h8 k3
      exact ⟨oc, od, n9, n10, n11, n12, n13, n14, osl, rfl, k1, kp⟩
    | _ => cases c2
/-! the hook -/
structure SaysS (fn : List DefS) (ts : List He.Tab) (tf : List He.Defn) (ex : PySem.W.Frag → List Bool) (w : World) (h : Heap) (K : PySem.W.Frag) : Prop where
  fns : fn.map (fun d => fnAt K (d.ad K)) = fn.map DefS.val
  tabs : ts.map (fun t => He.dicW K (t.1 K)) = ts.map fun t => some (He.keysIn w.params t.2)
  oks : (fn.all fun d => d.ok K) = true
  more : (ex K).all id = true
  hd : ∀ p ∈ tf, PySem.W.codeHdIn K (He.cT K p).1 (He.cT K p).2 = true
  out : ∀ p ∈ tf, K.lookup (He.cT K p).2 = none
  empty : ∀ p ∈ tf, h.get? (He.cT K p).2 = some { cls := .none, data := .fields #[] }
/-- what is looked at: what the module's names reach, and the statics -/
def pushA {α : Type} (m : Nat) (as : List Addr) (b : Addr) (k : Nat → List Addr → α) : α := HandSHeadRun.frNat b fun b => match Nat.land 1 (Nat.shiftRight m b) with
  | 0 => HandSHeadRun.frNat (Nat.lor m (Nat.shiftLeft 1 b)) fun m => k m (b :: as)
  | _ + 1 => k m as
noncomputable def pushAll {α : Type} (bs : List Addr) : Nat → List Addr → (Nat → List Addr → α) → α := @List.rec Addr (fun _ => Nat → List Addr → (Nat → List Addr → α) → α) (fun m as k => k m as) (fun b _ ih m as k => pushA m as b fun m as => ih m as k) bs
noncomputable def stepAll {α : Type} (g : Addr → Option Obj) (fr : List Addr) : Nat → List Addr → (Nat → List Addr → α) → α := @List.rec Addr (fun _ => Nat → List Addr → (Nat → List Addr → α) → α) (fun m as k => k m as) (fun a _ ih m as k => pushAll (match g a with
  | some o => He.refsD o
  | none => []) m as fun m as => ih m as k) fr
/-- level by level, what was seen in one number's bits -/
noncomputable def bfsA (g : Addr → Option Obj) (n : Nat) : List Addr → Nat → List Addr → List Addr := @Nat.rec (fun _ => List Addr → Nat → List Addr → List Addr) (fun fr _ all => all ++ fr) (fun _ ih fr m all => stepAll g fr m [] fun m' new => ih new m' (all ++ fr)) n
noncomputable def asS (g : Addr → Option Obj) (n : Nat) : List Addr := PySem.sysModules :: cStatics :: bfsA g n [mainGlobals] (Nat.shiftLeft 1 mainGlobals) []
abbrev AlS : Type := List He.FnW × List (Option (List (Option (Str × Int)))) × Bool
noncomputable def obsS (n : Nat) (fn : List DefS) (ts : List He.Tab) (tf : List He.Defn) (ex : PySem.W.Frag → List Bool) (g : Addr → Option Obj) : AlS :=
  (fn.map fun d => fnAt (He.frT g (asS g n)) (d.ad (He.frT g (asS g n))), ts.map fun t => He.dicW (He.frT g (asS g n)) (t.1 (He.frT g (asS g n))),
    (fn.all fun d => d.ok (He.frT g (asS g n))) && ((ex (He.frT g (asS g n))).all id && He.tabsB g tf (He.frT g (asS g n))))
def valS (fn : List DefS) (ts : List He.Tab) (w : World) : AlS := (fn.map DefS.val, ts.map fun t => some (He.keysIn w.params t.2), true)
theorem saysS_of {n : Nat} {fn : List DefS} {ts : List He.Tab} {tf : List He.Defn} {ex : PySem.W.Frag → List Bool} {w : World} {h : Heap} (e : obsS n fn ts tf ex h.get? = valS fn ts w) : SaysS fn ts tf ex w h (He.frT h.get? (asS h.get? n)) := by
  unfold obsS valS at e
  simp only [Prod.mk.injEq] at e
  obtain ⟨e1, e2, e3⟩ := e
  obtain ⟨h0, h1⟩ := He.ba e3
  obtain ⟨h1, h2⟩ := He.ba h1
  have key : ∀ p ∈ tf, PySem.W.codeHdIn (He.frT h.get? (asS h.get? n)) (He.cT (He.frT h.get? (asS h.get? n)) p).1 (He.cT (He.frT h.get? (asS h.get? n)) p).2 = true ∧ ∃ o, h.get? (He.cT (He.frT h.get? (asS h.get? n)) p).2 = some o ∧ He.emptyTab o = true := fun p hp => by
    obtain ⟨h3, h4⟩ := He.ba (List.all_eq_true.mp h2 p hp)
    refine ⟨h3, ?_⟩
    cases q : h.get? (He.cT (He.frT h.get? (asS h.get? n)) p).2 with
    | none =>
      rw [q] at h4
      cases h4
    | some o =>
      rw [q] at h4
      exact ⟨o, rfl, h4⟩
  exact ⟨e1, e2, h0, h1, fun p hp => (key p hp).1, fun p hp => by
    obtain ⟨_, o, q, z⟩ := key p hp
    exact He.frT_none q z, fun p hp => by
    obtain ⟨_, o, q, z⟩ := key p hp
    rw [q, He.emptyTab_eq z]⟩
noncomputable def hookS (n : Nat) (fn : List DefS) (ts : List He.Tab) (tf : List He.Defn) (ex : PySem.W.Frag → List Bool) : PySem.W.Hook where
  α := AlS
  obs := fun s => obsS n fn ts tf ex s.heap.get?
  val := fun w => valS fn ts w
  says := fun w h => ∃ K : PySem.W.Frag, K.In h ∧ SaysS fn ts tf ex w h K
  of := fun _ _ e => ⟨_, He.frT_in, saysS_of e⟩
  keeps := fun _ _ _ ⟨K, hK, c⟩ k => ⟨K, PySem.W.Frag.In.keeps hK k, ⟨c.fns, c.tabs, c.oks, c.more, c.hd, c.out, fun p hp => k _ _ (c.empty p hp)⟩⟩
theorem obsS_eq {n : Nat} {fn : List DefS} {ts : List He.Tab} {tf : List He.Defn} {ex : PySem.W.Frag → List Bool} {g : Addr → Option Obj} {s : Shared} (h : ∀ a, g a = s.heap.get? a) : obsS n fn ts tf ex g = (hookS n fn ts tf ex).obs s := by
  have e : g = s.heap.get? := funext h
  rw [e] <;> rfl
section
variable {fn : List DefS} {ts : List He.Tab} {tf : List He.Defn} {ex : PySem.W.Frag → List Bool} {w : World} {h : Heap} {K : PySem.W.Frag}
theorem SaysS.fact (c : SaysS fn ts tf ex w h K) (i : Nat) {b : Bool} (hb : (ex K)[i]? = some b) : b = true := List.all_eq_true.mp c.more b (List.mem_of_getElem? hb)
theorem SaysS.def_ (c : SaysS fn ts tf ex w h K) (i : Nat) {d : DefS} (hd : fn[i]? = some d) :
    ∃ (oc : Value) (od : Option Addr) (kV dc pm : Value) (an : Option Addr) (cd ct : Value) (sl : Array (Option Value)), K.lookup (d.ad K) = some ⟨oc, od, .func (PySem.W.fnOf d.name d.qual d.params d.body d.scope (d.dV K) kV dc pm an cd ct), sl⟩ ∧ PySem.W.codeIn K cd d.qual = true ∧ PySem.W.keepIn K (.ref (d.ad K)) = true := by
  have e2 : (fn.map fun d => fnAt K (d.ad K))[i]? = (fn.map DefS.val)[i]? := by rw [c.fns]
  rw [List.getElem?_map, List.getElem?_map, hd] at e2
  exact DefS.fn (Option.some.inj e2) (List.all_eq_true.mp c.oks d (List.mem_of_getElem? hd))
theorem SaysS.tab (c : SaysS fn ts tf ex w h K) (i : Nat) {t : He.Tab} (ht : ts[i]? = some t) : He.dicW K (t.1 K) = some (He.keysIn w.params t.2) := by
  have e2 : (ts.map fun t => He.dicW K (t.1 K))[i]? = (ts.map fun t => some (He.keysIn w.params t.2))[i]? := by rw [c.tabs]
  rw [List.getElem?_map, List.getElem?_map, ht] at e2
  exact Option.some.inj e2
end
end Du
namespace Du
open PySem L2 PySem.Spec PyProof.Rows
/-! the run stands ahead of all else: it wants the most memory -/
def topR (i : Nat) : Stmt := PySem.Challenge.pw_deedmeanings_k57_texts_of_says_refused.main.body.getD i (.Pass ⟨0, 0, 0, 0⟩)
def d1 : DefS := ⟨fun K => (He.ga K "is_name"), "is_name", "is_name", defArgs (topR 4), defBody (topR 4), defScope (topR 4), none⟩
def d2 : DefS := ⟨fun K => (He.ga K "choices_of"), "choices_of", "choices_of", defArgs (topR 5), defBody (topR 5), defScope (topR 5), none⟩
def d3 : DefS := ⟨fun K => (He.ga K "check_name"), "check_name", "check_name", defArgs (topR 12), defBody (topR 12), defScope (topR 12), none⟩
def d4 : DefS := ⟨fun K => (He.ga K "set_to"), "set_to", "set_to", defArgs (topR 13), defBody (topR 13), defScope (topR 13), none⟩
def d5 : DefS := ⟨fun K => (He.ga K "said_at"), "said_at", "said_at", defArgs (topR 14), defBody (topR 14), defScope (topR 14), none⟩
def d6 : DefS := ⟨fun K => (He.ga K "choices_over"), "choices_over", "choices_over", defArgs (topR 15), defBody (topR 15), defScope (topR 15), none⟩
def d7 : DefS := ⟨fun K => (He.ma K (He.ga K "Say") "__init__"), "__init__", "Say.__init__", defArgs (inClass (topR 16) 0), defBody (inClass (topR 16) 0), defScope (inClass (topR 16) 0), none⟩
def d8 : DefS := ⟨fun K => (stA K (spA K (He.ga K "Say") "test")), "test", "Say.test", defArgs (inClass (topR 16) 1), defBody (inClass (topR 16) 1), defScope (inClass (topR 16) 1), none⟩
def d9 : DefS := ⟨fun K => (stA K (spA K (He.ga K "Say") "yes")), "yes", "Say.yes", defArgs (inClass (topR 16) 2), defBody (inClass (topR 16) 2), defScope (inClass (topR 16) 2), none⟩
def d10 : DefS := ⟨fun K => (stA K (spA K (He.ga K "Say") "no")), "no", "Say.no", defArgs (inClass (topR 16) 3), defBody (inClass (topR 16) 3), defScope (inClass (topR 16) 3), none⟩
def d11 : DefS := ⟨fun K => (He.ma K (He.ga K "Say") "at"), "at", "Say.at", defArgs (inClass (topR 16) 5), defBody (inClass (topR 16) 5), defScope (inClass (topR 16) 5), none⟩
def d13 : DefS := ⟨fun K => (He.ma K (He.ga K "Say") "__and__"), "__and__", "Say.__and__", defArgs (inClass (topR 16) 13), defBody (inClass (topR 16) 13), defScope (inClass (topR 16) 13), none⟩
def d14 : DefS := ⟨fun K => (He.ma K (He.ga K "Say") "__or__"), "__or__", "Say.__or__", defArgs (inClass (topR 16) 14), defBody (inClass (topR 16) 14), defScope (inClass (topR 16) 14), none⟩
def d15 : DefS := ⟨fun K => (He.ma K (He.ga K "Say") "__xor__"), "__xor__", "Say.__xor__", defArgs (inClass (topR 16) 15), defBody (inClass (topR 16) 15), defScope (inClass (topR 16) 15), none⟩
def d16 : DefS := ⟨fun K => (He.ma K (He.ga K "Say") "__invert__"), "__invert__", "Say.__invert__", defArgs (inClass (topR 16) 16), defBody (inClass (topR 16) 16), defScope (inClass (topR 16) 16), none⟩
def d19 : DefS := ⟨fun K => (He.ma K (He.ga K "Say") "__eq__"), "__eq__", "Say.__eq__", defArgs (inClass (topR 16) 19), defBody (inClass (topR 16) 19), defScope (inClass (topR 16) 19), none⟩
def d20 : DefS := ⟨fun K => (He.ga K "words_of"), "words_of", "words_of", defArgs (topR 18), defBody (topR 18), defScope (topR 18), none⟩
def d21 : DefS := ⟨fun K => (He.ga K "joined_say"), "joined_say", "joined_say", defArgs (topR 22), defBody (topR 22), defScope (topR 22), none⟩
def d22 : DefS := ⟨fun K => (He.ga K "read_say"), "read_say", "read_say", defArgs (topR 23), defBody (topR 23), defScope (topR 23), none⟩
def d23 : DefS := ⟨fun K => (He.ma K (He.ga K "Stack") "__init__"), "__init__", "Stack.__init__", defArgs (inClass (topR 19) 0), defBody (inClass (topR 19) 0), defScope (inClass (topR 19) 0), none⟩
def d24 : DefS := ⟨fun K => (He.ma K (He.ga K "Stack") "close"), "close", "Stack.close", defArgs (inClass (topR 19) 1), defBody (inClass (topR 19) 1), defScope (inClass (topR 19) 1), none⟩
def d25 : DefS := ⟨fun K => (He.ma K (He.ga K "Stack") "work"), "work", "Stack.work", defArgs (inClass (topR 19) 2), defBody (inClass (topR 19) 2), defScope (inClass (topR 19) 2), none⟩
def d26 : DefS := ⟨fun K => (He.ma K (He.ga K "Stack") "add_value"), "add_value", "Stack.add_value", defArgs (inClass (topR 19) 3), defBody (inClass (topR 19) 3), defScope (inClass (topR 19) 3), none⟩
def d27 : DefS := ⟨fun K => (He.ma K (He.ga K "Stack") "add_sign"), "add_sign", "Stack.add_sign", defArgs (inClass (topR 19) 4), defBody (inClass (topR 19) 4), defScope (inClass (topR 19) 4), none⟩
def d28 : DefS := ⟨fun K => (He.ma K (He.ga K "Stack") "result"), "result", "Stack.result", defArgs (inClass (topR 19) 5), defBody (inClass (topR 19) 5), defScope (inClass (topR 19) 5), none⟩
def d29 : DefS := ⟨fun K => (He.ma K (He.ga K "BadText") "__init__"), "__init__", "BadText.__init__", defArgs (inClass (topR 10) 0), defBody (inClass (topR 10) 0), defScope (inClass (topR 10) 0), none⟩
def d30 : DefS := ⟨fun K => (He.ga K "_law_box"), "_law_box", "_law_box", defArgs (topR 25), defBody (topR 25), defScope (topR 25), none⟩
def d31 : DefS := ⟨fun K => (He.ga K "_law_take"), "_law_take", "_law_take", defArgs (topR 26), defBody (topR 26), defScope (topR 26), none⟩
def d32 : DefS := ⟨fun K => (He.ga K "_law_pick"), "_law_pick", "_law_pick", defArgs (topR 27), defBody (topR 27), defScope (topR 27), none⟩
def d33 : DefS := ⟨fun K => (He.ga K "_law_words"), "_law_words", "_law_words", defArgs (topR 28), defBody (topR 28), defScope (topR 28), none⟩
def d34 : DefS := ⟨fun K => (He.ga K "_law_gap"), "_law_gap", "_law_gap", defArgs (topR 29), defBody (topR 29), defScope (topR 29), none⟩
def d35 : DefS := ⟨fun K => (He.ga K "_law_expression"), "_law_expression", "_law_expression", defArgs (topR 30), defBody (topR 30), defScope (topR 30), none⟩
def d36 : DefS := ⟨fun K => (He.ga K "_law_parts"), "_law_parts", "_law_parts", defArgs (topR 31), defBody (topR 31), defScope (topR 31), none⟩
def d37 : DefS := ⟨fun K => (He.ga K "_law_level"), "_law_level", "_law_level", defArgs (topR 32), defBody (topR 32), defScope (topR 32), none⟩
def d38 : DefS := ⟨fun K => (He.ga K "_law_single"), "_law_single", "_law_single", defArgs (topR 33), defBody (topR 33), defScope (topR 33), none⟩
def d39 : DefS := ⟨fun K => (He.ga K "_law_due"), "_law_due", "_law_due", defArgs (topR 34), defBody (topR 34), defScope (topR 34), none⟩
def d40 : DefS := ⟨fun K => (He.ga K "_law_tried"), "_law_tried", "_law_tried", defArgs (topR 35), defBody (topR 35), defScope (topR 35), none⟩
def d41 : DefS := ⟨fun K => (He.ga K "_law_bent"), "_law_bent", "_law_bent", defArgs (topR 36), defBody (topR 36), defScope (topR 36), none⟩
def d42 : DefS := ⟨fun K => (He.ga K "law"), "law", "law", defArgs (topR 37), defBody (topR 37), defScope (topR 37), none⟩
def fnL : List DefS := [d1, d2, d3, d4, d5, d6, d7, d8, d9, d10, d11, d13, d14, d15, d16, d19, d20, d21, d22, d23, d24, d25, d26, d27, d28, d29, d30, d31, d32, d33, d34, d35, d36, d37, d38, d39, d40, d41, d42]
def tabL : List He.Tab := [(fun K => (He.ga K "SAY_RANKS"), ["&", "^", "|"])]
def exL (K : PySem.W.Frag) : List Bool := [
  decide (PySem.W.nsIn K mainGlobals "is_name" = some (some (.ref (He.ga K "is_name")))),
  decide (PySem.W.nsIn K mainGlobals "choices_of" = some (some (.ref (He.ga K "choices_of")))),
  decide (PySem.W.nsIn K mainGlobals "check_name" = some (some (.ref (He.ga K "check_name")))),
  decide (PySem.W.nsIn K mainGlobals "set_to" = some (some (.ref (He.ga K "set_to")))),
  decide (PySem.W.nsIn K mainGlobals "said_at" = some (some (.ref (He.ga K "said_at")))),
  decide (PySem.W.nsIn K mainGlobals "choices_over" = some (some (.ref (He.ga K "choices_over")))),
  decide (PySem.W.findIn K (.ref (He.ga K "Say")) "__init__" = some (some (.ref (He.ma K (He.ga K "Say") "__init__")))),
  PySem.W.isFn K (.ref (He.ma K (He.ga K "Say") "__init__")),
  isGet (PySem.W.findCls K (.ref (He.ga K "Say")) (.type "type") "test") (.builtin "staticmethod.__get__") (.ref (spA K (He.ga K "Say") "test")) .none (.ref (He.ga K "Say")),
  decide (PySem.W.recIn K (spA K (He.ga K "Say") "test") "staticmethod" = some (.ref (stA K (spA K (He.ga K "Say") "test")) :: (srA K (spA K (He.ga K "Say") "test")))),
  isGet (PySem.W.findCls K (.ref (He.ga K "Say")) (.type "type") "yes") (.builtin "staticmethod.__get__") (.ref (spA K (He.ga K "Say") "yes")) .none (.ref (He.ga K "Say")),
  decide (PySem.W.recIn K (spA K (He.ga K "Say") "yes") "staticmethod" = some (.ref (stA K (spA K (He.ga K "Say") "yes")) :: (srA K (spA K (He.ga K "Say") "yes")))),
  isGet (PySem.W.findCls K (.ref (He.ga K "Say")) (.type "type") "no") (.builtin "staticmethod.__get__") (.ref (spA K (He.ga K "Say") "no")) .none (.ref (He.ga K "Say")),
  decide (PySem.W.recIn K (spA K (He.ga K "Say") "no") "staticmethod" = some (.ref (stA K (spA K (He.ga K "Say") "no")) :: (srA K (spA K (He.ga K "Say") "no")))),
  decide (PySem.W.findIn K (.ref (He.ga K "Say")) "at" = some (some (.ref (He.ma K (He.ga K "Say") "at")))),
  PySem.W.isFn K (.ref (He.ma K (He.ga K "Say") "at")),
  decide (PySem.W.findIn K (.ref (He.ga K "Say")) "__and__" = some (some (.ref (He.ma K (He.ga K "Say") "__and__")))),
  PySem.W.isFn K (.ref (He.ma K (He.ga K "Say") "__and__")),
  decide (PySem.W.findIn K (.ref (He.ga K "Say")) "__or__" = some (some (.ref (He.ma K (He.ga K "Say") "__or__")))),
  PySem.W.isFn K (.ref (He.ma K (He.ga K "Say") "__or__")),
  decide (PySem.W.findIn K (.ref (He.ga K "Say")) "__xor__" = some (some (.ref (He.ma K (He.ga K "Say") "__xor__")))),
  PySem.W.isFn K (.ref (He.ma K (He.ga K "Say") "__xor__")),
  decide (PySem.W.findIn K (.ref (He.ga K "Say")) "__invert__" = some (some (.ref (He.ma K (He.ga K "Say") "__invert__")))),
  PySem.W.isFn K (.ref (He.ma K (He.ga K "Say") "__invert__")),
  decide (PySem.W.findIn K (.ref (He.ga K "Say")) "__eq__" = some (some (.ref (He.ma K (He.ga K "Say") "__eq__")))),
  PySem.W.isFn K (.ref (He.ma K (He.ga K "Say") "__eq__")),
  decide (PySem.W.nsIn K mainGlobals "words_of" = some (some (.ref (He.ga K "words_of")))),
  decide (PySem.W.nsIn K mainGlobals "joined_say" = some (some (.ref (He.ga K "joined_say")))),
  decide (PySem.W.nsIn K mainGlobals "read_say" = some (some (.ref (He.ga K "read_say")))),
  decide (PySem.W.findIn K (.ref (He.ga K "Stack")) "__init__" = some (some (.ref (He.ma K (He.ga K "Stack") "__init__")))),
  PySem.W.isFn K (.ref (He.ma K (He.ga K "Stack") "__init__")),
  decide (PySem.W.findIn K (.ref (He.ga K "Stack")) "close" = some (some (.ref (He.ma K (He.ga K "Stack") "close")))),
  PySem.W.isFn K (.ref (He.ma K (He.ga K "Stack") "close")),
  decide (PySem.W.findIn K (.ref (He.ga K "Stack")) "work" = some (some (.ref (He.ma K (He.ga K "Stack") "work")))),
  PySem.W.isFn K (.ref (He.ma K (He.ga K "Stack") "work")),
  decide (PySem.W.findIn K (.ref (He.ga K "Stack")) "add_value" = some (some (.ref (He.ma K (He.ga K "Stack") "add_value")))),
  PySem.W.isFn K (.ref (He.ma K (He.ga K "Stack") "add_value")),
  decide (PySem.W.findIn K (.ref (He.ga K "Stack")) "add_sign" = some (some (.ref (He.ma K (He.ga K "Stack") "add_sign")))),
  PySem.W.isFn K (.ref (He.ma K (He.ga K "Stack") "add_sign")),
  decide (PySem.W.findIn K (.ref (He.ga K "Stack")) "result" = some (some (.ref (He.ma K (He.ga K "Stack") "result")))),
  PySem.W.isFn K (.ref (He.ma K (He.ga K "Stack") "result")),
  decide (PySem.W.findIn K (.ref (He.ga K "BadText")) "__init__" = some (some (.ref (He.ma K (He.ga K "BadText") "__init__")))),
  PySem.W.isFn K (.ref (He.ma K (He.ga K "BadText") "__init__")),
  decide (PySem.W.nsIn K mainGlobals "_law_box" = some (some (.ref (He.ga K "_law_box")))),
  decide (PySem.W.nsIn K mainGlobals "_law_take" = some (some (.ref (He.ga K "_law_take")))),
  decide (PySem.W.nsIn K mainGlobals "_law_pick" = some (some (.ref (He.ga K "_law_pick")))),
  decide (PySem.W.nsIn K mainGlobals "_law_words" = some (some (.ref (He.ga K "_law_words")))),
  decide (PySem.W.nsIn K mainGlobals "_law_gap" = some (some (.ref (He.ga K "_law_gap")))),
  decide (PySem.W.nsIn K mainGlobals "_law_expression" = some (some (.ref (He.ga K "_law_expression")))),
  decide (PySem.W.nsIn K mainGlobals "_law_parts" = some (some (.ref (He.ga K "_law_parts")))),
  decide (PySem.W.nsIn K mainGlobals "_law_level" = some (some (.ref (He.ga K "_law_level")))),
  decide (PySem.W.nsIn K mainGlobals "_law_single" = some (some (.ref (He.ga K "_law_single")))),
  decide (PySem.W.nsIn K mainGlobals "_law_due" = some (some (.ref (He.ga K "_law_due")))),
  decide (PySem.W.nsIn K mainGlobals "_law_tried" = some (some (.ref (He.ga K "_law_tried")))),
  decide (PySem.W.nsIn K mainGlobals "_law_bent" = some (some (.ref (He.ga K "_law_bent")))),
  decide (PySem.W.nsIn K mainGlobals "law" = some (some (.ref (He.ga K "law")))),
  decide (PySem.W.nsIn K mainGlobals "Say" = some (some (.ref (He.ga K "Say")))),
  PySem.W.plainGet K (He.ga K "Say") Str.empty,
  PySem.W.hasDictIn K (He.ga K "Say"),
  PySem.W.plainOver K (He.ga K "Say"),
  decide (PySem.W.findIn K (.ref (He.ga K "Say")) "__setattr__" = some (some (.builtin "object.__setattr__"))),
  PySem.W.makesIn K (He.ga K "Say"),
  PySem.W.keepIn K (.ref (He.ga K "Say")),
  decide (PySem.W.findIn K (.ref (He.ga K "Say")) "names" = some none),
  decide (PySem.W.findIn K (.ref (He.ga K "Say")) "points" = some none),
  isStr (PySem.W.nsIn K mainGlobals "LETTERS") "abcdefghijklmnopqrstuvwxyz",
  isInt (PySem.W.nsIn K mainGlobals "LONGEST") 8,
  decide (PySem.W.findIn K (.ref (He.ga K "Say")) "__class__" = some (some (.builtin "object.__class__"))),
  decide (PySem.W.specialIn K (.builtin "object.__class__") "__get__" = some (some (.builtin "getset_descriptor.__get__"))),
  decide (PySem.W.takesIn K (.builtin "object.__class__") = some true),
  decide (PySem.W.mroIn K (He.ga K "Say") (.type "object") = some true),
  PySem.W.selfFirst K (He.ga K "Say"),
  PySem.W.notFirst K (He.ga K "Say") (.ref (He.ga K "Say")),
  decide (PySem.W.findIn K (.ref (He.ga K "Say")) "__ne__" = some (some (.builtin "object.__ne__"))),
  decide (PySem.W.subIn K (.ref (He.ga K "Say")) (.type "object") = some true),
  PySem.W.readsIn K (He.ga K "Say") (.type "type"),
  decide (PySem.W.specialIn K (.ref (He.ga K "Say")) "__getattribute__" = some (some (.builtin "type.__getattribute__"))),
  decide (PySem.W.nsIn K mainGlobals "Stack" = some (some (.ref (He.ga K "Stack")))),
  PySem.W.plainGet K (He.ga K "Stack") Str.empty,
  PySem.W.hasDictIn K (He.ga K "Stack"),
  PySem.W.plainOver K (He.ga K "Stack"),
  decide (PySem.W.findIn K (.ref (He.ga K "Stack")) "__setattr__" = some (some (.builtin "object.__setattr__"))),
  PySem.W.makesIn K (He.ga K "Stack"),
  PySem.W.keepIn K (.ref (He.ga K "Stack")),
  decide (PySem.W.findIn K (.ref (He.ga K "Stack")) "ranks" = some none),
  decide (PySem.W.findIn K (.ref (He.ga K "Stack")) "prefix" = some none),
  decide (PySem.W.findIn K (.ref (He.ga K "Stack")) "suffix" = some none),
  decide (PySem.W.findIn K (.ref (He.ga K "Stack")) "makes" = some none),
  decide (PySem.W.findIn K (.ref (He.ga K "Stack")) "held" = some none),
  decide (PySem.W.findIn K (.ref (He.ga K "Stack")) "waiting" = some none),
  decide (PySem.W.findIn K (.ref (He.ga K "Stack")) "is_open" = some none),
  decide (PySem.W.findIn K (.ref (He.ga K "Stack")) "__class__" = some (some (.builtin "object.__class__"))),
  decide (PySem.W.mroIn K (He.ga K "Stack") (.type "object") = some true),
  decide (PySem.W.nsIn K mainGlobals "BadText" = some (some (.ref (He.ga K "BadText")))),
  decide (PySem.W.nsIn K mainGlobals "DeedError" = some (some (.ref (He.ga K "DeedError")))),
  isExcO (K.lookup (He.ga K "BadText")) (He.ga K "BadText") [.ref (He.ga K "DeedError"), .type "ValueError", .type "Exception", .type "BaseException", .type "object"],
  decide (PySem.W.findIn K (.ref (He.ga K "BadText")) "__setattr__" = some (some (.builtin "object.__setattr__"))),
  decide (PySem.W.subIn K (.ref (He.ga K "BadText")) (.type "BaseException") = some true),
  decide (PySem.W.typeIn K (.ref (He.ga K "BadText")) = some (.type "type")),
  PySem.W.keepIn K (.ref (He.ga K "BadText")),
  PySem.W.isClsIn K (He.ga K "BadText"),
  decide (PySem.W.subIn K (.ref (He.ga K "BadText")) (.ref (He.ga K "BadText")) = some true),
  decide (PySem.W.typeIn K (.ref (He.ma K (He.ga K "BadText") "__init__")) = some (.type "function")),
  PySem.W.readsIn K (He.ga K "DeedError") (.type "type"),
  decide (PySem.W.specialIn K (.ref (He.ga K "DeedError")) "__getattribute__" = some (some (.builtin "type.__getattribute__"))),
  isVal (PySem.W.findCls K (.ref (He.ga K "DeedError")) (.type "type") "__init__") (.builtin "ValueError.__init__"),
  decide (PySem.W.nsIn K mainGlobals "SAY_RANKS" = some (some (.ref (He.ga K "SAY_RANKS")))),
  decide (PySem.W.subIn K (.ref (He.ga K "Say")) (.type "str") = some false),
  isInt (PySem.W.nsIn K (He.ga K "SAY_RANKS") "&") 2,
  isInt (PySem.W.nsIn K (He.ga K "SAY_RANKS") "^") 1,
  isInt (PySem.W.nsIn K (He.ga K "SAY_RANKS") "|") 0,
  decide (PySem.W.nsIn K mainGlobals "len" = some none),
  decide (PySem.W.nsIn K mainGlobals "sorted" = some none),
  decide (PySem.W.nsIn K mainGlobals "set" = some none),
  decide (PySem.W.nsIn K mainGlobals "str" = some none),
  decide (PySem.W.nsIn K mainGlobals "int" = some none),
  decide (PySem.W.nsIn K mainGlobals "tuple" = some none),
  decide (PySem.W.nsIn K mainGlobals "list" = some none),
  decide (PySem.W.nsIn K mainGlobals "any" = some none),
  decide (PySem.W.nsIn K mainGlobals "all" = some none),
  decide (PySem.W.nsIn K mainGlobals "isinstance" = some none),
  decide (PySem.W.nsIn K mainGlobals "range" = some none),
  decide (PySem.W.nsIn K mainGlobals "zip" = some none),
  decide (PySem.W.nsIn K mainGlobals "bool" = some none),
  decide (PySem.W.nsIn K mainGlobals "dict" = some none),
  decide (PySem.W.nsIn K mainGlobals "enumerate" = some none),
  decide (PySem.W.nsIn K mainGlobals "repr" = some none)]
def loose0 : List Str := ["_wall", "__name__", "LETTERS", "LONGEST", "is_name", "choices_of", "__name__", "DeedError", "BadName", "BadTruth", "BadText", "__name__", "check_name", "set_to", "said_at"]
def loose1 : List Str := ["choices_over", "Say", "__name__", "words_of", "Stack", "__name__", "SAY_RANKS", "joined_say", "read_say", "__name__", "_law_box", "_law_take", "_law_pick", "_law_words", "_law_gap"]
def loose2 : List Str := ["_law_expression", "_law_parts", "_law_level", "_law_single", "_law_due", "_law_tried", "_law_bent"]
def looseL : List Str := loose0 ++ loose1 ++ loose2
abbrev RR : PySem.W.OpenRow := PySem.W.OpenLaw.row PySem.Challenge.rw_deedmeanings_k57_texts_of_says_refused
noncomputable abbrev hk : PySem.W.Hook := hookS 5 fnL tabL [] exL
noncomputable def ob (s : PySem.W.SharedT) : AlS := obsS 5 fnL tabL [] exL (HandSHeadRun.getT s)
theorem ob_eq (s : PySem.W.SharedT) : ob s = hk.obs s.abs := obsS_eq (HandSHeadRun.getT_eq s)
theorem runF (w : World) : HandSHeadRun.RunEq RR (PySem.W.view RR.prog [37]) hk ob 12000 looseL (w.withFollow "special-get-raises" false) := by
  intro os
  kernel_rfl
theorem runT (w : World) : HandSHeadRun.RunEq RR (PySem.W.view RR.prog [37]) hk ob 12000 looseL (w.withFollow "special-get-raises" true) := by
  intro os
  kernel_rfl
theorem theRun (w : World) : HandSHeadRun.RunEq RR (PySem.W.view RR.prog [37]) hk ob 12000 looseL w := PySem.W.byRow2 "special-get-raises" runF runT w
end Du
namespace Du
open PySem L2 PySem.Spec PyProof.Rows
/-! dicts whose keys are tuples of tuples: entries (key, where its tuple stands, value) -/
abbrev NEs := List (NestedKey × Addr × V)
def NPr (es : NEs) (xs : List (NestedKey × Addr × Value)) : Prop := Paired (fun (e : NestedKey × Addr × V) (x : NestedKey × Addr × Value) => e.1 = x.1 ∧ e.2.1 = x.2.1 ∧ RelV e.2.2 x.2.2) es xs
def NDat (hf : NestedKey → Int) (a : Addr) (es : NEs) (h : Heap) : Prop := (a == sysModules) = false ∧ es.length ≤ sizeLine ∧ ∃ xs, NPr es xs ∧ ∃ o ee ep, h.get? a = some o ∧ o.ExactDict ∧ o.data = .dict ee ep ∧ ee.toList = xs.map (fun x => ⟨hf x.1, .ref x.2.1, x.2.2⟩) ∧ (xs.map (·.1)).Nodup
/-- the dict at a, its object o being known -/
def NDO (hf : NestedKey → Int) (a : Addr) (es : NEs) (o : Obj) : HO := .ext fun h => h.get? a = some o ∧ NDat hf a es h
theorem NDat.at' {hf : NestedKey → Int} {a : Addr} {es : NEs} {h h' : Heap} (x : NDat hf a es h) (k : ∀ o, h.get? a = some o → h'.get? a = some o) : NDat hf a es h' := by
  obtain ⟨h1, h2, xs, h3, o, ee, ep, h4, h5⟩ := x
  exact ⟨h1, h2, xs, h3, o, ee, ep, k o h4, h5⟩
theorem NDat.ok {P : Program} {w : World} {H : Hp} {hf : NestedKey → Int} {a : Addr} {es : NEs} {h : Heap} {o : Obj} (x : NDat hf a es h) (ho : h.get? a = some o) : ObjOk P w H h a (NDO hf a es o) :=
  ⟨⟨ho, x⟩, ⟨o, ho⟩, fun _ _ y k => ⟨k _ y.1, y.2.at' k⟩⟩
theorem NDO.inj {hf : NestedKey → Int} {a : Addr} {es : NEs} {P : Program} {w : World} {H : Hp} {h : Heap} {o : Obj} (ok : HOk P w H h) (e : H a = some (NDO hf a es o)) : NDat hf a es h := (show ObjOk P w H h a (NDO hf a es o) from ok a _ e).1.2
theorem NDO.obj {hf : NestedKey → Int} {a : Addr} {es : NEs} {P : Program} {w : World} {H : Hp} {h : Heap} {o : Obj} (ok : HOk P w H h) (e : H a = some (NDO hf a es o)) : h.get? a = some o := (show ObjOk P w H h a (NDO hf a es o) from ok a _ e).1.1
/-! a tracked value is a key -/
mutual
inductive NkV (H : Hp) : NestedKey → V → Prop
  | non : NkV H .none .non
  | int (i : Int) : NkV H (.num i) (.int i)
  | str (s : Str) : NkV H (.text s) (.str s)
  | tup {a : Addr} {ks : List NestedKey} {vs : List V} : H a = some (.tup vs) → NkVs H ks vs → NkV H (.tup ks) (.ref a)
inductive NkVs (H : Hp) : List NestedKey → List V → Prop
  | nil : NkVs H [] []
  | cons {k : NestedKey} {v : V} {ks : List NestedKey} {vs : List V} : NkV H k v → NkVs H ks vs → NkVs H (k :: ks) (v :: vs)
end
mutual
theorem NkV.is {P : Program} {w : World} {H : Hp} {h : Heap} (ok : HOk P w H h) : ∀ {k : NestedKey} {v : V} {u : Value}, NkV H k v → RelV v u → NestedIs h k u
  | _, _, _, .non, r => by cases (show _ = Value.none from r); exact .none
  | _, _, _, .int i, r => by obtain ⟨t, rfl⟩ := (show ∃ t, _ = Value.int i t from r); exact .int i t
  | _, _, _, .str s, r => by obtain ⟨t, rfl⟩ := (show ∃ t, _ = Value.str s t from r); exact .text s t
  | _, _, _, .tup (a := a) (vs := vs) e ks, r => by
    cases (show _ = Value.ref a from r)
    obtain ⟨_, its, rv, o, h1, h2, n, h3⟩ := (show ObjOk P w H h a (.tup vs) from ok a _ e)
    exact .tup h1 h2 h3 (NkVs.is ok ks (by simpa using rv))
theorem NkVs.is {P : Program} {w : World} {H : Hp} {h : Heap} (ok : HOk P w H h) : ∀ {ks : List NestedKey} {vs : List V} {us : List Value}, NkVs H ks vs → Vals vs us → NestedAll h ks us
  | _, _, _, .nil, r => by cases r; exact .nil
  | _, _, _, .cons k ks, r => by cases r with
    | cons r rs => exact .cons (NkV.is ok k r) (NkVs.is ok ks rs)
end
/-- all keys stand, none is deep -/
def NKeys (H : Hp) (es : NEs) : Prop := ∀ e ∈ es, NkV H e.1 (.ref e.2.1) ∧ e.1.depth ≤ 8
def nval (es : NEs) (k : NestedKey) : Option V := (es.find? fun e => decide (e.1 = k)).map (·.2.2)
def nput (es : NEs) (k : NestedKey) (b : Addr) (v : V) : NEs := if (es.any fun e => decide (e.1 = k)) = true then es.map (fun e => if e.1 = k then (e.1, e.2.1, v) else e) else es ++ [(k, b, v)]
section
variable {P : Program} {w : World} {H : Hp} {h : Heap} {a : Addr} {es : NEs}
theorem NPr.val {xs : List (NestedKey × Addr × Value)} (r : NPr es xs) (k : NestedKey) : RelO (nval es k) ((atKey xs k).map (·.2)) := by
  unfold NPr at r
  induction r with
  | nil => trivial
  | @cons e x es xs hx t ih =>
    obtain ⟨h1, h2, h3⟩ := hx
    unfold nval atKey at ih ⊢
    rw [List.find?_cons, List.find?_cons, ← h1]
    by_cases q : e.1 = k
    · simp only [q, decide_true]; exact h3
    · simp only [q, decide_false]; exact ih
theorem NPr.any {xs : List (NestedKey × Addr × Value)} (r : NPr es xs) (k : NestedKey) : (es.any fun e => decide (e.1 = k)) = (atKey xs k).isSome := by
  unfold NPr at r
  induction r with
  | nil => rfl
  | @cons e x es xs hx t ih =>
    unfold atKey at ih ⊢
    rw [List.any_cons, List.find?_cons, ← hx.1, ih]
    by_cases q : e.1 = k
    · simp [q]
    · simp [q]
theorem NPr.put {xs : List (NestedKey × Addr × Value)} (r : NPr es xs) (k : NestedKey) (b : Addr) {v : V} {u : Value} (rv : RelV v u) : NPr (nput es k b v) (storedH xs k b u) := by
  unfold nput storedH
  rw [r.any k]
  split
  · have repl : ∀ {es : NEs} {xs : List (NestedKey × Addr × Value)}, NPr es xs → NPr (es.map fun e => if e.1 = k then (e.1, e.2.1, v) else e) (xs.map (putAt k u)) := fun {es xs} r => by
      unfold NPr at r ⊢
      induction r with
      | nil => exact .nil
      | @cons e x es xs hx t ih =>
        obtain ⟨h1, h2, h3⟩ := hx
        rw [List.map_cons, List.map_cons]
        refine .cons ?_ ih
        unfold putAt
        by_cases q : e.1 = k
        · rw [if_pos q, if_pos (by rw [← h1]; exact q)]; exact ⟨h1, h2, rv⟩
        · rw [if_neg q, if_neg (by rw [← h1]; exact q)]; exact ⟨h1, h2, h3⟩
    exact repl r
  · have app : ∀ {es : NEs} {xs : List (NestedKey × Addr × Value)}, NPr es xs → NPr (es ++ [(k, b, v)]) (xs ++ [(k, b, u)]) := fun {es xs} r => by
      unfold NPr at r ⊢
      induction r with
      | nil => exact .cons ⟨rfl, rfl, rv⟩ .nil
      | cons hx t ih => exact .cons hx ih
    exact app r
theorem NPr.len {xs : List (NestedKey × Addr × Value)} (r : NPr es xs) : es.length = xs.length := Paired.length r
end
/-- what the dict at a holds at the key that stands at b -/
def NGet (w : World) (H : Hp) (x y : V) (o : Option V) : Prop := ∃ (a b : Addr) (es : NEs) (k : NestedKey) (ob : Obj), x = .ref a ∧ y = .ref b ∧ H a = some (NDO (fun k => k.hash w) a es ob) ∧ NKeys H es ∧ NkV H k (.ref b) ∧ k.depth ≤ 8 ∧ o = nval es k
section
variable {X : Cx} {pins : List (Addr × Obj)} {σ : L2.St} {H : Hp} {s : Shared} {x y v : V} {u r q0 : Value} {o : Option V} {A : Around} {E : Value → Shared → Prop}
end
/-! readings and rules -/
def tNGet (w : World) (td ty : TE) : TE := fun σ H Q => td σ H fun x H1 => ty σ H1 fun y H2 => ∃ v, NGet w H2 x y (some v) ∧ Q v H2
def tNIn (w : World) (ty td : TE) : TE := fun σ H Q => ty σ H fun y H1 => td σ H1 fun x H2 => ∃ o, NGet w H2 x y o ∧ Q (.bl o.isSome) H2
def tNNotIn (w : World) (ty td : TE) : TE := fun σ H Q => ty σ H fun y H1 => td σ H1 fun x H2 => ∃ o, NGet w H2 x y o ∧ Q (.bl (!o.isSome)) H2
def sNPut (w : World) (td ty tv : TE) : TS := fun D σ H => tv σ H fun v H1 => td σ H1 fun x H2 => ty σ H2 fun y H3 => ∃ (a b : Addr) (es : NEs) (k : NestedKey) (ob : Obj), x = .ref a ∧ y = .ref b ∧ H3 a = some (NDO (fun k => k.hash w) a es ob) ∧ NKeys H3 es ∧ NkV H3 k (.ref b) ∧ k.depth ≤ 8 ∧ es.length < sizeLine ∧ ∀ o', D.nx σ (upd H3 a (NDO (fun k => k.hash w) a (nput es k b v) o'))
def tDNewN (w : World) : TE := fun _ H Q => ∀ p o, H p = none → Q (.ref p) (upd H p (NDO (fun k => k.hash w) p [] o))
section
variable {X : Cx} {w : World} {o i e value : Expr} {pos pos' tpos : Pos} {td ty tv : TE}
end
end Du
namespace Du
open PySem L2

/-! pure data, and how it lies in an abstract heap -/
inductive D where
  | non
  | bl (b : Bool)
  | int (i : Int)
  | str (s : Str)
  | lst (xs : List D)
  | tup (xs : List D)
  | dT (kvs : List (List Key × D))
  | dK (kvs : List (Key × D))
  | dN (hf : NestedKey → Int) (kvs : List (NestedKey × D))
  | ins (C : Addr) (fs : List (Str × D))
  /-- an address as such (a list that is changed, the spring of draws) -/
  | ptr (a : Addr)
  | ty (n : String)

mutual
def nkD : NestedKey → D
  | .none => .non
  | .num i => .int i
  | .text s => .str s
  | .tup ks => .tup (nkDs ks)
def nkDs : List NestedKey → List D
  | [] => []
  | k :: ks => nkD k :: nkDs ks
end
mutual
inductive Rep (Z : Addr → Prop) (H : Hp) : V → D → Prop
  | non : Rep Z H .non .non
  | bl (b : Bool) : Rep Z H (.bl b) (.bl b)
  | int (i : Int) : Rep Z H (.int i) (.int i)
  | str (s : Str) : Rep Z H (.str s) (.str s)
  | lst {a : Addr} {vs : List V} {ds : List D} : ¬ Z a → H a = some (.lst vs) → Reps Z H vs ds → Rep Z H (.ref a) (.lst ds)
  | tup {a : Addr} {vs : List V} {ds : List D} : ¬ Z a → H a = some (.tup vs) → Reps Z H vs ds → Rep Z H (.ref a) (.tup ds)
  | dT {a : Addr} {kvs : List (List Key × V)} {ds : List (List Key × D)} : ¬ Z a → Rd H a (.dT kvs) → RepT Z H kvs ds → Rep Z H (.ref a) (.dT ds)
  | dK {a : Addr} {kvs : List (Key × V)} {ds : List (Key × D)} : ¬ Z a → Rd H a (.dK kvs) → RepK Z H kvs ds → Rep Z H (.ref a) (.dK ds)
  | dN {a : Addr} {hf : NestedKey → Int} {es : NEs} {ob : Obj} {ds : List (NestedKey × D)} : ¬ Z a → H a = some (NDO hf a es ob) → RepN Z H es ds → Rep Z H (.ref a) (.dN hf ds)
  | ins {a C dx : Addr} {fs : List (Str × V)} {ds : List (Str × D)} : ¬ Z a → H a = some (.ins C dx fs) → RepF Z H fs ds → Rep Z H (.ref a) (.ins C ds)
  | ptr (a : Addr) : Rep Z H (.ref a) (.ptr a)
  | ty (n : String) : Rep Z H (.ty n) (.ty n)
inductive Reps (Z : Addr → Prop) (H : Hp) : List V → List D → Prop
  | nil : Reps Z H [] []
  | cons {v : V} {vs : List V} {d : D} {ds : List D} : Rep Z H v d → Reps Z H vs ds → Reps Z H (v :: vs) (d :: ds)
inductive RepT (Z : Addr → Prop) (H : Hp) : List (List Key × V) → List (List Key × D) → Prop
  | nil : RepT Z H [] []
  | cons {k : List Key} {v : V} {vs : List (List Key × V)} {d : D} {ds : List (List Key × D)} : Rep Z H v d → RepT Z H vs ds → RepT Z H ((k, v) :: vs) ((k, d) :: ds)
inductive RepK (Z : Addr → Prop) (H : Hp) : List (Key × V) → List (Key × D) → Prop
  | nil : RepK Z H [] []
  | cons {k : Key} {v : V} {vs : List (Key × V)} {d : D} {ds : List (Key × D)} : Rep Z H v d → RepK Z H vs ds → RepK Z H ((k, v) :: vs) ((k, d) :: ds)
inductive RepN (Z : Addr → Prop) (H : Hp) : NEs → List (NestedKey × D) → Prop
  | nil : RepN Z H [] []
  | cons {k : NestedKey} {b : Addr} {v : V} {es : NEs} {d : D} {ds : List (NestedKey × D)} : Rep Z H (.ref b) (nkD k) → k.depth ≤ 8 → Rep Z H v d → RepN Z H es ds → RepN Z H ((k, b, v) :: es) ((k, d) :: ds)
inductive RepF (Z : Addr → Prop) (H : Hp) : List (Str × V) → List (Str × D) → Prop
  | nil : RepF Z H [] []
  | cons {k : Str} {v : V} {vs : List (Str × V)} {d : D} {ds : List (Str × D)} : Rep Z H v d → RepF Z H vs ds → RepF Z H ((k, v) :: vs) ((k, d) :: ds)
end

/-- a dict may be locked meanwhile -/
def dictO : HO → Bool
  | .dK _ => true
  | .dT _ => true
  | _ => false
/-- what stood in H outside of Z stands in H' -/
def Ext (Z : Addr → Prop) (H H' : Hp) : Prop := ∀ a o, ¬ Z a → H a = some o → H' a = some o
abbrev Z0 : Addr → Prop := fun _ => False
def Ex (H H' : Hp) : Prop := ∀ a o, H a = some o → H' a = some o
theorem Ext.rf {Z : Addr → Prop} (H : Hp) : Ext Z H H := fun _ _ _ h => h
theorem Ext.tr {Z : Addr → Prop} {H H1 H2 : Hp} (x : Ext Z H H1) (y : Ext Z H1 H2) : Ext Z H H2 := fun a o n h => y a o n (x a o n h)
theorem Ext.wk {Z Z' : Addr → Prop} {H H1 : Hp} (x : Ext Z H H1) (h : ∀ a, Z a → Z' a) : Ext Z' H H1 := fun a o n e => x a o (fun z => n (h a z)) e
theorem Ex.to {Z : Addr → Prop} {H H1 : Hp} (x : Ex H H1) : Ext Z H H1 := fun a o _ h => x a o h
theorem Ex.rf (H : Hp) : Ex H H := fun _ _ h => h
theorem Ex.tr {H H1 H2 : Hp} (x : Ex H H1) (y : Ex H1 H2) : Ex H H2 := fun a o h => y a o (x a o h)
theorem Ext.new {Z : Addr → Prop} {H : Hp} {p : Addr} {o : HO} (h : H p = none) : Ext Z H (upd H p o) := fun a u _ e => by
  rw [upd_ne (ne_of_none e h)]
  exact e
theorem Ex.new {H : Hp} {p : Addr} {o : HO} (h : H p = none) : Ex H (upd H p o) := fun a u e => by
  rw [upd_ne (ne_of_none e h)]
  exact e
/-- an address of Z may change -/
theorem Ext.mut {Z : Addr → Prop} {H H1 : Hp} {p : Addr} {o : HO} (x : Ext Z H H1) (h : Z p) : Ext Z H (upd H1 p o) := fun a u n e => by
  have ne : a ≠ p := fun z => n (z ▸ h)
  rw [upd_ne ne]
  exact x a u n e
theorem Ex.exact {H H' : Hp} (x : Ex H H') {a : Addr} {o : HO} (h : H a = some o) : H' a = some o := x a o h
theorem Ext.exact {Z : Addr → Prop} {H H' : Hp} (x : Ext Z H H') {a : Addr} {o : HO} (n : ¬ Z a) (h : H a = some o) : H' a = some o := x a o n h
theorem Ex.there {H H' : Hp} (x : Ex H H') {a : Addr} {o : HO} (h : H a = some o) : ∃ o', H' a = some o' := ⟨o, x a o h⟩
theorem Ex.free {H H' : Hp} (x : Ex H H') {a : Addr} (h : H' a = none) : H a = none := by
  cases q : H a with
  | none => rfl
  | some o =>
    obtain ⟨o', e⟩ := x.there q
    rw [h] at e; cases e

/-- a locked dict seen as the dict -/
def vw : HO → HO
  | .frz o (.dK k) => .dK k
  | .frz o (.dT k) => .dT k
  | o => o
def ExtW (Z : Addr → Prop) (H H' : Hp) : Prop := ∀ a o, ¬ Z a → H a = some o → ∃ o', H' a = some o' ∧ vw o' = vw o
theorem Ext.w {Z : Addr → Prop} {H H' : Hp} (x : Ext Z H H') : ExtW Z H H' := fun a o n h => ⟨o, x a o n h, rfl⟩
theorem vw_frz {o' : HO} {u : HO} (hd : dictO u = true) (h : vw o' = u) : o' = u ∨ ∃ o, o' = .frz o u := by
  cases o' with
  | frz o v =>
    cases v with
    | dK k => exact .inr ⟨o, by rw [← h]; rfl⟩
    | dT k => exact .inr ⟨o, by rw [← h]; rfl⟩
    | _ => subst h; cases hd
  | _ => exact .inl h
theorem vw_eq {o' o : HO} (hd : dictO o = false) (hf : ∀ p u, o ≠ .frz p u) (h : vw o' = vw o) : o' = o := by
  have e : vw o = o := by
    cases o with
    | frz p u => exact absurd rfl (hf p u)
    | _ => rfl
  rw [e] at h
  cases o' with
  | frz p v =>
    cases v with
    | dK k => rw [← h] at hd; cases hd
    | dT k => rw [← h] at hd; cases hd
    | _ => exact h
  | _ => exact h
theorem ExtW.exact {Z : Addr → Prop} {H H' : Hp} (x : ExtW Z H H') {a : Addr} {o : HO} (n : ¬ Z a) (h : H a = some o) (hd : dictO o = false) (hf : ∀ p u, o ≠ .frz p u) : H' a = some o := by
  obtain ⟨o', e, v⟩ := x a o n h
  rw [e, vw_eq hd hf v]
theorem ExtW.rd {Z : Addr → Prop} {H H' : Hp} (x : ExtW Z H H') {a : Addr} {u : HO} (n : ¬ Z a) (hd : dictO u = true) (h : Rd H a u) : Rd H' a u := by
  have vu : ∀ o, vw (.frz o u) = u := fun o => by cases u <;> first | rfl | cases hd
  have vv : vw u = u := by cases u <;> first | rfl | cases hd
  rcases h with h | ⟨o, h⟩
  · obtain ⟨o', e, v⟩ := x a u n h
    rcases vw_frz hd (v.trans vv) with z | ⟨p, z⟩
    · exact .inl (by rw [e, z])
    · exact .inr ⟨p, by rw [e, z]⟩
  · obtain ⟨o', e, v⟩ := x a _ n h
    rcases vw_frz hd (v.trans (vu o)) with z | ⟨p, z⟩
    · exact .inl (by rw [e, z])
    · exact .inr ⟨p, by rw [e, z]⟩
mutual
theorem Rep.monoW {Z : Addr → Prop} {H H' : Hp} (x : ExtW Z H H') : ∀ {v : V} {d : D}, Rep Z H v d → Rep Z H' v d
  | _, _, .non => .non
  | _, _, .bl b => .bl b
  | _, _, .int i => .int i
  | _, _, .str s => .str s
  | _, _, .lst n h r => .lst n (x.exact n h rfl (fun _ _ z => nomatch z)) (Reps.monoW x r)
  | _, _, .tup n h r => .tup n (x.exact n h rfl (fun _ _ z => nomatch z)) (Reps.monoW x r)
  | _, _, .dT n h r => .dT n (x.rd n rfl h) (RepT.monoW x r)
  | _, _, .dK n h r => .dK n (x.rd n rfl h) (RepK.monoW x r)
  | _, _, .dN n h r => .dN n (x.exact n h rfl (fun _ _ z => nomatch z)) (RepN.monoW x r)
  | _, _, .ins n h r => .ins n (x.exact n h rfl (fun _ _ z => nomatch z)) (RepF.monoW x r)
  | _, _, .ptr a => .ptr a
  | _, _, .ty n => .ty n
theorem Reps.monoW {Z : Addr → Prop} {H H' : Hp} (x : ExtW Z H H') : ∀ {v : List V} {d : List D}, Reps Z H v d → Reps Z H' v d
  | _, _, .nil => .nil
  | _, _, .cons r t => .cons (Rep.monoW x r) (Reps.monoW x t)
theorem RepT.monoW {Z : Addr → Prop} {H H' : Hp} (x : ExtW Z H H') : ∀ {v : List (List Key × V)} {d : List (List Key × D)}, RepT Z H v d → RepT Z H' v d
  | _, _, .nil => .nil
  | _, _, .cons r t => .cons (Rep.monoW x r) (RepT.monoW x t)
theorem RepK.monoW {Z : Addr → Prop} {H H' : Hp} (x : ExtW Z H H') : ∀ {v : List (Key × V)} {d : List (Key × D)}, RepK Z H v d → RepK Z H' v d
  | _, _, .nil => .nil
  | _, _, .cons r t => .cons (Rep.monoW x r) (RepK.monoW x t)
theorem RepN.monoW {Z : Addr → Prop} {H H' : Hp} (x : ExtW Z H H') : ∀ {v : NEs} {d : List (NestedKey × D)}, RepN Z H v d → RepN Z H' v d
  | _, _, .nil => .nil
  | _, _, .cons k kd r t => .cons (Rep.monoW x k) kd (Rep.monoW x r) (RepN.monoW x t)
theorem RepF.monoW {Z : Addr → Prop} {H H' : Hp} (x : ExtW Z H H') : ∀ {v : List (Str × V)} {d : List (Str × D)}, RepF Z H v d → RepF Z H' v d
  | _, _, .nil => .nil
  | _, _, .cons r t => .cons (Rep.monoW x r) (RepF.monoW x t)
end
theorem Rep.mono {Z : Addr → Prop} {H H' : Hp} (x : Ext Z H H') {v : V} {d : D} (r : Rep Z H v d) : Rep Z H' v d := r.monoW x.w
theorem Reps.mono {Z : Addr → Prop} {H H' : Hp} (x : Ext Z H H') {v : List V} {d : List D} (r : Reps Z H v d) : Reps Z H' v d := r.monoW x.w
theorem RepT.mono {Z : Addr → Prop} {H H' : Hp} (x : Ext Z H H') {v : List (List Key × V)} {d : List (List Key × D)} (r : RepT Z H v d) : RepT Z H' v d := r.monoW x.w
theorem RepK.mono {Z : Addr → Prop} {H H' : Hp} (x : Ext Z H H') {v : List (Key × V)} {d : List (Key × D)} (r : RepK Z H v d) : RepK Z H' v d := r.monoW x.w
theorem RepN.mono {Z : Addr → Prop} {H H' : Hp} (x : Ext Z H H') {v : NEs} {d : List (NestedKey × D)} (r : RepN Z H v d) : RepN Z H' v d := r.monoW x.w
theorem RepF.mono {Z : Addr → Prop} {H H' : Hp} (x : Ext Z H H') {v : List (Str × V)} {d : List (Str × D)} (r : RepF Z H v d) : RepF Z H' v d := r.monoW x.w
theorem Rd.some {H : Hp} {a : Addr} {u : HO} (h : Rd H a u) : ∃ o, H a = some o := by
  rcases h with h | ⟨o, h⟩ <;> exact ⟨_, h⟩
/-! other addresses may be forbidden, as long as they are none of the heap -/
mutual
theorem Rep.zs {Z Z' : Addr → Prop} {H : Hp} (x : ∀ a, Z' a → Z a ∨ H a = none) : ∀ {v : V} {d : D}, Rep Z H v d → Rep Z' H v d
  | _, _, .non => .non
  | _, _, .bl b => .bl b
  | _, _, .int i => .int i
  | _, _, .str s => .str s
  | _, _, .lst n h r => .lst (fun z => (x _ z).elim n fun e => by rw [h] at e; cases e) h (Reps.zs x r)
  | _, _, .tup n h r => .tup (fun z => (x _ z).elim n fun e => by rw [h] at e; cases e) h (Reps.zs x r)
  | _, _, .dT n h r => .dT (fun z => (x _ z).elim n fun e => by obtain ⟨o, q⟩ := Rd.some h; rw [q] at e; cases e) h (RepT.zs x r)
  | _, _, .dK n h r => .dK (fun z => (x _ z).elim n fun e => by obtain ⟨o, q⟩ := Rd.some h; rw [q] at e; cases e) h (RepK.zs x r)
  | _, _, .dN n h r => .dN (fun z => (x _ z).elim n fun e => by rw [h] at e; cases e) h (RepN.zs x r)
  | _, _, .ins n h r => .ins (fun z => (x _ z).elim n fun e => by rw [h] at e; cases e) h (RepF.zs x r)
  | _, _, .ptr a => .ptr a
  | _, _, .ty n => .ty n
theorem Reps.zs {Z Z' : Addr → Prop} {H : Hp} (x : ∀ a, Z' a → Z a ∨ H a = none) : ∀ {v : List V} {d : List D}, Reps Z H v d → Reps Z' H v d
  | _, _, .nil => .nil
  | _, _, .cons r t => .cons (Rep.zs x r) (Reps.zs x t)
theorem RepT.zs {Z Z' : Addr → Prop} {H : Hp} (x : ∀ a, Z' a → Z a ∨ H a = none) : ∀ {v : List (List Key × V)} {d : List (List Key × D)}, RepT Z H v d → RepT Z' H v d
  | _, _, .nil => .nil
  | _, _, .cons r t => .cons (Rep.zs x r) (RepT.zs x t)
theorem RepK.zs {Z Z' : Addr → Prop} {H : Hp} (x : ∀ a, Z' a → Z a ∨ H a = none) : ∀ {v : List (Key × V)} {d : List (Key × D)}, RepK Z H v d → RepK Z' H v d
  | _, _, .nil => .nil
  | _, _, .cons r t => .cons (Rep.zs x r) (RepK.zs x t)
theorem RepN.zs {Z Z' : Addr → Prop} {H : Hp} (x : ∀ a, Z' a → Z a ∨ H a = none) : ∀ {v : NEs} {d : List (NestedKey × D)}, RepN Z H v d → RepN Z' H v d
  | _, _, .nil => .nil
  | _, _, .cons k kd r t => .cons (Rep.zs x k) kd (Rep.zs x r) (RepN.zs x t)
theorem RepF.zs {Z Z' : Addr → Prop} {H : Hp} (x : ∀ a, Z' a → Z a ∨ H a = none) : ∀ {v : List (Str × V)} {d : List (Str × D)}, RepF Z H v d → RepF Z' H v d
  | _, _, .nil => .nil
  | _, _, .cons r t => .cons (Rep.zs x r) (RepF.zs x t)
end
theorem Reps.len {Z : Addr → Prop} {H : Hp} : ∀ {vs : List V} {ds : List D}, Reps Z H vs ds → vs.length = ds.length
  | _, _, .nil => rfl
  | _, _, .cons _ t => by simp [Reps.len t]
theorem Reps.app {Z : Addr → Prop} {H : Hp} : ∀ {vs ws : List V} {ds es : List D}, Reps Z H vs ds → Reps Z H ws es → Reps Z H (vs ++ ws) (ds ++ es)
  | _, _, _, _, .nil, s => s
  | _, _, _, _, .cons r t, s => .cons r (Reps.app t s)
theorem Reps.get {Z : Addr → Prop} {H : Hp} : ∀ {vs : List V} {ds : List D} {i : Nat} {d : D}, Reps Z H vs ds → ds[i]? = some d → ∃ v, vs[i]? = some v ∧ Rep Z H v d
  | _, _, _, _, .nil, e => by simp at e
  | _, _, 0, _, .cons r _, e => by simp at e; subst e; exact ⟨_, rfl, r⟩
  | _, _, i + 1, d, .cons _ t, e => by
    obtain ⟨v, h1, h2⟩ := Reps.get (i := i) (d := d) t (by simpa using e)
    exact ⟨v, by simpa using h1, h2⟩
theorem Reps.getV {Z : Addr → Prop} {H : Hp} : ∀ {vs : List V} {ds : List D} {i : Nat} {v : V}, Reps Z H vs ds → vs[i]? = some v → ∃ d, ds[i]? = some d ∧ Rep Z H v d
  | _, _, _, _, .nil, e => by simp at e
  | _, _, 0, _, .cons r _, e => by simp at e; subst e; exact ⟨_, rfl, r⟩
  | _, _, i + 1, v, .cons _ t, e => by
    obtain ⟨d, h1, h2⟩ := Reps.getV (i := i) (v := v) t (by simpa using e)
    exact ⟨d, by simpa using h1, h2⟩
theorem Reps.take {Z : Addr → Prop} {H : Hp} : ∀ {vs : List V} {ds : List D} (n : Nat), Reps Z H vs ds → Reps Z H (vs.take n) (ds.take n)
  | _, _, 0, _ => by simpa using .nil
  | _, _, _ + 1, .nil => by simpa using .nil
  | _, _, n + 1, .cons r t => .cons r (Reps.take n t)
theorem Reps.drop {Z : Addr → Prop} {H : Hp} : ∀ {vs : List V} {ds : List D} (n : Nat), Reps Z H vs ds → Reps Z H (vs.drop n) (ds.drop n)
  | _, _, 0, r => r
  | _, _, _ + 1, .nil => by simpa using .nil
  | _, _, n + 1, .cons _ t => Reps.drop n t
theorem Reps.rev {Z : Addr → Prop} {H : Hp} : ∀ {vs : List V} {ds : List D}, Reps Z H vs ds → Reps Z H vs.reverse ds.reverse
  | _, _, .nil => .nil
  | _, _, .cons r t => by rw [List.reverse_cons, List.reverse_cons]; exact (Reps.rev t).app (.cons r .nil)
theorem Reps.strs {Z : Addr → Prop} {H : Hp} : ∀ {vs : List V} {ss : List Str}, Reps Z H vs (ss.map D.str) → vs = ss.map V.str
  | _, [], .nil => rfl
  | _, s :: ss, .cons (.str _) t => by simp [Reps.strs t]
theorem Reps.ofStrs {Z : Addr → Prop} {H : Hp} : ∀ (ss : List Str), Reps Z H (ss.map V.str) (ss.map D.str)
  | [] => .nil
  | s :: ss => .cons (.str s) (Reps.ofStrs ss)
theorem Reps.bls {Z : Addr → Prop} {H : Hp} : ∀ {vs : List V} {ss : List Bool}, Reps Z H vs (ss.map D.bl) → vs = ss.map V.bl
  | _, [], .nil => rfl
  | _, s :: ss, .cons (.bl _) t => by simp [Reps.bls t]
theorem RepF.look {Z : Addr → Prop} {H : Hp} {f : Str} : ∀ {fs : List (Str × V)} {ds : List (Str × D)} {d : D}, RepF Z H fs ds → ds.lookup f = some d → ∃ v, fs.lookup f = some v ∧ Rep Z H v d
  | _, _, _, .nil, e => by simp at e
  | _, _, d, .cons (k := k) r t, e => by
    rw [List.lookup_cons] at e
    by_cases h : f == k
    · rw [h] at e; cases e
      exact ⟨_, by rw [List.lookup_cons, h], r⟩
    · rw [Bool.not_eq_true] at h
      rw [h] at e
      obtain ⟨v, h1, h2⟩ := RepF.look t e
      exact ⟨v, by rw [List.lookup_cons, h]; exact h1, h2⟩
theorem RepF.none {Z : Addr → Prop} {H : Hp} {f : Str} : ∀ {fs : List (Str × V)} {ds : List (Str × D)}, RepF Z H fs ds → ds.lookup f = none → fs.lookup f = none
  | _, _, .nil, e => by simp
  | _, _, .cons (k := k) r t, e => by
    rw [List.lookup_cons] at e ⊢
    by_cases h : f == k
    · rw [h] at e; cases e
    · rw [Bool.not_eq_true] at h
      rw [h] at e ⊢
      exact RepF.none t e

/-! slots -/
abbrev Rho := List (Option D)
def isTup : HO → Bool
  | .tup _ => true
  | _ => false
def okZ (Z : Addr → Prop) (H : Hp) : Prop := ∀ a, Z a → ∃ o, H a = some o ∧ isTup o = false
theorem okZ.no {Z : Addr → Prop} {H : Hp} (k : okZ Z H) {p : Addr} (h : H p = none) : ¬ Z p := fun z => by
  obtain ⟨o, e, _⟩ := k p z
  rw [h] at e; cases e
theorem okZ.noT {Z : Addr → Prop} {H : Hp} (k : okZ Z H) {p : Addr} {vs : List V} (h : H p = some (.tup vs)) : ¬ Z p := fun z => by
  obtain ⟨o, e, i⟩ := k p z
  rw [h] at e; cases e; cases i
theorem okZ.ex {Z : Addr → Prop} {H H' : Hp} (k : okZ Z H) (x : Ex H H') : okZ Z H' := fun a z => by
  obtain ⟨o, e, i⟩ := k a z
  exact ⟨o, x a o e, i⟩
theorem okZ.upd {Z : Addr → Prop} {H : Hp} (k : okZ Z H) {p : Addr} {o : HO} (ho : isTup o = false) : okZ Z (L2.upd H p o) := fun a z => by
  by_cases e : a = p
  · subst e; exact ⟨o, upd_same, ho⟩
  · rw [upd_ne e]; exact k a z
theorem okZ.new {Z : Addr → Prop} {H : Hp} (k : okZ Z H) {p : Addr} {o : HO} (hp : H p = none) : okZ Z (L2.upd H p o) := fun a z => by
  have e : a ≠ p := fun e => k.no hp (e ▸ z)
  rw [upd_ne e]; exact k a z
def SRep (Z : Addr → Prop) (H : Hp) (σ : L2.St) (ρ : Rho) : Prop := σ.length = ρ.length ∧ ∀ (i : Nat) (d : D), ρ[i]? = some (some d) → ∃ v, σ[i]? = some (some v) ∧ Rep Z H v d
theorem SRep.mono {Z : Addr → Prop} {H H' : Hp} {σ : L2.St} {ρ : Rho} (s : SRep Z H σ ρ) (x : Ext Z H H') : SRep Z H' σ ρ := ⟨s.1, fun i d e => by
  obtain ⟨v, h1, h2⟩ := s.2 i d e
  exact ⟨v, h1, h2.mono x⟩⟩
theorem SRep.monoW {Z : Addr → Prop} {H H' : Hp} {σ : L2.St} {ρ : Rho} (s : SRep Z H σ ρ) (x : ExtW Z H H') : SRep Z H' σ ρ := ⟨s.1, fun i d e => by
  obtain ⟨v, h1, h2⟩ := s.2 i d e
  exact ⟨v, h1, h2.monoW x⟩⟩
theorem SRep.zs {Z Z' : Addr → Prop} {H : Hp} {σ : L2.St} {ρ : Rho} (s : SRep Z H σ ρ) (x : ∀ a, Z' a → Z a ∨ H a = none) : SRep Z' H σ ρ := ⟨s.1, fun i d e => by
  obtain ⟨v, h1, h2⟩ := s.2 i d e
  exact ⟨v, h1, h2.zs x⟩⟩
theorem SRep.set {Z : Addr → Prop} {H : Hp} {σ : L2.St} {ρ : Rho} {v : V} {d : D} (s : SRep Z H σ ρ) (i : Nat) (r : Rep Z H v d) : SRep Z H (σ.set i (some v)) (ρ.set i (some d)) := ⟨by simp [s.1], fun j e h => by
  by_cases hj : i = j
  · subst hj
    have hl : i < ρ.length := by
      have := (List.getElem?_eq_some_iff.mp h).1
      simpa using this
    rw [List.getElem?_set_self hl] at h
    cases h
    exact ⟨v, List.getElem?_set_self (by rw [s.1]; exact hl), r⟩
  · rw [List.getElem?_set_ne hj] at h
    obtain ⟨w, h1, h2⟩ := s.2 j e h
    exact ⟨w, by rw [List.getElem?_set_ne hj]; exact h1, h2⟩⟩
theorem SRep.unset {Z : Addr → Prop} {H : Hp} {σ : L2.St} {ρ : Rho} (s : SRep Z H σ ρ) (i : Nat) (o : Option V) : SRep Z H (σ.set i o) (ρ.set i none) := ⟨by simp [s.1], fun j e h => by
  by_cases hj : i = j
  · subst hj
    have hl : i < ρ.length := by
      have := (List.getElem?_eq_some_iff.mp h).1
      simpa using this
    rw [List.getElem?_set_self hl] at h
    cases h
  · rw [List.getElem?_set_ne hj] at h
    obtain ⟨w, h1, h2⟩ := s.2 j e h
    exact ⟨w, by rw [List.getElem?_set_ne hj]; exact h1, h2⟩⟩
def wipeR (ρ : Rho) : List Nat → Rho
  | [] => ρ
  | v :: vs => (wipeR ρ vs).set v none
theorem SRep.wipe {Z : Addr → Prop} {H : Hp} {σ : L2.St} {ρ : Rho} (s : SRep Z H σ ρ) : ∀ (vs : List Nat), SRep Z H (L2.wipe σ vs) (wipeR ρ vs)
  | [] => s
  | v :: vs => (SRep.wipe s vs).unset v none
theorem SRep.start {Z : Addr → Prop} {H : Hp} {vs : List V} {ds : List D} (r : Reps Z H vs ds) (n : Nat) : SRep Z H (vs.map some ++ List.replicate n none) (ds.map some ++ List.replicate n none) := ⟨by simp [r.len], fun i d e => by
  by_cases h : i < ds.length
  · rw [List.getElem?_append_left (by simpa using h), List.getElem?_map] at e
    cases q : ds[i]? with
    | none => rw [q] at e; cases e
    | some d' =>
      rw [q] at e; cases e
      obtain ⟨v, h1, h2⟩ := r.get q
      exact ⟨v, by rw [List.getElem?_append_left (by simpa [r.len] using h), List.getElem?_map, h1]; rfl, h2⟩
  · rw [List.getElem?_append_right (by simpa using h), List.getElem?_replicate] at e
    split at e <;> cases e⟩
/-- forgetting slots -/
inductive Lq : Rho → Rho → Prop
  | nil : Lq [] []
  | skip {r' r : Rho} {o : Option D} : Lq r' r → Lq (none :: r') (o :: r)
  | keep {r' r : Rho} {o : Option D} : Lq r' r → Lq (o :: r') (o :: r)
theorem Lq.rf : ∀ r : Rho, Lq r r
  | [] => .nil
  | _ :: r => .keep (Lq.rf r)
theorem Lq.get : ∀ {r' r : Rho} {i : Nat} {d : D}, Lq r' r → r'[i]? = some (some d) → r[i]? = some (some d)
  | _, _, _, _, .nil, h => by simp at h
  | _, _, 0, _, .skip _, h => by simp at h
  | _, _, i + 1, _, .skip l, h => by simpa using Lq.get l (by simpa using h)
  | _, _, 0, _, .keep _, h => by simpa using h
  | _, _, i + 1, _, .keep l, h => by simpa using Lq.get l (by simpa using h)
theorem Lq.len : ∀ {r' r : Rho}, Lq r' r → r'.length = r.length
  | _, _, .nil => rfl
  | _, _, .skip l => by simp [Lq.len l]
  | _, _, .keep l => by simp [Lq.len l]
theorem SRep.lq {Z : Addr → Prop} {H : Hp} {σ : L2.St} {ρ ρ' : Rho} (s : SRep Z H σ ρ) (l : Lq ρ' ρ) : SRep Z H σ ρ' := ⟨s.1.trans l.len.symm, fun i d e => s.2 i d (l.get e)⟩
end Du
namespace Du
open PySem L2

/-! what a reading evaluates to, in data -/
def Ev (te : TE) (ρ : Rho) (d : D) : Prop := ∀ (Z : Addr → Prop) (σ : L2.St) (H : Hp) (Q : VK), okZ Z H → SRep Z H σ ρ → (∀ v H', Ex H H' → Rep Z H' v d → Q v H') → te σ H Q
def EvT (tt : TT) (ρ : Rho) (b : Bool) : Prop := ∀ (Z : Addr → Prop) (σ : L2.St) (H : Hp) (Q : Bool → Hp → Prop), okZ Z H → SRep Z H σ ρ → (∀ H', Ex H H' → Q b H') → tt σ H Q
def EvA (ta : TA) (ρ : Rho) (ds : List D) : Prop := ∀ (Z : Addr → Prop) (σ : L2.St) (H : Hp) (Q : List V → Hp → Prop), okZ Z H → SRep Z H σ ρ → (∀ vs H', Ex H H' → Reps Z H' vs ds → Q vs H') → ta σ H Q
def EvO (to : TO) (ρ : Rho) (o : Option Int) : Prop := ∀ (Z : Addr → Prop) (σ : L2.St) (H : Hp) (Q : Option Int → Hp → Prop), okZ Z H → SRep Z H σ ρ → (∀ H', Ex H H' → Q o H') → to σ H Q
/-- a relation of two values, one value, a list of values, in data -/
def R2D (r : R2) (d e z : D) : Prop := ∀ (Z : Addr → Prop) (H : Hp) (x y : V) (Q : VK), okZ Z H → Rep Z H x d → Rep Z H y e → (∀ v H', Ex H H' → Rep Z H' v z → Q v H') → r x y H Q
def R1D (r : V → Hp → VK → Prop) (d z : D) : Prop := ∀ (Z : Addr → Prop) (H : Hp) (x : V) (Q : VK), okZ Z H → Rep Z H x d → (∀ v H', Ex H H' → Rep Z H' v z → Q v H') → r x H Q
def RLD (r : List V → Hp → VK → Prop) (ds : List D) (z : D) : Prop := ∀ (Z : Addr → Prop) (H : Hp) (xs : List V) (Q : VK), okZ Z H → Reps Z H xs ds → (∀ v H', Ex H H' → Rep Z H' v z → Q v H') → r xs H Q
def RMD (r : V → List V → Hp → VK → Prop) (d : D) (ds : List D) (z : D) : Prop := ∀ (Z : Addr → Prop) (H : Hp) (x : V) (xs : List V) (Q : VK), okZ Z H → Rep Z H x d → Reps Z H xs ds → (∀ v H', Ex H H' → Rep Z H' v z → Q v H') → r x xs H Q

section
variable {ρ : Rho} {te ta tb tc : TE} {tt t u : TT} {d e f z : D} {b c : Bool} {ds es : List D}
theorem ev_var {i : Nat} (h : ρ[i]? = some (some d)) : Ev (tVar i) ρ d := fun Z σ H Q k s q => by
  obtain ⟨v, h1, h2⟩ := s.2 i d h
  exact ⟨v, h1, q v H (Ex.rf H) h2⟩
theorem ev_int {i : Int} : Ev (tC (.int i)) ρ (.int i) := fun _ _ H _ _ _ q => q _ H (Ex.rf H) (.int i)
theorem ev_bl : Ev (tC (.bl b)) ρ (.bl b) := fun _ _ H _ _ _ q => q _ H (Ex.rf H) (.bl b)
theorem ev_str {s : Str} : Ev (tC (.str s)) ρ (.str s) := fun _ _ H _ _ _ q => q _ H (Ex.rf H) (.str s)
theorem ev_non : Ev (tC .non) ρ .non := fun _ _ H _ _ _ q => q _ H (Ex.rf H) .non
theorem ev_op {r : R2} (ha : Ev ta ρ d) (hb : Ev tb ρ e) (hr : R2D r d e z) : Ev (tOp r ta tb) ρ z := fun Z σ H Q k s q =>
  ha Z σ H _ k s fun x H1 x1 r1 => hb Z σ H1 _ (k.ex x1) (s.mono x1.to) fun y H2 x2 r2 =>
    hr Z H2 x y Q ((k.ex x1).ex x2) (r1.mono x2.to) r2 fun v H3 x3 r3 => q v H3 ((x1.tr x2).tr x3) r3
theorem ev_un {r : V → Hp → VK → Prop} (ha : Ev ta ρ d) (hr : R1D r d z) : Ev (tUn r ta) ρ z := fun Z σ H Q k s q =>
  ha Z σ H _ k s fun x H1 x1 r1 => hr Z H1 x Q (k.ex x1) r1 fun v H3 x3 r3 => q v H3 (x1.tr x3) r3
theorem ev_nil : EvA tNil ρ [] := fun _ _ H _ _ _ q => q [] H (Ex.rf H) .nil
theorem ev_cons {tr : TA} (ha : Ev ta ρ d) (hr : EvA tr ρ ds) : EvA (tCons ta tr) ρ (d :: ds) := fun Z σ H Q k s q =>
  ha Z σ H _ k s fun x H1 x1 r1 => hr Z σ H1 _ (k.ex x1) (s.mono x1.to) fun xs H2 x2 r2 => q _ H2 (x1.tr x2) (.cons (r1.mono x2.to) r2)
theorem ev_starT {K : PySem.W.Frag} {tr : TA} (ha : Ev ta ρ (.tup es)) (hr : EvA tr ρ ds) : EvA (StX.tStar K ta tr) ρ (es ++ ds) := fun Z σ H Q k s q =>
  ha Z σ H _ k s fun x H1 x1 r1 => by
    cases r1 with
    | tup n h rs =>
      exact ⟨_, _, rfl, .inl (.inl (.inl h)), hr Z σ H1 _ (k.ex x1) (s.mono x1.to) fun xs H2 x2 r2 => q _ H2 (x1.tr x2) ((rs.mono x2.to).app r2)⟩
theorem ev_tup {ta : TA} (ha : EvA ta ρ ds) (hz : ds.length ≤ 100000) : Ev (tTup ta) ρ (.tup ds) := fun Z σ H Q k s q =>
  ha Z σ H _ k s fun vs H1 x1 r1 => ⟨Nat.le_trans (by rw [r1.len]; exact hz) (by decide), fun p hp =>
    q _ _ (x1.tr (Ex.new hp)) (.tup ((k.ex x1).no hp) upd_same (r1.mono (Ext.new hp)))⟩
theorem ev_lst {ta : TA} (ha : EvA ta ρ ds) (hz : ds.length ≤ 100000) : Ev (tLst ta) ρ (.lst ds) := fun Z σ H Q k s q =>
  ha Z σ H _ k s fun vs H1 x1 r1 => ⟨Nat.le_trans (by rw [r1.len]; exact hz) (by decide), fun p hp =>
    q _ _ (x1.tr (Ex.new hp)) (.lst ((k.ex x1).no hp) upd_same (r1.mono (Ext.new hp)))⟩
theorem ev_cb {r : List V → Hp → VK → Prop} {ta : TA} (ha : EvA ta ρ ds) (hr : RLD r ds z) : Ev (tCB r ta) ρ z := fun Z σ H Q k s q =>
  ha Z σ H _ k s fun vs H1 x1 r1 => hr Z H1 vs Q (k.ex x1) r1 fun v H2 x2 r2 => q v H2 (x1.tr x2) r2
theorem ev_then {kk : V → Hp → VK → Prop} (ha : Ev ta ρ d) (hr : R1D kk d z) : Ev (tThen ta kk) ρ z := fun Z σ H Q k s q =>
  ha Z σ H _ k s fun x H1 x1 r1 => hr Z H1 x Q (k.ex x1) r1 fun v H3 x3 r3 => q v H3 (x1.tr x3) r3
theorem ev_fld {K : PySem.W.Frag} {C : Addr} {g : Str} {fs : List (Str × D)} (ha : Ev ta ρ (.ins C fs)) (hc : Cls K C) (hn : NoAttr K C g) (hl : fs.lookup g = some d) : Ev (tFld K ta g) ρ d := fun Z σ H Q k s q =>
  ha Z σ H _ k s fun x H1 x1 r1 => by
    cases r1 with
    | ins n h rs =>
      obtain ⟨v, h1, h2⟩ := rs.look hl
      exact ⟨_, _, _, _, v, rfl, h, hc, hn, h1, q v H1 x1 h2⟩
theorem et_test (h : Ev te ρ (.bl b)) : EvT (tTest te) ρ b := fun Z σ H Q k s q => h Z σ H _ k s fun v H1 x1 r1 => by cases r1; exact ⟨b, rfl, q H1 x1⟩
theorem et_B (h : Ev te ρ (.bl b)) : EvT (tB te) ρ b := fun Z σ H Q k s q => h Z σ H _ k s fun v H1 x1 r1 => by cases r1; exact ⟨b, rfl, q H1 x1⟩
theorem et_not (h : EvT t ρ b) : EvT (tNot t) ρ (!b) := fun Z σ H Q k s q => h Z σ H _ k s fun H1 x1 => q H1 x1
theorem et_and (h : EvT t ρ b) (g : b = true → EvT u ρ c) : EvT (tAnd t u) ρ (b && c) := fun Z σ H Q k s q => h Z σ H _ k s fun H1 x1 => by
  cases b with
  | true => exact iteT (g rfl Z σ H1 _ (k.ex x1) (s.mono x1.to) fun H2 x2 => q H2 (x1.tr x2))
  | false => exact iteF (q H1 x1)
theorem et_or (h : EvT t ρ b) (g : b = false → EvT u ρ c) : EvT (tOr t u) ρ (b || c) := fun Z σ H Q k s q => h Z σ H _ k s fun H1 x1 => by
  cases b with
  | true => exact iteT (q H1 x1)
  | false => exact iteF (g rfl Z σ H1 _ (k.ex x1) (s.mono x1.to) fun H2 x2 => q H2 (x1.tr x2))
theorem et_yes : EvT tYes ρ true := fun _ _ H _ _ _ q => q H (Ex.rf H)
theorem ev_andV (h : Ev ta ρ (.bl b)) (g : b = true → Ev tb ρ (.bl c)) : Ev (tAndV ta tb) ρ (.bl (b && c)) := fun Z σ H Q k s q => h Z σ H _ k s fun v H1 x1 r1 => by
  cases r1
  refine ⟨b, rfl, ?_⟩
  cases b with
  | true => exact iteT (g rfl Z σ H1 _ (k.ex x1) (s.mono x1.to) fun v H2 x2 r2 => q v H2 (x1.tr x2) r2)
  | false => exact iteF (q _ H1 x1 (.bl false))
theorem ev_orV (h : Ev ta ρ (.bl b)) (g : b = false → Ev tb ρ (.bl c)) : Ev (tOrV ta tb) ρ (.bl (b || c)) := fun Z σ H Q k s q => h Z σ H _ k s fun v H1 x1 r1 => by
  cases r1
  refine ⟨b, rfl, ?_⟩
  cases b with
  | true => exact iteT (q _ H1 x1 (.bl true))
  | false => exact iteF (g rfl Z σ H1 _ (k.ex x1) (s.mono x1.to) fun v H2 x2 r2 => q v H2 (x1.tr x2) r2)
theorem ev_if (h : EvT t ρ b) (g1 : b = true → Ev ta ρ d) (g2 : b = false → Ev tb ρ d) : Ev (tIf t ta tb) ρ d := fun Z σ H Q k s q => h Z σ H _ k s fun H1 x1 => by
  cases b with
  | true => exact iteT (g1 rfl Z σ H1 _ (k.ex x1) (s.mono x1.to) fun v H2 x2 r2 => q v H2 (x1.tr x2) r2)
  | false => exact iteF (g2 rfl Z σ H1 _ (k.ex x1) (s.mono x1.to) fun v H2 x2 r2 => q v H2 (x1.tr x2) r2)
theorem ev_chain {r r' : R2} (ha : Ev ta ρ d) (hb : Ev tb ρ e) (hr : R2D r d e (.bl b)) (hc : b = true → Ev tc ρ f) (hr' : b = true → R2D r' e f (.bl c)) : Ev (tChain r r' ta tb tc) ρ (.bl (b && c)) := fun Z σ H Q k s q =>
  ha Z σ H _ k s fun x H1 x1 r1 => hb Z σ H1 _ (k.ex x1) (s.mono x1.to) fun y H2 x2 r2 =>
    hr Z H2 x y _ ((k.ex x1).ex x2) (r1.mono x2.to) r2 fun v H3 x3 r3 => by
      cases r3
      refine ⟨b, rfl, ?_⟩
      have xx := (x1.tr x2).tr x3
      cases b with
      | true =>
        exact iteT (hc rfl Z σ H3 _ (k.ex xx) (s.mono xx.to) fun w H4 x4 r4 => hr' rfl Z H4 y w Q (k.ex (xx.tr x4)) (r2.mono (x3.tr x4).to) r4 fun v H5 x5 r5 => q v H5 (xx.tr (x4.tr x5)) r5)
      | false => exact iteF (q _ H3 xx (.bl false))
theorem eo_none : EvO tNoPart ρ none := fun _ _ H _ _ _ q => q H (Ex.rf H)
theorem eo_some {i : Int} (h : Ev te ρ (.int i)) : EvO (tPart te) ρ (some i) := fun Z σ H Q k s q => h Z σ H _ k s fun v H1 x1 r1 => by cases r1; exact ⟨i, rfl, q H1 x1⟩

/-! calls of defs: the promise in data -/
def spP (R : List D → D → Prop) : Sp := fun vs H Q _ => ∃ (Z : Addr → Prop) (ds : List D) (d : D), okZ Z H ∧ Reps Z H vs ds ∧ R ds d ∧ ∀ v H', Ex H H' → Rep Z H' v d → Q v H'
theorem ev_call {R : List D → D → Prop} {E : XK} {ta : TA} (ha : EvA ta ρ ds) (hr : R ds z) : Ev (tCall (spP R) [] E ta) ρ z := fun Z σ H Q k s q =>
  ha Z σ H _ k s fun vs H1 x1 r1 => ⟨Z, ds, z, k.ex x1, by rw [List.append_nil]; exact r1, hr, fun v H2 x2 r2 => q v H2 (x1.tr x2) r2⟩
theorem ev_meth {C : Addr} {m : Str} {R : List D → D → Prop} {E : XK} {ta : TE} {t : TA} {fs : List (Str × D)} (hs : Ev ta ρ (.ins C fs)) (hm : fs.lookup m = none) (ha : EvA t ρ ds) (hr : R (.ins C fs :: ds) z) : Ev (tMeth C m (spP R) [] E ta t) ρ z := fun Z σ H Q k s q =>
  hs Z σ H _ k s fun x H0 x0 r0 => by
    cases r0 with
    | ins n h rs =>
      exact ⟨_, _, _, rfl, h, rs.none hm, ha Z σ H0 _ (k.ex x0) (s.mono x0.to) fun vs H1 x1 r1 => ⟨Z, _, z, (k.ex x0).ex x1, .cons (.ins n (x1.exact h) (rs.mono x1.to)) (by rw [List.append_nil]; exact r1), hr, fun v H2 x2 r2 => q v H2 ((x0.tr x1).tr x2) r2⟩⟩

/-! statements -/
inductive Out where
  | nx (ρ : Rho)
  | rt (d : D)
def Fin (o : Out) (Z : Addr → Prop) (H : Hp) (E : Ends) : Prop := match o with
  | .nx ρ' => ∀ σ' H', Ex H H' → SRep Z H' σ' ρ' → E.nx σ' H'
  | .rt d => ∀ v H', Ex H H' → Rep Z H' v d → E.rt v H'
def St (ts : TS) (ρ : Rho) (o : Out) : Prop := ∀ (Z : Addr → Prop) (σ : L2.St) (H : Hp) (E : Ends), okZ Z H → SRep Z H σ ρ → Fin o Z H E → ts E σ H
def GA (g : TG) (d : D) (ρ ρ' : Rho) : Prop := ∀ (Z : Addr → Prop) (σ : L2.St) (H : Hp) (v : V) (Q : L2.St → Hp → Prop), okZ Z H → SRep Z H σ ρ → Rep Z H v d → (∀ σ', SRep Z H σ' ρ' → Q σ' H) → g v σ H Q
def GAs (g : TGs) (ds : List D) (ρ ρ' : Rho) : Prop := ∀ (Z : Addr → Prop) (σ : L2.St) (H : Hp) (vs : List V) (Q : L2.St → Hp → Prop), okZ Z H → SRep Z H σ ρ → Reps Z H vs ds → (∀ σ', SRep Z H σ' ρ' → Q σ' H) → g vs σ H Q
theorem ga_name {i : Nat} : GA (gName i) d ρ (ρ.set i (some d)) := fun _ _ _ _ _ _ s r q => q _ (s.set i r)
theorem gas_nil : GAs gNil [] ρ ρ := fun _ _ _ _ _ _ s r q => by cases r; exact ⟨rfl, q _ s⟩
theorem gas_cons {g : TG} {gs : TGs} {ρ' ρ'' : Rho} (h : GA g d ρ ρ') (hs : GAs gs ds ρ' ρ'') : GAs (gCons g gs) (d :: ds) ρ ρ'' := fun Z σ H vs Q k s r q => by
  cases r with
  | cons r rs => exact ⟨_, _, rfl, h Z σ H _ _ k s r fun σ' s' => hs Z σ' H _ Q k s' rs q⟩
theorem ga_tup {K : PySem.W.Frag} {gs : TGs} {ρ' : Rho} {n : Nat} (h : GAs gs ds ρ ρ') (hl : ds.length = n) : GA (gTup K n gs) (.tup ds) ρ ρ' := fun Z σ H v Q k s r q => by
  cases r with
  | tup nz h1 rs => exact ⟨_, _, rfl, .inl (.inl h1), rs.len.trans hl, h Z σ H _ Q k s rs q⟩
theorem st_next : St tNext ρ (.nx ρ) := fun _ σ H _ _ s q => q σ H (Ex.rf H) s
theorem st_asg {g : TG} {ρ' : Rho} (h : Ev te ρ d) (hg : GA g d ρ ρ') : St (tAsg te g) ρ (.nx ρ') := fun Z σ H E k s q =>
  h Z σ H _ k s fun v H1 x1 r1 => hg Z σ H1 v _ (k.ex x1) (s.mono x1.to) r1 fun σ' s' => q σ' H1 x1 s'
theorem st_ret (h : Ev te ρ d) : St (tRet te) ρ (.rt d) := fun Z σ H E k s q => h Z σ H _ k s q
theorem st_drop (h : Ev te ρ d) : St (tDrop te) ρ (.nx ρ) := fun Z σ H E k s q => h Z σ H _ k s fun v H1 x1 r1 => q σ H1 x1 (s.mono x1.to)
theorem Fin.ex {o : Out} {Z : Addr → Prop} {H H1 : Hp} {E : Ends} (h : Fin o Z H E) (x : Ex H H1) : Fin o Z H1 E := by
  cases o with
  | nx ρ' => exact fun σ' H' x' s' => h σ' H' (x.tr x') s'
  | rt d => exact fun v H' x' r' => h v H' (x.tr x') r'
theorem Fin.sub {o : Out} {Z : Addr → Prop} {H : Hp} {E E' : Ends} (h : Fin o Z H E) (hn : E.nx = E'.nx) (hr : E.rt = E'.rt) : Fin o Z H E' := by
  cases o with
  | nx ρ' => intro σ' H' x' s'; rw [← hn]; exact h σ' H' x' s'
  | rt d => intro v H' x' r'; rw [← hr]; exact h v H' x' r'
theorem st_seq {t u : TS} {ρ' : Rho} {o : Out} (h : St t ρ (.nx ρ')) (g : St u ρ' o) : St (tSeq t u) ρ o := fun Z σ H E k s q =>
  h Z σ H _ k s fun σ' H1 x1 s1 => g Z σ' H1 E (k.ex x1) s1 (q.ex x1)
theorem st_seqR {t u : TS} (h : St t ρ (.rt d)) : St (tSeq t u) ρ (.rt d) := fun Z σ H E k s q => h Z σ H _ k s q
theorem st_if {c : TT} {t u : TS} {o : Out} (h : EvT c ρ b) (g1 : b = true → St t ρ o) (g2 : b = false → St u ρ o) : St (tIfS c t u) ρ o := fun Z σ H E k s q =>
  h Z σ H _ k s fun H1 x1 => by
    cases b with
    | true => exact iteT (g1 rfl Z σ H1 E (k.ex x1) (s.mono x1.to) (q.ex x1))
    | false => exact iteF (g2 rfl Z σ H1 E (k.ex x1) (s.mono x1.to) (q.ex x1))
theorem st_par {i j : Nat} {ta : TA} (h : EvA ta ρ [d, e]) : St (tPar i j ta) ρ (.nx ((ρ.set i (some d)).set j (some e))) := fun Z σ H E k s q =>
  h Z σ H _ k s fun vs H1 x1 r1 => by
    cases r1 with
    | cons r r1 => cases r1 with
      | cons r' r1 => cases r1; exact ⟨_, _, rfl, q _ H1 x1 (((s.mono x1.to).set i r).set j r')⟩

/-! what is walked -/
def WG (Z : Addr → Prop) (H1 : Hp) (H : Hp) : Prop := Ext Z H1 H ∧ okZ Z H
def WY (Z : Addr → Prop) (ds : List D) (i : Nat) (H : Hp) (x : V) (H' : Hp) : Prop := Ex H H' ∧ ∃ d, ds[i]? = some d ∧ Rep Z H' x d
def DW (Z : Addr → Prop) (J : It) (H1 : Hp) (ds : List D) : Prop := ∀ Z' : Addr → Prop, (∀ a, Z' a → Z a ∨ H1 a = none) → Walk J ds.length (WG Z' H1) (WY Z' ds)
def EvI (wi : TI) (ρ : Rho) (ds : List D) : Prop := ∀ (Z : Addr → Prop) (σ : L2.St) (H : Hp) (R : It → Hp → Prop), okZ Z H → SRep Z H σ ρ → (∀ J H1, Ex H H1 → DW Z J H1 ds → R J H1) → wi σ H R
theorem ei_list {K : PySem.W.Frag} {tl : TE} (h : Ev tl ρ (.lst ds)) : EvI (iList K tl) ρ ds := fun Z σ H R k s q =>
  h Z σ H _ k s fun x H1 x1 r1 => by
    cases r1 with
    | lst n h1 rs =>
      refine ⟨_, rfl, ⟨_, .inl (.inl h1)⟩, q _ H1 x1 fun Z' hz => ?_⟩
      have nz : ¬ Z' _ := fun z => (hz _ z).elim n fun e => by rw [h1] at e; cases e
      rw [← rs.len]
      refine walk_list.mono (fun H g => .inl (.inl (g.1.exact nz h1))) fun i Hc x H' hi g y => ?_
      obtain ⟨rfl, y⟩ := y
      obtain ⟨d, e1, e2⟩ := (rs.zs hz).getV y
      exact ⟨Ex.rf _, d, e1, e2.mono g.1⟩
theorem ei_tup {K : PySem.W.Frag} {tl : TE} (h : Ev tl ρ (.tup ds)) : EvI (iTup K tl) ρ ds := fun Z σ H R k s q =>
  h Z σ H _ k s fun x H1 x1 r1 => by
    cases r1 with
    | tup n h1 rs =>
      refine ⟨_, rfl, ⟨_, .inl (.inl h1)⟩, q _ H1 x1 fun Z' hz => ?_⟩
      have nz : ¬ Z' _ := fun z => (hz _ z).elim n fun e => by rw [h1] at e; cases e
      rw [← rs.len]
      refine walk_tup.mono (fun H g => .inl (.inl (g.1.exact nz h1))) fun i Hc x H' hi g y => ?_
      obtain ⟨rfl, y⟩ := y
      obtain ⟨d, e1, e2⟩ := (rs.zs hz).getV y
      exact ⟨Ex.rf _, d, e1, e2.mono g.1⟩
/-- a list or a tuple -/
def iSeq (K : PySem.W.Frag) (tl : TE) : TI := fun σ H R => iList K tl σ H R ∨ iTup K tl σ H R
theorem pi_seq {X : Cx} {tg l : Expr} {tl : TE} (h : PE X l tl) : PI X tg l (iSeq X.K tl) := ⟨fun pins s σ H R I q => q.elim (fun q => (pi_list h).run pins s σ H R I q) fun q => (pi_tup h).run pins s σ H R I q⟩
theorem ei_seqL {K : PySem.W.Frag} {tl : TE} (h : Ev tl ρ (.lst ds)) : EvI (iSeq K tl) ρ ds := fun Z σ H R k s q => .inl (ei_list h Z σ H R k s q)
theorem ei_seqT {K : PySem.W.Frag} {tl : TE} (h : Ev tl ρ (.tup ds)) : EvI (iSeq K tl) ρ ds := fun Z σ H R k s q => .inr (ei_tup h Z σ H R k s q)
theorem ei_range1 {ta : TA} {n : Nat} (h : EvA ta ρ [.int n]) (hn : n < 1000000) : EvI (iRng1 ta) ρ ((List.range n).map fun (i : Nat) => D.int i) := fun Z σ H R k s q =>
  h Z σ H _ k s fun vs H1 x1 r1 => by
    cases r1 with
    | cons r r1 =>
      cases r; cases r1
      refine ⟨n, rfl, by omega, by omega, q _ H1 x1 fun Z' hz => ?_⟩
      rw [List.length_map, List.length_range]
      refine walk_range.mono (fun _ _ => trivial) fun i Hc x H' hi g y => ?_
      obtain ⟨rfl, rfl⟩ := y
      have hi' : i < n := by simpa using hi
      refine ⟨Ex.rf _, .int i, ?_, by show Rep Z' _ (V.int (0 + (i : Int))) _; rw [Int.zero_add]; exact .int i⟩
      rw [List.getElem?_map, List.getElem?_range hi']; rfl
/-! comprehensions -/
theorem wipe_set {σ : L2.St} {i : Nat} {x : Option V} : ∀ {vs : List Nat}, i ∈ vs → wipe (σ.set i x) vs = wipe σ vs
  | v :: vs, h => by
    unfold wipe
    by_cases hv : i ∈ vs
    · rw [wipe_set hv]
    · have e : i = v := by simpa [hv] using h
      subst e
      have : ∀ ws : List Nat, i ∉ ws → wipe (σ.set i x) ws = (wipe σ ws).set i x := by
        intro ws
        induction ws with
        | nil => intro _; rfl
        | cons w ws ih =>
          intro hw
          unfold wipe
          rw [ih (fun z => hw (List.mem_cons_of_mem _ z)), List.set_comm _ _ (fun z => hw (by rw [z]; exact List.mem_cons_self))]
      rw [this vs hv, List.set_set]
theorem wipe_wipe (σ : L2.St) (vs : List Nat) : wipe (wipe σ vs) vs = wipe σ vs := by
  have : ∀ ws : List Nat, (∀ w ∈ ws, w ∈ vs) → wipe (wipe σ ws) vs = wipe σ vs := by
    intro ws
    induction ws with
    | nil => intro _; rfl
    | cons w ws ih => intro h; show wipe ((wipe σ ws).set w none) vs = _; rw [wipe_set (h w List.mem_cons_self), ih fun z hz => h z (List.mem_cons_of_mem _ hz)]
  exact this vs fun _ h => h
def GW (g : TG) (vs : List Nat) (d : D) (ρ ρ' : Rho) : Prop := ∀ (Z : Addr → Prop) (σ : L2.St) (H : Hp) (v : V) (Q : L2.St → Hp → Prop), okZ Z H → SRep Z H σ ρ → Rep Z H v d → (∀ σ', SRep Z H σ' ρ' → wipe σ' vs = wipe σ vs → Q σ' H) → g v σ H Q
def GWs (g : TGs) (vs : List Nat) (ds : List D) (ρ ρ' : Rho) : Prop := ∀ (Z : Addr → Prop) (σ : L2.St) (H : Hp) (xs : List V) (Q : L2.St → Hp → Prop), okZ Z H → SRep Z H σ ρ → Reps Z H xs ds → (∀ σ', SRep Z H σ' ρ' → wipe σ' vs = wipe σ vs → Q σ' H) → g xs σ H Q
theorem gw_name {i : Nat} {vs : List Nat} (h : i ∈ vs) : GW (gName i) vs d ρ (ρ.set i (some d)) := fun _ _ _ _ _ _ s r q => q _ (s.set i r) (wipe_set h)
theorem okZ.add {Z : Addr → Prop} {H : Hp} {p : Addr} {o : HO} (k : okZ Z H) (ho : isTup o = false) : okZ (fun a => Z a ∨ a = p) (L2.upd H p o) := fun a z => by
  by_cases e : a = p
  · subst e; exact ⟨o, upd_same, ho⟩
  · rw [upd_ne e]; exact k a (z.resolve_right e)
theorem lc_main {α : Type} {xs : List α} {φ : α → D} {J : It} {g : TG} {vs : List Nat} {pb : α → Bool} {fe : α → D} {Z : Addr → Prop} {σ : L2.St} {H1 : Hp} {Q : VK} (k1 : okZ Z H1) (s0 : SRep Z H1 σ ρ) (w1 : DW Z J H1 (xs.map φ)) (hz : xs.length ≤ 100000)
    (hb : ∀ x ∈ xs, ∃ ρ', GW g vs (φ x) (wipeR ρ vs) ρ' ∧ EvT tt ρ' (pb x) ∧ (pb x = true → Ev te ρ' (fe x)))
    (q : ∀ v H', Ex H1 H' → Rep Z H' v (.lst ((xs.filter pb).map fe)) → Q v H') : ∀ Dd, H1 Dd = none → ∃ W : Nat → Nat → Hp → Prop, (∃ m, W 0 m (upd H1 Dd (.lst []))) ∧ ∀ i m H, W i m H →
    (J.stop i H ∧ Q (.ref Dd) H) ∨ (J.go i H ∧ ∃ Nx : Hp → Prop, (∀ H', Nx H' → ∃ m', m' < m ∧ W (i + 1) m' H') ∧ ∀ x H', J.yld i H x H' → g x (wipe σ vs) H' fun σ2 H2 => wipe σ2 vs = wipe σ vs ∧ tt σ2 H2 fun b H3 =>
      if b = true then te σ2 H3 fun y H4 => ∃ acc, H4 Dd = some (.lst acc) ∧ acc.length < sizeLine ∧ Nx (upd H4 Dd (.lst (acc ++ [y]))) else Nx H3) := by
  intro Dd hD
  have hz' : ∀ a, (Z a ∨ a = Dd) → Z a ∨ H1 a = none := fun a z => z.imp id fun (e : a = Dd) => by rw [e]; exact hD
  have W := w1 (fun a => Z a ∨ a = Dd) hz'
  have s1 : SRep (fun a => Z a ∨ a = Dd) H1 σ ρ := s0.zs hz'
  refine lc_it W (fun i Hc => Ext (fun a => Z a ∨ a = Dd) H1 Hc ∧ okZ (fun a => Z a ∨ a = Dd) Hc ∧ (∀ a o, Z a → H1 a = some o → Hc a = some o) ∧ ∃ acc, Hc Dd = some (.lst acc) ∧ Reps (fun a => Z a ∨ a = Dd) Hc acc (((xs.take i).filter pb).map fe)) ?_ ?_ ?_ ?_
  · refine ⟨Ext.new hD, k1.add rfl, fun a o z h => by rw [upd_ne (ne_of_none h hD)]; exact h, [], upd_same, by simpa using .nil⟩
  · rintro i Hc hi ⟨e1, e2, _⟩
    exact ⟨e1, e2⟩
  · rintro i x Hc H' hi ⟨e1, e2, e3, acc, e4, e5⟩ ⟨y1, d0, y20, y3⟩
    rw [List.getElem?_map] at y20
    obtain ⟨d, y2, rfl⟩ := Option.map_eq_some_iff.mp y20
    have hm : d ∈ xs := List.mem_of_getElem? y2
    obtain ⟨ρ', g1, g2, g3⟩ := hb d hm
    have x' : Ext (fun a => Z a ∨ a = Dd) H1 H' := e1.tr y1.to
    refine g1 _ (wipe σ vs) H' x _ (e2.ex y1) ((s1.wipe vs).mono x') y3 fun σ' s' w' => ⟨w'.trans (wipe_wipe σ vs), ?_⟩
    refine g2 _ σ' H' _ (e2.ex y1) s' fun H3 x3 => ?_
    have y13 := y1.tr x3
    have et : xs.take (i + 1) = xs.take i ++ [d] := by rw [List.take_add_one, y2]; rfl
    have keep : ∀ {Hn : Hp}, Ex Hc Hn → ∀ a o, Z a → H1 a = some o → Hn a = some o := fun xx a o z h => xx a o (e3 a o z h)
    cases hp : pb d with
    | true =>
      refine iteT (g3 hp _ σ' H3 _ (e2.ex y13) (s'.mono x3.to) fun v H4 x4 r4 => ?_)
      have y14 := y13.tr x4
      refine ⟨acc, y14.exact e4, Nat.lt_of_le_of_lt (m := 100000) ?_ (by decide), ?_⟩
      · rw [e5.len, List.length_map]
        exact Nat.le_trans (List.length_filter_le _ _) (Nat.le_trans (by rw [List.length_take]; exact Nat.min_le_right _ _) hz)
      · refine ⟨(e1.tr y14.to).mut (.inr rfl), (e2.ex y14).upd rfl, fun a o z h => ?_, _, upd_same, ?_⟩
        · rw [upd_ne (ne_of_none h hD)]
          exact keep y14 a o z h
        · rw [et, List.filter_append, List.map_append]
          have xm : Ext (fun a => Z a ∨ a = Dd) H4 (upd H4 Dd (.lst (acc ++ [v]))) := (Ext.rf H4).mut (.inr rfl)
          refine ((e5.mono y14.to).mono xm).app ?_
          have ef : [d].filter pb = [d] := by simp [hp]
          rw [ef]
          exact .cons (r4.mono xm) .nil
    | false =>
      refine iteF ⟨e1.tr y13.to, e2.ex y13, keep y13, acc, y13.exact e4, ?_⟩
      rw [et, List.filter_append, List.map_append]
      have ef : [d].filter pb = [] := by simp [hp]
      rw [ef]
      simpa using e5.mono y13.to
  · rintro Hc ⟨e1, e2, e3, acc, e4, e5⟩
    rw [List.length_map, List.take_length] at e5
    have xx : Ex H1 Hc := fun a o h => by
      by_cases z : Z a
      · exact e3 a o z h
      · exact e1 a o (fun y => y.elim z (ne_of_none h hD)) h
    exact q _ Hc xx (.lst (k1.no hD) e4 (e5.zs fun a z => .inl (.inl z)))
theorem ev_lc {α : Type} {xs : List α} {φ : α → D} {wi : TI} {g : TG} {vs : List Nat} {pb : α → Bool} {fe : α → D} (hi : EvI wi ρ (xs.map φ)) (hz : xs.length ≤ 100000)
    (hb : ∀ x ∈ xs, ∃ ρ', GW g vs (φ x) (wipeR ρ vs) ρ' ∧ EvT tt ρ' (pb x) ∧ (pb x = true → Ev te ρ' (fe x))) : Ev (tLc wi g tt te vs) ρ (.lst ((xs.filter pb).map fe)) := fun Z σ H Q k s q =>
  hi Z σ H _ k s fun J H1 x1 w1 => lc_main (k.ex x1) (s.mono x1.to) w1 hz hb fun v H' x' r' => q v H' (x1.tr x') r'
theorem ev_lc1 {α : Type} {xs : List α} {φ : α → D} {wi : TI} {g : TG} {vs : List Nat} {fe : α → D} (hi : EvI wi ρ (xs.map φ)) (hz : xs.length ≤ 100000)
    (hb : ∀ x ∈ xs, ∃ ρ', GW g vs (φ x) (wipeR ρ vs) ρ' ∧ Ev te ρ' (fe x)) : Ev (tLc wi g tYes te vs) ρ (.lst (xs.map fe)) := by
  have h := ev_lc (tt := tYes) (te := te) (g := g) (vs := vs) (pb := fun _ => true) (fe := fe) hi hz fun d hd => let ⟨ρ', h1, h2⟩ := hb d hd; ⟨ρ', h1, et_yes, fun _ => h2⟩
  rwa [List.filter_eq_self.mpr (fun _ _ => rfl)] at h
/-! loops -/
theorem st_for {wi : TI} {g : TG} {tb : TS} (rs : Nat → Rho) (hi : EvI wi ρ ds) (h0 : Lq (rs 0) ρ)
    (hb : ∀ (i : Nat) d, ds[i]? = some d → ∃ ρ' ρ'', GA g d (rs i) ρ' ∧ St tb ρ' (.nx ρ'') ∧ Lq (rs (i + 1)) ρ'') : St (tFor wi g tb) ρ (.nx (rs ds.length)) := fun Z σ H E k s q =>
  hi Z σ H _ k s fun J H1 x1 w1 => by
    refine for_it (w1 Z fun a z => .inl z) (fun i σ Hc => Ex H1 Hc ∧ SRep Z Hc σ (rs i)) ⟨Ex.rf H1, (s.mono x1.to).lq h0⟩ (fun i σ Hc _ h => ⟨h.1.to, (k.ex x1).ex h.1⟩) ?_ fun σ Hc h => q σ Hc (x1.tr h.1) h.2
    rintro i x σ Hc H' hi ⟨e1, e2⟩ ⟨y1, d, y2, y3⟩
    obtain ⟨ρ', ρ'', g1, g2, gl⟩ := hb i d y2
    have k' := (k.ex x1).ex (e1.tr y1)
    refine g1 Z σ H' x _ k' (e2.mono y1.to) y3 fun σ' s' => ?_
    exact g2 Z σ' H' _ k' s' fun σ'' H'' x'' s'' => ⟨e1.tr (y1.tr x''), s''.lq gl⟩
/-! a def whose body is pure -/
def Ret (ts : TS) (ρ : Rho) (d : D) : Prop := St ts ρ (.rt d) ∨ d = .non ∧ ∃ ρ', St ts ρ (.nx ρ')
def rho0 (N : List Str) (ds : List D) : Rho := ds.map some ++ List.replicate (N.length - ds.length) none
theorem pure_ok {P : Program} {w : World} {K : PySem.W.Frag} {mg : Str → Option Value} {base : Heap} {x qual : Str} {stm : Stmt} {fa : Addr} {fd : FuncData} {N ps : List Str} {k : Nat} {R : List D → D → Prop} (F : Fun K x qual stm fa fd) (S : FnScope N ps (defScope stm)) (len : ∀ ds d, R ds d → ds.length = ps.length)
    (hb : ∀ (cdv : Value) (A : Around) (outer : List Env) (s : Shared) (H : Hp) (E : XK), Room k (A.deeper (PyProof.Rows.envOfC qual (defScope stm) s.heap.objs.size fa cdv)) →
      ∃ t, PSs (cxOf CX0 P w K mg base N qual (defScope stm) fa cdv A outer s H E).nox (defBody stm) t ∧ ∀ ds d, R ds d → Ret t (rho0 N ds) d) : FnOk P w K mg base CX0 (k + 1) fa fd ps (spP R) := by
  refine F.ok S (fun vs H Q E h => ?_) (fun cdv A outer s H vs Q E hr h => ?_)
  · obtain ⟨Z, ds, d, _, r, hR, _⟩ := h
    exact r.len.trans (len ds d hR)
  · obtain ⟨Z, ds, d, ok, r, hR, q⟩ := h
    obtain ⟨t, ht, hs⟩ := hb cdv A outer s H E hr
    refine ⟨t, ht, ?_⟩
    have s0 : SRep Z H (L2.start N vs) (rho0 N ds) := by
      unfold L2.start rho0
      rw [r.len]
      exact SRep.start r _
    rcases hs ds d hR with h | ⟨rfl, ρ', h⟩
    · exact h Z _ H _ ok s0 fun v H' x' r' => q v H' x' r'
    · exact h Z _ H _ ok s0 fun σ' H' x' s' => q .non H' x' .non
end
end Du
namespace Du
open PySem L2 PySem.Spec PyProof.Rows

/-! sets of texts: made of a list, sorted -/
def txt (e : Int × Value) : Str := match e.2 with | .str x _ => x | _ => Str.empty
def IsTxt (w : World) (e : Int × Value) : Prop := ∃ x tk, e.2 = Value.str x tk ∧ e.1 = hashStr w x
/-- the set at a holds just the texts of L, which are unlike -/
def TxtSet (w : World) (h : Heap) (a : Addr) (L : List Str) : Prop :=
  ∃ o es ep t, h.get? a = some o ∧ o.ExactSet ∧ o.data = .set es ep t ∧ (∀ e ∈ es.toList, IsTxt w e) ∧ (es.toList.map txt).Perm L ∧ L.Nodup ∧
    es.size < scanBound ∧ t.fits es.size = true ∧ Ris t.place.toList ∧ (w.params.followText "set-order" = true ∨ t.led = true)
section
variable {P : Program} {w : World} {A : Around} {E : Value → Shared → Prop} {s : Shared} {a : Addr} {L : List Str}
theorem TxtSet.at {h h' : Heap} (R : TxtSet w h a L) (k : ∀ o, h.get? a = some o → h'.get? a = some o) : TxtSet w h' a L := by
  obtain ⟨o, es, ep, t, ho, r⟩ := R
  exact ⟨o, es, ep, t, k o ho, r⟩
theorem txt_elems {l : List (Int × Value)} (g : ∀ e ∈ l, IsTxt w e) : ElemsOf (strKind P w) l := fun e he => by
  obtain ⟨k, tk, h1, h2⟩ := g e he
  exact ⟨⟨k, by rw [h1]; exact strKind_is P w k tk, h2⟩, by rw [h1] <;> rfl⟩
theorem txt_is {e : Int × Value} (g : IsTxt w e) (k : Str) : (strKind P w).is k e.2 = true ↔ txt e = k := by
  obtain ⟨k0, tk, h1, _⟩ := g
  unfold txt
  rw [h1]
  constructor
  · intro h
    obtain ⟨t, e⟩ := Value.isStrOf_shape (x := k) (v := .str k0 tk) h
    injection e
  · rintro rfl
    exact strKind_is P w _ tk
theorem txt_mem {l : List (Int × Value)} (g : ∀ e ∈ l, IsTxt w e) (k : Str) : k ∈ l.map txt ↔ ∃ e ∈ l, (strKind P w).is k e.2 = true := by
  rw [List.mem_map]
  exact ⟨fun ⟨e, he, q⟩ => ⟨e, he, (txt_is (g e he) k).2 q⟩, fun ⟨e, he, q⟩ => ⟨e, he, (txt_is (g e he) k).1 q⟩⟩
theorem txt_store {g : Bool → Sem Unit} (hg : ∀ (b : Bool) (s₁ : Shared) (Q' : Unit → Shared → Prop), Q' () s₁ → wpAny (model P w) A (g b) Q' E s₁)
    {o : Obj} {es : Array (Int × Value)} {ep : Nat} {t : SetTable} (ho : s.heap.get? a = some o) (hex : o.ExactSet) (hd : o.data = .set es ep t)
    {ns : Array (Int × Value)} {u : SetTable} (g1 : ∀ e ∈ ns.toList, IsTxt w e) (m1 : (ns.toList.map txt).Perm L) (nd : L.Nodup)
    (hb1 : ns.size < scanBound) (hf2 : u.fits ns.size = true) (hr : Ris u.place.toList) (hl : w.params.followText "set-order" = true ∨ u.led = true) {dm : Bool} {R : Option Bool → Shared → Prop}
    (hR : ∀ h', Heap.SameBut a s.heap h' → TxtSet w h' a L → R (some true) { s with heap := h' }) :
    wpAny (model P w) A (do
        storeSet a ns u
        if (!dm && u.tooFull) = true then do
            g (relayAll u ns (SetTable.grown ns.size)).2.2
            storeSet a (relayAll u ns (SetTable.grown ns.size)).1 (relayAll u ns (SetTable.grown ns.size)).2.1
            pure (some true)
          else pure (some true)) R E s := by
  refine wpAny_bind (wpAny_storeSet_of ho hd ?_ (fits_of_scanBound hb1))
  have ho1 := store_at (es' := ns) (t' := u) ho hd
  have sb1 := Heap.SameBut.update s.heap a (Obj.putSet ns u)
  split
  · have pm := relayAll_perm u ns (SetTable.grown ns.size)
    have f3 := relayAll_fits u ns (SetTable.grown ns.size)
    have r3 := relayAll_ris u ns (SetTable.grown ns.size)
    have l3 := relayAll_led u ns (SetTable.grown ns.size)
    generalize relayAll u ns (SetTable.grown ns.size) = Y at pm f3 r3 l3 ⊢
    obtain ⟨ms, v, gave⟩ := Y
    dsimp only at pm f3 r3 l3 ⊢
    have sz : ms.size = ns.size := by rw [← Array.length_toList, pm.length_eq, Array.length_toList]
    have b2 : ms.size < scanBound := by rw [sz]; exact hb1
    refine wpAny_bind (hg _ _ _ ?_)
    refine wpAny_bind (wpAny_storeSet_of ho1 rfl ?_ (fits_of_scanBound b2))
    refine wpAny_pure (hR _ (sb1.trans (Heap.SameBut.update _ a _)) ?_)
    exact ⟨_, ms, _, v, store_at (es' := ms) (t' := v) ho1 rfl, hex, rfl, fun e he => g1 e (pm.mem_iff.mp he), (pm.map txt).trans m1, nd, b2, f3, r3, hl.imp id fun z => by rw [l3]; exact z⟩
  · exact wpAny_pure (hR _ sb1 ⟨_, ns, _, u, ho1, hex, rfl, g1, m1, nd, hb1, hf2, hr, hl⟩)
/-- the texts, a further one among them -/
def addT (L : List Str) (k : Str) : List Str := if k ∈ L then L else k :: L
theorem txt_add {k : Str} {tk : Tok} {Q : Bool → Shared → Prop} (R : TxtSet w s.heap a L) (room : L.length + 1 < scanBound)
    (hQ : ∀ h' b, Heap.SameBut a s.heap h' → TxtSet w h' a (addT L k) → Q b { s with heap := h' }) :
    wpAny (model P w) A (setAddHashed a (.str k tk) ((strKind P w).hash k)) Q E s := by
  obtain ⟨o, es, ep, t, ho, hex, hd, g, pl, nd, hb, hf, hr, hl⟩ := R
  have hkey : (strKind P w).is k (.str k tk) = true := strKind_is P w k tk
  have hsc : (Value.str k tk).scannable = true := rfl
  have hel : ElemsOf (strKind P w) es.toList := txt_elems g
  unfold setAddHashed setAddHashedIn
  refine wpAny_holding (wpAny_bind (wpAny_setState_of ho hd hf ?_))
  dsimp only
  rw [byScan_of hsc hb hel]
  simp only [↓reduceIte]
  unfold setAddByScan
  refine wpAny_bind ?_
  refine wpAny_bind (wpAny_rule ?_)
  refine wpAny_bind (wpAny_setScan_of hkey ho hd hf hel ?_)
  cases hfi : List.findIdx? (fun e => (strKind P w).is k e.2) es.toList with
  | some j =>
    dsimp only
    obtain ⟨hj, pj, _⟩ := List.findIdx?_eq_some_iff_getElem.mp hfi
    have hk : k ∈ L := pl.mem_iff.mp ((txt_mem (P := P) g k).2 ⟨es.toList[j], List.getElem_mem hj, pj⟩)
    refine wpAny_pure (wpAny_pure ?_)
    refine hQ s.heap _ (Heap.SameBut.refl a s.heap) ?_
    unfold addT
    rw [if_pos hk]
    exact ⟨o, es, ep, t, ho, hex, hd, g, pl, nd, hb, hf, hr, hl⟩
  | none =>
    dsimp only
    have hnk : k ∉ L := fun z => by
      obtain ⟨e, he, q⟩ := (txt_mem (P := P) g k).1 (pl.mem_iff.mpr z)
      have c := List.findIdx?_eq_none_iff.mp hfi e he
      rw [q] at c
      cases c
    have ea : addT L k = k :: L := if_neg hnk
    have hgw : ∀ (b : Bool) {s₁ : Shared} {Q' : Unit → Shared → Prop}, Q' () s₁ → wpAny (model P w) A (match b with | true => rule "set.scan.the-table-gave-way" | false => pure ()) Q' E s₁ :=
      fun b s₁ Q' q => by cases b <;> first | exact wpAny_pure q | exact wpAny_rule q
    have pm := layNew_perm t es ((strKind P w).hash k) (.str k tk)
    have f1 := layNew_fits t es ((strKind P w).hash k) (.str k tk)
    have r1 := layNew_ris t es ((strKind P w).hash k) (.str k tk) hr
    have l1 := layNew_led t es ((strKind P w).hash k) (.str k tk)
    generalize layNew t es ((strKind P w).hash k) (.str k tk) = Y at pm f1 r1 l1 ⊢
    obtain ⟨ns, u, wd, gave⟩ := Y
    dsimp only at pm f1 r1 l1 ⊢
    rw [Array.toList_push] at pm
    have pc : ns.toList.Perm (((strKind P w).hash k, Value.str k tk) :: es.toList) := pm.trans (List.perm_append_singleton _ _)
    have pk : (ns.toList.map txt).Perm (addT L k) := by
      rw [ea]
      exact (pc.map txt).trans (pl.cons k)
    have g1 : ∀ e ∈ ns.toList, IsTxt w e := fun e he => by
      rcases List.mem_cons.mp (pc.mem_iff.mp he) with z | z
      · rw [z]; exact ⟨k, tk, rfl, rfl⟩
      · exact g e z
    have nd1 : (addT L k).Nodup := by rw [ea]; exact List.nodup_cons.mpr ⟨hnk, nd⟩
    have hsz : ns.size = L.length + 1 := by rw [← Array.length_toList, ← List.length_map txt, pk.length_eq, ea, List.length_cons]
    have hb1 : ns.size < scanBound := by rw [hsz]; exact room
    have hled : w.params.followText "set-order" = true ∨ u.led = true := hl.imp id fun z => by rw [l1]; exact z
    refine wpAny_bind (hgw _ ?_)
    split
    · refine wpAny_bind ?_
      rw [hashByValue_scannable 8 hsc]
      refine wpAny_pure ?_
      refine txt_store ?_ ho hex hd g1 pk nd1 hb1 ?_ ?_ ?_ ?_
      · intro b s₁ Q' q; cases b <;> first | exact wpAny_pure q | exact wpAny_rule q
      · first | (split <;> first | exact f1 | exact SetTable.fits_plain_off f1) | exact f1
      · first | (split <;> exact r1) | exact r1
      · first | (split <;> exact hled) | exact hled
      · intro h' sb r; dsimp only; exact wpAny_pure (hQ h' _ sb r)
    · refine wpAny_bind (wpAny_pure ?_)
      simp only [↓reduceIte]
      refine txt_store ?_ ho hex hd g1 pk nd1 hb1 f1 r1 hled ?_
      · intro b s₁ Q' q; cases b <;> first | exact wpAny_pure q | exact wpAny_rule q
      · intro h' sb r; dsimp only; exact wpAny_pure (hQ h' _ sb r)
/-- the texts of the first i -/
def addAll (L : List Str) : List Str → List Str
  | [] => L
  | k :: ks => addAll (addT L k) ks
theorem addT_len (L : List Str) (k : Str) : (addT L k).length ≤ L.length + 1 := by
  unfold addT; split <;> simp <;> omega
theorem txt_loop {I : Addr} {fp wr : List Addr} {G : Array GenState → Array GenState → Prop} {n : Nat} {Pv : Nat → Value → Prop} {St : Nat → Shared → Prop} {R : Result → Shared → Prop}
    (W : WalksS P w A.in1 I fp wr G n Pv St) (S : Addr) (hSf : S ∉ fp) (xs : List Str) (hn : n = xs.length) (hfew : xs.length + 1 < scanBound) (hval : ∀ i v, Pv i v → ∃ x tk, xs[i]? = some x ∧ v = .str x tk) :
    ∀ (k i : Nat) (s : Shared) (L : List Str), n - i = k → i ≤ n → St i s → TxtSet w s.heap S L → L.length ≤ i →
      (∀ s', Moved (S :: wr) G s s' → TxtSet w s'.heap S (addAll L (xs.drop i)) → R (.ok (.ret .none)) s') →
      codeAny (model P w) A (.builtin "set.update.loop" ⟨[.ref S, .ref I], []⟩) R s := by
  have nw : S ∉ wr := fun h => hSf (W.sub _ h)
  have sub : ∀ b ∈ wr, b ∈ S :: wr := fun b hb => List.mem_cons_of_mem _ hb
  intro k
  induction k with
  | zero =>
    intro i s L hk hi hst hS hL hR
    have hin : i = n := by omega
    refine codeAny_builtin F.entry_set_update_loop ?_
    rw [Around.under_plainId F.plain_set_update_loop _]
    show wpAny _ A.in1 (pyNext (.ref I) >>= _) _ _ s
    rw [hin] at hst
    refine wpAny_bind (W.done s _ _ hst fun s' hm => ?_)
    show wpAny _ A.in1 (ret Value.none) _ _ s'
    refine wpAny_pure (hR s' (hm.mono sub) ?_)
    have e : xs.drop i = [] := List.drop_eq_nil_of_le (by omega)
    rw [e]
    exact hS.at fun o e => hm.heap S o nw e
  | succ k ih =>
    intro i s L hk hi hst hS hL hR
    have hlt : i < n := by omega
    refine codeAny_builtin F.entry_set_update_loop ?_
    rw [Around.under_plainId F.plain_set_update_loop _]
    show wpAny _ A.in1 (pyNext (.ref I) >>= _) _ _ s
    refine wpAny_bind (W.item i s _ _ hlt hst fun v s' hP hst' hm => ?_)
    obtain ⟨x, tk, hx, rfl⟩ := hval i v hP
    have hS' : TxtSet w s'.heap S L := hS.at fun o e => hm.heap S o nw e
    show wpAny _ A.in1 (holding [Value.str x tk] (setAdd S (.str x tk)) >>= _) _ _ s'
    refine wpAny_bind (wpAny_holding ?_)
    unfold setAdd
    refine wpAny_holding ?_
    refine wpAny_bind ((PySem.strKind P w).pyHash (k := x) (strKind_is P w x tk) ?_)
    refine txt_add (s := { s' with toks := s'.toks + 1 }) hS' (by omega) fun h' b hsb hS2 => ?_
    have ed : xs.drop i = x :: xs.drop (i + 1) := by
      obtain ⟨hl, e⟩ := List.getElem?_eq_some_iff.mp hx
      rw [← e, List.drop_eq_getElem_cons hl]
    refine wpAny_pure ⟨plainId_quiet F.plain_set_update_loop _, ih (i + 1) _ (addT L x) (by omega) hlt (W.frame _ s' _ _ hst' (Nat.le_succ _) fun b hb o e => ?_) hS2 (Nat.le_trans (addT_len L x) (by omega)) fun s'' hm'' hS'' => ?_⟩
    · rw [hsb.2 b (fun h : b = S => hSf (by rw [← h]; exact hb))]; exact e
    · refine hR s'' (Moved.trans W.gtrans ((hm.mono sub).then_heap (Nat.le_succ _) fun b o hb e => ?_) hm'') (by rw [ed]; exact hS'')
      rw [hsb.2 b (fun h : b = S => hb (by rw [h]; exact List.mem_cons_self))]; exact e
abbrev freshSet (w : World) : Obj := { cls := .type "set", dict := none, data := .set #[] 0 (.fresh 0 0 (!w.params.followText "set-order")) }
theorem txt_fresh {h : Heap} (ho : h.get? a = some (freshSet w)) : TxtSet w h a [] :=
  ⟨_, #[], 0, _, ho, ⟨rfl, rfl, rfl⟩, rfl, (fun e he => by simp at he), List.Perm.nil, List.nodup_nil, (by decide), (by rfl), List.Pairwise.nil, by
    show _ ∨ (!w.params.followText "set-order") = true
    cases w.params.followText "set-order"
    · exact .inr rfl
    · exact .inl rfl⟩
theorem call_set_txt {l : Addr} {items : Array Value} (xs : List Str) {Q : Value → Shared → Prop} (hh : A.handled = none) (hl : s.heap.IsList l items) (hit : StrsAre items.toList xs) (hfew : xs.length + 1 < scanBound)
    (h : ∀ (h' : Heap) (tk : Nat), TxtSet w h' s.heap.objs.size (addAll [] xs) → (∀ b o, s.heap.get? b = some o → h'.get? b = some o) → Q (.ref s.heap.objs.size) { s with heap := h', toks := tk }) :
    wpAny (model P w) A (call (.type "set") [.ref l]) Q E s := by
  have hisz : items.size = xs.length := by rw [← Array.length_toList]; exact StrsAre.len_eq hit
  obtain ⟨c, tl, hmro⟩ := F.called_set.mro
  have hmade := F.called_set.made
  have hsub := F.called_set.sub
  refine wpAny_call (codeAny_of_tree ?_)
  show wpAny _ _ (callAny (.type "set") _) _ _ _
  refine wpAny_pure ⟨Code.quiet_builtin _ (by decide +kernel), codeAny_builtin F.entry_type_call ?_⟩
  rw [Around.under_plain (weight_type_call_type "set" [.ref l] []) rfl]
  have h1 := F.called_set.notType
  have h2 := F.called_set.canCreate
  have hct := F.typeCall_set_1 (.ref l)
  repeat (any_goals (first | assumption | wp_step))
  refine codeAny_mono (code_set_led1 (.ref l) (E := E) (Q₁ := fun obj s₁ => obj = .ref s.heap.objs.size ∧ s₁ = { s with heap := s.heap.push (freshSet w) }) ⟨rfl, rfl⟩) fun r s₁ hr => ?_
  cases r with
  | error e => exact hr
  | ok fl =>
    cases fl with
    | ret obj =>
      obtain ⟨rfl, rfl⟩ := hr
      have hS : (s.heap.push (freshSet w)).get? s.heap.objs.size = some (freshSet w) := Heap.get?_push_size _ rfl
      have hT : Shared.TypeIs { s with heap := s.heap.push (freshSet w) } (.ref s.heap.objs.size) "set" := ⟨_, hS, rfl⟩
      have hli := F.called_set.init.lookup
      have hbi := F.called_set.init.bind (.ref s.heap.objs.size)
      repeat (any_goals (first | assumption | wp_step))
      refine codeAny_mono (codeAny_call_builtin (R := wants (fun r s₂ => r = .none ∧ ∃ h' tk, s₂ = { s with heap := h', toks := tk } ∧ TxtSet w h' s.heap.objs.size (addAll [] xs) ∧
          (∀ b o, s.heap.get? b = some o → h'.get? b = some o)) E) F.called_set.init.plain F.entry_set_init (check_set_init_1 hT ?_)) fun r₂ s₂ hr₂ => ?_
      · obtain ⟨ol, hol, hcl, nl, hdl⟩ := hl
        obtain ⟨ocls, odict, odata, oslots⟩ := ol
        simp only at hcl hdl
        subst hcl; subst hdl
        have hol' : (s.heap.push (freshSet w)).get? l = some { cls := .type "list", dict := odict, data := .seq items nl, slots := oslots } := Heap.get?_push_of_some _ hol
        have hsls := F.sub_list_set
        have hslf := F.sub_list_frozenset
        have hne : (Value.type "list" == Value.type "dict") = false := by decide
        have hl1 : (s.heap.push (freshSet w)).IsList l items := ⟨_, hol', rfl, nl, rfl⟩
        unfold Builtin.«set.__init__» noKeywords Builtin.Frozenset.updateFrom
        generalize hPI : pyIter = PI
        wp_walk
        subst hPI
        refine wpAny_pyIter_list hl1 ?_
        refine wpAny_bind (wpAny_runValue ?_)
        have lS : l < s.heap.objs.size := Heap.lt_size hol
        have h3 : A.in1.in1.in1.handled = none := by simp [hh]
        have neI : l ≠ (s.heap.push (freshSet w)).objs.size := by
          rw [Heap.size_push]; exact Nat.ne_of_lt (Nat.lt_succ_of_lt lS)
        have nf : s.heap.objs.size ∉ [(s.heap.push (freshSet w)).objs.size, l] := by
          rw [Heap.size_push]; simp only [List.mem_cons, List.mem_singleton, List.not_mem_nil, or_false, not_or]
          exact ⟨Nat.ne_of_lt (Nat.lt_succ_self _), Nat.ne_of_gt lS⟩
        have hval : ∀ (i : Nat) (v : Value), items[i]? = some v → ∃ x tk, xs[i]? = some x ∧ v = .str x tk := fun i v hv => by
          have q : items.toList[i]? = some v := by rw [Array.getElem?_toList]; exact hv
          obtain ⟨tk, e⟩ := SS.strs_at hit i v q
          have hi : i < xs.length := by
            have := (Array.getElem?_eq_some_iff.mp hv).1
            omega
          exact ⟨_, tk, by rw [List.getD_eq_getElem?_getD, List.getElem?_eq_getElem hi]; rfl, e⟩
        refine txt_loop ((Walks.list h3 _ l neI items).toS) s.heap.objs.size nf xs hisz hfew hval (items.size - 0) 0 _ [] (by omega) (Nat.zero_le _)
          ⟨⟨_, Heap.get?_push_size _ rfl, rfl, rfl⟩, (hl1.push _)⟩ (txt_fresh (Heap.get?_push_of_some _ hS)) (Nat.le_refl _) fun s' hm hS' => ?_
        obtain ⟨h', g', d', tk', os'⟩ := s'
        have eg : g' = s.gens := hm.gens
        have ed : d' = s.drawn := hm.drawn
        have eo : os' = s.os := hm.os
        subst eg; subst ed; subst eo
        show wpAny _ _ _ _ _ _
        refine wpAny_pure ?_
        show wpAny _ _ (ret Value.none) _ _ _
        refine wpAny_pure ⟨rfl, h', tk', rfl, hS', fun b o e => ?_⟩
        have hb := Heap.lt_size e
        have b1 : b ≠ s.heap.objs.size := Nat.ne_of_lt hb
        have b2 : b ≠ (s.heap.push (freshSet w)).objs.size := by
          rw [Heap.size_push]; exact Nat.ne_of_lt (Nat.lt_succ_of_lt hb)
        exact hm.heap b o (by simp only [List.mem_cons, List.mem_singleton, List.not_mem_nil, or_false, not_or]; exact ⟨b1, b2⟩) (Heap.get?_push_of_some _ (Heap.get?_push_of_some _ e))
      · cases r₂ with
        | error e => exact hr₂
        | ok fl₂ =>
          cases fl₂ with
          | ret r =>
            obtain ⟨rfl, h', tk, rfl, hS', hk'⟩ := hr₂
            repeat (any_goals (first | assumption | wp_step))
            exact h _ _ hS' hk'
          | _ => exact hr₂.elim
    | _ => exact hr.elim
theorem strs_of : ∀ (l : List Value), (∀ v ∈ l, ∃ k tk, v = Value.str k tk) → StrsAre l (l.map strOf)
  | [], _ => .nil
  | v :: l, h => by
    obtain ⟨k, tk, rfl⟩ := h v List.mem_cons_self
    exact .cons k tk (strs_of l fun u hu => h u (List.mem_cons_of_mem _ hu))
theorem sorted_txt {Q : Value → Shared → Prop} (R : TxtSet w s.heap a L) (hh : A.handled = none) (h64 : L.length < 64)
    (hQ : ∀ s' p (out : Array Value) (c : Nat) (ys : List Str), (∀ b o, s.heap.get? b = some o → s'.heap.get? b = some o) → s'.gens = s.gens → s'.os = s.os → s.heap.objs.size ≤ p →
      s'.heap.get? p = some (seqObj "list" out c) → StrsAre out.toList ys → ys.Perm L → sortedS ys = true → Q (.ref p) s') :
    wpAny (model P w) A (call (.builtin "sorted") [.ref a]) Q E s := by
  obtain ⟨o, es, ep, t, ho, hex, hd, g, pl, nd, hb, hf, hr, hl⟩ := R
  refine Calls.call_function_entry kind_sorted plain_sorted entry_sorted (args_sorted1 _) ?_
  unfold Builtin.«sorted»
  refine wpAny_bind (m := checkCount "sorted" 1 1 _) (wpAny_pure ?_)
  refine wpAny_bind (collect_set (A := A.in1) hh ⟨o, ho, hex.1, hd⟩ hf hb hr hl fun s1 vs k1 hz g1 o1 pm => ?_)
  have lv : vs.length = L.length := by rw [pm.length_eq, List.length_map, ← pl.length_eq, List.length_map]
  have hI : StrsAre vs (vs.map strOf) := strs_of vs fun v hv => by
    obtain ⟨e, he, q⟩ := List.mem_map.mp (pm.mem_iff.mp hv)
    obtain ⟨k, tk, h1, _⟩ := g e he
    exact ⟨k, tk, by rw [← q]; exact h1⟩
  have pk : (vs.map strOf).Perm L := by
    have q := pm.map strOf
    rw [List.map_map] at q
    refine q.trans ?_
    rw [show es.toList.map (strOf ∘ fun x => x.2) = es.toList.map txt from List.map_congr_left fun e he => by
      obtain ⟨k, tk, h1, _⟩ := g e he
      show strOf e.2 = txt e
      unfold txt
      rw [h1]; rfl]
    exact pl
  refine wpAny_bind (wpAny_newList ?_ (by rw [lv, sizeLine_eq]; omega))
  have hoL : (s1.heap.push (seqObj "list" vs.toArray 0)).get? s1.heap.objs.size = some (seqObj "list" vs.toArray 0) := Heap.get?_push_size _ rfl
  refine wpAny_bind (wpAny_holding (wpAny_call_entry slot_list_sort ⟨_, hoL, rfl⟩ entry_list_sort (list_sort_treeK strKind_oneLt hoL hI.keysOf (fun v₁ v₂ rest e => keyKind_strs (by rw [← e]; exact hI)) (by rw [lv]; exact h64) fun st' hp hs => ⟨_, rfl, ?_⟩) (args_list_sort _)))
  obtain ⟨ys, a1, a2, a3⟩ := sorted_out_str hI hp hs
  obtain ⟨c, hc⟩ := sortedHeap_at (vs := vs) (out := (arrOf st').map (·.2)) hoL
  refine wpAny_pure ⟨_, rfl, hQ _ s1.heap.objs.size _ c ys (fun b u e => ?_) g1 o1 hz hc a1 (a2.trans pk) a3⟩
  have q := k1 b u e
  have hlt := Heap.lt_size q
  show (sortedHeap (s1.heap.push (seqObj "list" vs.toArray 0)) s1.heap.objs.size vs _).get? b = some u
  rw [sortedHeap_old (Nat.ne_of_lt hlt) (by rw [size_push']; exact Nat.lt_succ_of_lt hlt)]
  exact Heap.get?_push_of_some _ q
end

/-! the same by the layer's readings -/
def TxtO (w : World) (a : Addr) (L : List Str) : HO := .ext fun h => TxtSet w h a L
section
variable {X : Cx}
def rSetTxt (K : PySem.W.Frag) (w : World) : List V → Hp → VK → Prop := fun xs H Q => ∃ (a : Addr) (ys : List Str), xs = [V.ref a] ∧ SqL K H a (ys.map V.str) ∧ ys.length + 1 < scanBound ∧ ∀ p, H p = none → Q (.ref p) (upd H p (TxtO w p (addAll [] ys)))
theorem cr_setTxt (hc : X.calm = true) : CallR X (.type "set") (rSetTxt X.K X.w) := by
  intro pins s σ H vs us Q I r h
  obtain ⟨a, ys, rfl, hs, hf, q⟩ := h
  obtain ⟨its, rv, hl, _⟩ := I.list hs
  rw [Vals.ref1 r]
  refine call_set_txt ys (I.ok.hd hc) hl.isList (by simpa using rv.strs) hf fun h' tk hS hk => ?_
  have hn := I.hok.fresh (Nat.le_refl s.heap.objs.size)
  obtain ⟨o, _, _, _, ho, _⟩ := id hS
  exact ⟨.ref _, upd H s.heap.objs.size (TxtO X.w s.heap.objs.size (addAll [] ys)), I.laid (t' := tk) hk (Nat.le_refl _) (show ObjOk X.prog X.w _ h' s.heap.objs.size (TxtO X.w s.heap.objs.size (addAll [] ys)) from ⟨hS, ⟨o, ho⟩, fun h1 h2 p k => p.at k⟩), rfl, q _ hn⟩
def rSortedTxt (w : World) : List V → Hp → VK → Prop := fun vs H Q => ∃ (a : Addr) (L : List Str), vs = [V.ref a] ∧ H a = some (TxtO w a L) ∧ L.length < 64 ∧
  ∀ (ys : List Str) (p : Addr), ys.Perm L → sortedS ys = true → H p = none → Q (.ref p) (upd H p (.lst (ys.map V.str)))
theorem cr_sortedTxt (hc : X.calm = true) : CallR X (.builtin "sorted") (rSortedTxt X.w) := by
  intro pins s σ H vs us Q I r h
  obtain ⟨a, L, rfl, ha, h64, q⟩ := h
  have R : TxtSet X.w s.heap a L := (I.hok a _ ha).1
  rw [Vals.ref1 r]
  refine sorted_txt R (I.ok.hd hc) h64 fun s' p out c ys k g o hp hg hi hm hs => ?_
  have hlen : (ys.map V.str).length ≤ sizeLine := by rw [List.length_map, hm.length_eq, sizeLine_eq]; omega
  have hn : H p = none := I.hok.fresh hp
  have J : Inv X pins σ (upd H p (.lst (ys.map V.str))) { s with heap := s'.heap, gens := s'.gens, drawn := s'.drawn, toks := s'.toks } :=
    I.call (ch := []) (Un.laid k hp hn) (I.hok.laid k hp ⟨hlen, out.toList, c, vals_of_strs hi, hg⟩) (by rw [g]; exact I.bare) (fun _ z => nomatch z)
  have e : s' = { s with heap := s'.heap, gens := s'.gens, drawn := s'.drawn, toks := s'.toks } := by
    cases s'
    cases s
    cases o
    rfl
  rw [e]
  exact ⟨.ref p, _, J, rfl, q ys p hm hs hn⟩
end
end Du
namespace Du
open PySem L2 PySem.Spec PyProof.Rows

/-! a dict comprehension whose keys are tuples of texts and ints -/
theorem set_tupKey {X : Cx} {pins : List (Addr × Obj)} {σ : L2.St} {H : Hp} {s : Shared} {E : Value → Shared → Prop} {Dd b : Addr} {kvs : List (List Key × V)} {k : List Key} {v : V} {r : Value} {Q : Unit → Shared → Prop} (hu : X.A.units < cLine) (I : Inv X pins σ H s) (hD : H Dd = some (.dT kvs)) (hz : kvs.length < sizeLine)
    (eb : H b = some (.tup (k.map kV))) (rv : RelV v r) (h : ∀ s', Inv X pins σ (upd H Dd (.dT (putK kvs k v))) s' → Q () s') : wpAny (model X.prog X.w) X.A (dictSet Dd (.ref b) r) Q E s := by
  obtain ⟨z, hd, xs, rel, dd⟩ := dt_of I.hok hD
  have hl : (putK kvs k v).length ≤ sizeLine := by have := length_putK kvs k v; omega
  refine wpAny_dictSet_heap (hsz := by rw [← Paired.length rel]; exact z) (show (tupleKind (mixKind X.prog X.w)).room X.A from hu) (key_of I.hok eb) dd fun h' dd' hs => h _ ?_
  obtain ⟨q, es, ep, hq, h2, h3, h4, _, h5⟩ := dd'
  refine d_write I (by rw [hD]; exact True.intro) hs ⟨q, hq⟩ ⟨hl, hd, _, (rel.put k eb rv).keeps fun c ys ec => ?_, q, es, ep, hq, h2, h3, h4, h5⟩
  rw [upd_ne (ne_of ec hD (fun z => nomatch z))]
  exact ec
/-- one turn's store -/
def PutT (Dd : Addr) (y z : V) (H : Hp) (N : Hp → Prop) : Prop := ∃ (kvs : List (List Key × V)) (k : List Key) (b : Addr), y = .ref b ∧ H b = some (.tup (k.map kV)) ∧ H Dd = some (.dT kvs) ∧ kvs.length < sizeLine ∧ N (upd H Dd (.dT (putK kvs k z)))
def tDcT (wi : TI) (g : TG) (tt : TT) (tk tv : TE) (vs : List Nat) : TE := fun σ H Q => wi σ H fun J H1 => ∀ Dd, H1 Dd = none → ∃ W : Nat → Nat → Hp → Prop, (∃ m, W 0 m (upd H1 Dd (.dT []))) ∧ ∀ i m H, W i m H →
  (J.stop i H ∧ Q (.ref Dd) H) ∨ (J.go i H ∧ ∃ Nx : Hp → Prop, (∀ H', Nx H' → ∃ m', m' < m ∧ W (i + 1) m' H') ∧ ∀ x H', J.yld i H x H' → g x (wipe σ vs) H' fun σ2 H2 => wipe σ2 vs = wipe σ vs ∧ tt σ2 H2 fun b H3 =>
    if b = true then tk σ2 H3 fun y H4 => tv σ2 H4 fun z H5 => PutT Dd y z H5 Nx else Nx H3)
section
variable {X : Cx} {kx vx tg iter : Expr} {ifs : List Expr} {scope : Scope} {own : List (Str × Nat)} {wi : TI} {g : TG} {tt : TT} {tk tv : TE}
theorem dct_core {pins : List (Addr × Obj)} {s : Shared} {σ : L2.St} {H : Hp} {Q : VK} {pos pos' : Pos} {use : Option (Value → Sem Unit)} {Qf : Value → Shared → Prop}
    (hu : X.A.units < cLine) (hc : X.calm = true) (hN : X.N.Nodup) (I : Inv X pins σ H s) (hi : PI X tg iter wi) (ok : BlkOk X.N X.env.scope scope own)
    (hg : ∀ (s : Shared) (H : Hp) (C : Addr) (cl : List (Str × Addr)) (fp : List Addr), PG (X.blk s H scope (compEnvC scope cl C X.env) fp) tg g) (ht : ∀ (s : Shared) (H : Hp) (C : Addr) (cl : List (Str × Addr)) (fp : List Addr), PTs (X.blk s H scope (compEnvC scope cl C X.env) fp) ifs tt)
    (hk : ∀ (s : Shared) (H : Hp) (C : Addr) (cl : List (Str × Addr)) (fp : List Addr), PE (X.blk s H scope (compEnvC scope cl C X.env) fp) kx tk)
    (he : ∀ (s : Shared) (H : Hp) (C : Addr) (cl : List (Str × Addr)) (fp : List Addr), PE (X.blk s H scope (compEnvC scope cl C X.env) fp) vx tv) (hs : ∀ x, foldedSetIterable iter X.env x = pure x)
    (h : tDcT wi g tt tk tv (own.map (·.2)) σ H Q)
    (hRR : ∀ Dd C s' m H', Inv X pins σ H' s' → Q (.ref Dd) H' → s'.heap.Ns C m → FpOk X pins H' C → compPost (model X.prog X.w) X.A X.xe use Qf (.ref Dd) C (.ok .next) s') :
    wpAny (model X.prog X.w) X.A (comprehension (.DictComp kx vx [⟨tg, iter, ifs, 0⟩] scope pos) scope X.env pos' newDict false (eval iter X.env) use) Qf X.xe s := by
  refine wpAny_comprehension_free (use := use) rfl hs (closure_ok fun y hy e => (ok.free y hy e).elim (fun k => I.ok.has _ (.inl k)) fun k => I.ok.has _ (.inr k)) ok.kind (fun y hy e => by rw [ok.uniq y hy, e])
    (thn (hi.run pins s σ H _ I h) fun xv s1 hx => thn hx fun itv s2 h2 => ?_)
  obtain ⟨it, fp, tn, J, H2, e, I2, T, st2, f2, q⟩ := h2
  subst e
  refine wpAny_newObj_type (newEnv_comp ?_)
  generalize hD : s2.heap.objs.size = Dd
  have hDn : H2 Dd = none := I2.hok.fresh (Nat.le_of_eq hD)
  obtain ⟨W, ⟨m0, w0⟩, turn⟩ := q Dd hDn
  generalize hs3 : ({ s2 with heap := s2.heap.push { cls := .type "dict", data := .dict #[] } } : Shared) = s3
  have h3 : s3.heap = s2.heap.push { cls := .type "dict", data := .dict #[] } := by rw [← hs3]
  have I3 : Inv X pins σ (upd H2 Dd (.dT [])) s3 := by
    rw [← hs3]
    refine I2.laid (t' := s2.toks) (fun b o e => Heap.get?_push_of_some _ e) (Nat.le_of_eq hD) ?_
    rw [← hD]
    exact dt_empty s2.heap I2.big
  have f3 : ∀ b ∈ fp, FpOk X pins (upd H2 Dd (.dT [])) b ∧ b < s3.heap.objs.size := fun b hb => by
    obtain ⟨o, e, _⟩ := T.obj _ _ st2 b hb
    have hlt := Heap.lt_size e
    refine ⟨⟨?_, (f2 b hb).2⟩, by rw [h3, Heap.size_push]; exact Nat.lt_succ_of_lt hlt⟩
    rw [upd_ne (by rw [← hD]; exact Nat.ne_of_lt hlt)]
    exact (f2 b hb).1
  have st3 : tn 0 s3.heap := T.keep _ _ _ st2 fun b _ o e => by rw [h3]; exact Heap.get?_push_of_some _ e
  have I4 := block_start I3 ok hN f3
  generalize hcl : cellsFrom (s3.heap.objs.size + 1) scope.names (cloFrom X.env.cells scope.names []) = cl at I4
  have pg := hg s3 (upd H2 Dd (.dT [])) s3.heap.objs.size cl fp
  have pt := ht s3 (upd H2 Dd (.dT [])) s3.heap.objs.size cl fp
  have pk := hk s3 (upd H2 Dd (.dT [])) s3.heap.objs.size cl fp
  have pe := he s3 (upd H2 Dd (.dT [])) s3.heap.objs.size cl fp
  show codeAny _ _ (.compStart (.DictComp kx vx [⟨tg, iter, ifs, 0⟩] scope pos) 0 (.ref it) (.ref Dd) (compEnvC scope cl s3.heap.objs.size X.env)) (compPost (model X.prog X.w) X.A X.xe use Qf (.ref Dd) s3.heap.objs.size) { s3 with heap := pushCells (s3.heap.push { cls := .type "dict", data := .dict #[] }) scope.names }
  have nfp : ∀ b ∈ fp, (upd H2 Dd (.dT [])) b = none := fun b hb => (f3 b hb).1.1
  generalize hce : compEnvC scope cl s3.heap.objs.size X.env = ce at I4 pg pt pk pe ⊢
  have cL : ce.locals = s3.heap.objs.size := by subst hce; rfl
  generalize hH3 : upd H2 Dd (.dT []) = H3 at I3 I4 pg pt pk pe w0 nfp f3
  generalize hs4 : ({ s3 with heap := pushCells (s3.heap.push { cls := .type "dict", data := .dict #[] }) scope.names } : Shared) = s4 at I4 ⊢
  have st4 : tn 0 s4.heap := T.keep _ _ _ st3 fun b _ o e => by rw [← hs4]; exact pushCells_keeps _ _ _ _ (Heap.get?_push_of_some _ e)
  have stat : ∀ {σ' : L2.St} {H' : Hp} {s' : Shared}, Inv (X.blk s3 H3 scope ce fp) [] σ' H' s' → (∀ b ∈ fp, H' b = none) → ∀ b ∈ fp, FpOk (X.blk s3 H3 scope ce fp) [] H' b := fun {σ' H' s'} I' hn b hb =>
    ⟨hn b hb, (I'.ok.exf b hb).1, I'.ok.exfs b hb, .inl hb, fun x c e => (I'.ok.exf b hb).2 x c e, fun p hp => absurd (show p ∈ ([] : List (Addr × Obj)) ++ [] from hp) (by simp)⟩
  have loop : codeAny (model X.prog X.w) X.A (.compLoop (.DictComp kx vx [⟨tg, iter, ifs, 0⟩] scope pos) 0 (.ref it) (.ref Dd) ce) (compPost (model X.prog X.w) X.A X.xe use Qf (.ref Dd) s3.heap.objs.size) s4 := by
    refine compLoop_anyD (fun n s' => ∃ i H', Inv (X.blk s3 H3 scope ce fp) [] (wipe σ (own.map (·.2))) H' s' ∧ tn i s'.heap ∧ (∀ b ∈ fp, H' b = none) ∧ W i n H') ?_ m0 ⟨0, H3, I4, st4, nfp, w0⟩
    rintro n s5 ⟨i, H5, I5, st5, n5, w5⟩
    rcases turn i n H5 w5 with ⟨stop, qq⟩ | ⟨go, Nx, hNx, step⟩
    · refine thnF (T.done (X.blk s3 H3 scope ce fp) rfl rfl rfl hc i [] s5 _ H5 (fun _ _ => False) I5 (stat I5 n5) st5 stop) fun r s6 ⟨hr, I6⟩ => ?_
      subst hr
      have I7 : Inv X pins σ H5 s6 := I3.call' (ch := fp) I6.os I6.base I6.hok I6.bare fun b hb => ⟨(f3 b hb).1.2.2.2.1, (f3 b hb).1.2.1, (f3 b hb).1.2.2.2.2.1, (f3 b hb).1.2.2.2.2.2⟩
      have nC : H5 s3.heap.objs.size = none := cL ▸ (show H5 ce.locals = none from I6.free)
      obtain ⟨m, hn, _⟩ := I6.loc
      have hn : s6.heap.Ns s3.heap.objs.size m := cL ▸ (show s6.heap.Ns ce.locals m from hn)
      exact hRR Dd s3.heap.objs.size s6 m H5 I7 qq hn (I3.fpOk (Nat.le_refl _) nC)
    · refine thnF (T.item (X.blk s3 H3 scope ce fp) rfl rfl rfl hc i [] s5 _ H5 (fun _ _ => False) I5 (stat I5 n5) st5 go) fun r s6 ⟨u, hr, h6⟩ => ?_
      subst hr
      refine thnF h6 fun _ s7 ⟨x, H7, I7, r7, y7, st7, n7⟩ => ?_
      refine thnF (pg.run _ s7 _ H7 x u _ (I7.pinned (stat I7 n7) (T.obj _ _ st7)) r7 (step x H7 y7)) fun _ s8 ⟨σ8, H8, I8, hw8, q8⟩ => ?_
      refine thnF (pt.run _ s8 σ8 H8 _ I8 q8) fun b s9 ⟨H9, I9, q9⟩ => ?_
      have fin : ∀ {s' : Shared} {H' : Hp}, Inv (X.blk s3 H3 scope ce fp) ([] ++ pinsAt fp s7.heap) σ8 H' s' → Nx H' → ∃ m, m < n ∧ ∃ i H', Inv (X.blk s3 H3 scope ce fp) [] (wipe σ (own.map (·.2))) H' s' ∧ tn i s'.heap ∧ (∀ b ∈ fp, H' b = none) ∧ W i m H' := fun {s' H'} I' nx => by
        obtain ⟨m', hm, w'⟩ := hNx H' nx
        have pin' : ∀ b ∈ fp, ∀ o, s7.heap.get? b = some o → s'.heap.get? b = some o ∧ H' b = none := fun b hb o e =>
          let z := I'.pin (b, o) (List.mem_append_right _ (List.mem_append_right _ (mem_pinsAt hb e)))
          ⟨z.1, z.2.1⟩
        refine ⟨m', hm, i + 1, H', (I'.unpinned (pins := [])).weak (by rw [← hw8, wipe_length]) (fun j v e => ?_), T.keep _ _ _ st7 fun b hb o e => (pin' b hb o e).1, fun b hb => ?_, w'⟩
        · rw [← hw8] at e
          exact (wipe_some e).1
        · obtain ⟨o, e, _⟩ := T.obj _ _ st7 b hb
          exact (pin' b hb o e).2
      cases b with
      | false =>
        simp only [Bool.false_eq_true, if_false] at q9 ⊢
        exact fin I9 q9
      | true =>
        simp only [if_true] at q9 ⊢
        refine thnF (pk.run _ s9 σ8 H9 _ I9 q9) fun z s10 ⟨yk, H10, I10, r10, q10⟩ => ?_
        refine thnF (pe.run _ s10 σ8 H10 _ I10 q10) fun z2 s11 ⟨yv, H11, I11, r11, kvs, k, bb, ek, eb, hD11, hz11, nx⟩ => ?_
        subst ek
        cases (show z = Value.ref bb from r10)
        exact set_tupKey (X := X.blk s3 H3 scope ce fp) hu I11 hD11 hz11 eb r11 fun s12 I12 => fin I12 nx
  exact codeAny_compStart_dict loop (T.self X.A 0 _ _ _ st4 loop)
theorem pe_dcT {pos : Pos} (hu : X.A.units < cLine) (hc : X.calm = true) (hN : X.N.Nodup) (hi : PI X tg iter wi) (ok : BlkOk X.N X.env.scope scope own)
    (hg : ∀ (s : Shared) (H : Hp) (C : Addr) (cl : List (Str × Addr)) (fp : List Addr), PG (X.blk s H scope (compEnvC scope cl C X.env) fp) tg g) (ht : ∀ (s : Shared) (H : Hp) (C : Addr) (cl : List (Str × Addr)) (fp : List Addr), PTs (X.blk s H scope (compEnvC scope cl C X.env) fp) ifs tt)
    (hk : ∀ (s : Shared) (H : Hp) (C : Addr) (cl : List (Str × Addr)) (fp : List Addr), PE (X.blk s H scope (compEnvC scope cl C X.env) fp) kx tk)
    (he : ∀ (s : Shared) (H : Hp) (C : Addr) (cl : List (Str × Addr)) (fp : List Addr), PE (X.blk s H scope (compEnvC scope cl C X.env) fp) vx tv) (hs : ∀ x, foldedSetIterable iter X.env x = pure x := by intro _; rfl) :
    PE X (.DictComp kx vx [⟨tg, iter, ifs, 0⟩] scope pos) (tDcT wi g tt tk tv (own.map (·.2))) := by
  refine ⟨fun pins s σ H Q I h => ?_⟩
  rw [arm_eval_DictComp]
  refine dct_core hu hc hN I hi ok hg ht hk he hs h fun Dd C s' m H' I' q hn f => ⟨m, hn, fun h'' sb => ?_⟩
  obtain ⟨f0, f1, f2, f3, f4, f5⟩ := f
  exact ⟨.ref Dd, H', I'.turned (t' := s'.toks) (fun b o hb e => (sb.2 b hb).trans e) f0 f1 f3 f4 f5, rfl, q⟩
end
end Du
namespace Du
open PySem L2 PySem.Spec PyProof.Rows

/-! t[::-1], t a tuple -/
section
variable {prog : Program} {w : World} {A : Around} {E : Value → Shared → Prop} {s : Shared}
theorem adjust_back (n : Nat) : Builtin.Slice.sliceAdjust none none (-1) (n : Int) = ((n : Int) - 1, -1) := by
  unfold Builtin.Slice.sliceAdjust
  simp
theorem places_back (n : Nat) : Builtin.Slice.slicePlaces ((n : Int) - 1) (-1) (-1) = n := by
  unfold Builtin.Slice.slicePlaces
  have h1 : ¬ ((-1 : Int) > 0) := by decide
  simp only [h1, if_false]
  rw [show (- -1 : Int) = 1 by decide, Int.ediv_one]
  split <;> omega
theorem pick_back (xs : Array Value) : ((List.range xs.size).filterMap fun (k : Nat) => xs[((xs.size : Int) - 1 + (k : Int) * (-1)).toNat]?).toArray = xs.toList.reverse.toArray := by
  have e : ((List.range xs.size).filterMap fun (k : Nat) => xs[((xs.size : Int) - 1 + (k : Int) * (-1)).toNat]?) = (((List.range xs.size).map fun k => xs.size - 1 - k).filterMap fun k => xs[k]?) := by
    rw [List.filterMap_map]
    have : ∀ l : List Nat, (∀ k ∈ l, k < xs.size) → (l.filterMap fun (k : Nat) => xs[((xs.size : Int) - 1 + (k : Int) * (-1)).toNat]?) = l.filterMap ((fun k => xs[k]?) ∘ fun k => xs.size - 1 - k) := by
      intro l hl
      induction l with
      | nil => rfl
      | cons k l ih =>
        have hk := hl k List.mem_cons_self
        have e : ((xs.size : Int) - 1 + (k : Int) * (-1)).toNat = xs.size - 1 - k := by omega
        rw [List.filterMap_cons, List.filterMap_cons, ih fun j hj => hl j (List.mem_cons_of_mem _ hj)]
        rw [e]
        rfl
    exact this _ fun k hk => List.mem_range.mp hk
  rw [e, PySem.W.krv_range, List.filterMap_reverse, PySem.W.krv_all]
theorem applied_back {sl : Addr} {vl vu vs : Value} {n : Nat} {Q : Int × Int × Nat → Shared → Prop} (hs : s.heap.IsSliceOf sl vl vu vs) (pl : IsPart vl none) (pu : IsPart vu none) (ps : IsPart vs (some (-1)))
    (h : Q ((n : Int) - 1, -1, n) s) : wpAny (model prog w) A (Builtin.Slice.sliceApplied (.ref sl) (pure (n : Int))) Q E s := by
  obtain ⟨os, hos, hcs, hds⟩ := id hs
  unfold Builtin.Slice.sliceApplied Builtin.Slice.sliceFields
  refine wpAny_bind (wpAny_bind (wpAny_field hos hds (x := vl) rfl (wpAny_bind (wpAny_field hos hds (x := vu) rfl (wpAny_bind (wpAny_field hos hds (x := vs) rfl (wpAny_pure ?_)))))))
  refine wpAny_bind (HT.slicePart_ ps ?_)
  show wpAny _ _ (if ((-1 : Int) == 0) = true then _ else _) _ _ s
  rw [if_neg (by decide)]
  refine wpAny_bind (HT.slicePart_ pl (wpAny_bind (HT.slicePart_ pu (wpAny_bind (wpAny_pure ?_)))))
  show wpAny _ _ (match Builtin.Slice.sliceAdjust none none (-1) (n : Int) with | (lo, hi) => pure (lo, (-1 : Int), Builtin.Slice.slicePlaces lo hi (-1))) _ _ s
  rw [adjust_back]
  show wpAny _ _ (pure ((n : Int) - 1, (-1 : Int), Builtin.Slice.slicePlaces ((n : Int) - 1) (-1) (-1))) _ _ s
  rw [places_back]
  exact wpAny_pure h
theorem tuple_back {t sl : Addr} {items : Array Value} {vl vu vs : Value} {Q : Value → Shared → Prop} (ht : IsTup s.heap t items) (hs : s.heap.IsSliceOf sl vl vu vs) (pl : IsPart vl none) (pu : IsPart vu none) (ps : IsPart vs (some (-1)))
    (h : Q (.ref s.heap.objs.size) { s with heap := s.heap.push { cls := .type "tuple", data := .seq items.toList.reverse.toArray } })
    (hsz : items.size ≤ sizeLine) : wpAny (model prog w) A (getItem (.ref t) (.ref sl)) Q E s := by
  have ok : sizeOk (.seq items.toList.reverse.toArray) := by
    show items.toList.reverse.toArray.size ≤ sizeLine
    rw [List.size_toArray, List.length_reverse, Array.length_toList]
    exact hsz
  obtain ⟨os, hos, hcs, hds⟩ := id hs
  have hTs : s.TypeIs (.ref sl) "slice" := ⟨os, hos, hcs⟩
  unfold getItem
  try with_reducible refine wpAny_holding ?_
  first | refine wpAny_bind (wpAny_pure ?_) | skip
  refine wpAny_bind (wpAny_sequenceKey ht.typeIs (by decide) ?_)
  refine wpAny_bind (wpAny_callSpecial?_slot (name := Str.ofString "__getitem__") ht.typeIs PyProof.Rows.slot_tuple_getitem
    (wpAny_call_entry PyProof.Rows.slot_tuple_getitem ht.typeIs entry_tuple_getitem ?_ (args_tuple_getitem _ _)))
  show wpAny _ _ (Builtin.Tuple.tupleItemsOf (.ref t) >>= _) _ _ s
  refine wpAny_bind (PyProof.Rows.tupleItemsOf_ ht ?_)
  refine wpAny_bind (wpAny_typeOf hTs ?_)
  rw [if_pos (by decide)]
  refine wpAny_bind (applied_back hs pl pu ps ?_)
  show wpAny _ _ (if (((items.size : Int) - 1) == 0 && (-1 : Int) == 1 && items.size == items.size) = true then _ else _) _ _ s
  rw [if_neg (by simp), pick_back]
  first
    | exact wpAny_bind (m := Builtin.Tuple.tupleExact _) (wpAny_newObj_type (wpAny_pure ⟨_, rfl, wpAny_pure h⟩) ok)
    | exact wpAny_bind (m := Builtin.Tuple.tupleExact _) (wpAny_newObj_type (wpAny_bind (wpAny_pure (wpAny_pure ⟨_, rfl, wpAny_pure h⟩))) ok)
    | exact wpAny_bind (wpAny_bind (m := Builtin.Tuple.tupleExact _) (wpAny_newObj_type (wpAny_pure (wpAny_pure ⟨_, rfl, wpAny_pure h⟩)) ok))
    | exact wpAny_bind (wpAny_bind (m := Builtin.Tuple.tupleExact _) (wpAny_newObj_type (wpAny_pure ⟨_, rfl, wpAny_pure h⟩) ok))
end
section
variable {X : Cx}
def tRevT (K : PySem.W.Frag) (te : TE) : TE := fun σ H Q => te σ H fun x H1 => ∃ a xs, x = .ref a ∧ SqT K H1 a xs ∧ ∀ p, H1 p = none → Q (.ref p) (upd H1 p (.tup xs.reverse))
theorem pe_revT {e : Expr} {te : TE} {k : Nat} {p1 p2 p3 pos : Pos} (he : PE X e te) : PE X (.Subscript e (.Slice none none (some (.UnaryOp .USub (.Constant (.int 1) k p1) p2)) p3) pos) (tRevT X.K te) := by
  refine ⟨fun pins s σ H Q I h => ?_⟩
  refine Subscript_ (thn (he.run pins s σ H _ I h) fun v s1 ⟨x, H1, I1, r1, q1⟩ => ?_)
  obtain ⟨a, xs, ex, hx, q⟩ := q1
  subst ex
  cases r1
  have hst : PO X (some (.UnaryOp .USub (.Constant (.int 1) k p1) p2)) (tPart (tUn (rU fun i => .int (-i)) (tC (.int 1)))) := po_some (pe_un un_neg pe_int)
  refine wpAny_Slice (thn (po_none.run pins s1 σ H1 (fun o H2 => o = none ∧ H2 = H1) I1 ⟨rfl, rfl⟩) fun vl s2 ⟨l, H2, I2, pl, el, e2⟩ => ?_)
  subst el e2
  refine thn (po_none.run pins s2 σ H2 (fun o H3 => o = none ∧ H3 = H2) I2 ⟨rfl, rfl⟩) fun vu s3 ⟨u, H3, I3, pu, eu, e3⟩ => ?_
  subst eu e3
  refine thn (hst.run pins s3 σ H3 (fun o H4 => o = some (-1) ∧ H4 = H3) I3 ⟨1, rfl, -1, rfl, rfl, rfl⟩) fun vs s4 ⟨o, H4, I4, ps, eo, e4⟩ => ?_
  subst eo e4
  have I5 : Inv X pins σ H4 { s4 with heap := s4.heap.push { cls := .type "slice", data := .fields #[vl, vu, vs] } } := I4.kept (t' := s4.toks) fun b ob q => Heap.get?_push_of_some _ q
  obtain ⟨its, r, ht, hz⟩ := I5.tuple hx
  have hlen := r.length
  show wpAny (model X.prog X.w) X.A (subscriptTail e (.Slice none none (some (.UnaryOp .USub (.Constant (.int 1) k p1) p2)) p3) (.ref a) (.ref s4.heap.objs.size)) (EP X pins σ Q) X.xe { s4 with heap := s4.heap.push { cls := .type "slice", data := .fields #[vl, vu, vs] } }
  refine tail_any (ops := [.ref a, .ref s4.heap.objs.size]) ht.typeIs (PyProof.Rows.slot_tuple_getitem.lookup) ?_ (by with_unfolding_all rfl)
  refine tuple_back ht (Heap.IsSliceOf.new _ vl vu vs) pl pu ps ?_ (by rw [List.size_toArray]; omega)
  refine ⟨.ref _, _, I5.laid (t' := s4.toks) (o := .tup xs.reverse) (fun b ob q => Heap.get?_push_of_some _ q) (Nat.le_refl _) ?_, rfl, q _ (I5.hok.fresh (Nat.le_refl _))⟩
  exact ⟨by rw [List.length_reverse]; exact hz, _, r.reverse, IsTup.new _ _⟩
/-- of a list or a tuple -/
def tRev (K : PySem.W.Frag) (te : TE) : TE := fun σ H Q => tRevL K te σ H Q ∨ tRevT K te σ H Q
theorem pe_rev {e : Expr} {te : TE} {k : Nat} {p1 p2 p3 pos : Pos} (he : PE X e te) : PE X (.Subscript e (.Slice none none (some (.UnaryOp .USub (.Constant (.int 1) k p1) p2)) p3) pos) (tRev X.K te) :=
  ⟨fun pins s σ H Q I h => h.elim (fun h => (pe_revL he).run pins s σ H Q I h) fun h => (pe_revT he).run pins s σ H Q I h⟩
theorem ev_revL {K : PySem.W.Frag} {te : TE} {ρ : Rho} {ds : List D} (h : Ev te ρ (.lst ds)) : Ev (tRev K te) ρ (.lst ds.reverse) := fun Z σ H Q k s q => .inl <|
  h Z σ H _ k s fun x H1 x1 r1 => by
    cases r1 with
    | lst n h1 rs => exact ⟨_, _, rfl, .inl (.inl h1), fun p hp => q _ _ (x1.tr (Ex.new hp)) (.lst ((k.ex x1).no hp) upd_same (rs.rev.mono (Ext.new hp)))⟩
theorem ev_revT {K : PySem.W.Frag} {te : TE} {ρ : Rho} {ds : List D} (h : Ev te ρ (.tup ds)) : Ev (tRev K te) ρ (.tup ds.reverse) := fun Z σ H Q k s q => .inr <|
  h Z σ H _ k s fun x H1 x1 r1 => by
    cases r1 with
    | tup n h1 rs => exact ⟨_, _, rfl, .inl (.inl h1), fun p hp => q _ _ (x1.tr (Ex.new hp)) (.tup ((k.ex x1).no hp) upd_same (rs.rev.mono (Ext.new hp)))⟩
end
end Du
namespace Du
open PySem L2

/-! plain data, and == of it -/
mutual
def pl : D → Bool
  | .non => true
  | .bl _ => true
  | .int _ => true
  | .str s => PyData.strOk s
  | .lst xs => pls xs
  | .tup xs => pls xs
  | .dT _ => false
  | .dK _ => false
  | .dN _ _ => false
  | .ins _ _ => false
  | .ptr _ => false
  | .ty _ => false
def pls : List D → Bool
  | [] => true
  | x :: xs => pl x && pls xs
end
mutual
def toP : D → PyData
  | .non => .none
  | .bl b => .bool b
  | .int i => .int i
  | .str s => .str s
  | .lst xs => .list (toPs xs)
  | .tup xs => .tuple (toPs xs)
  | .dT _ => .none
  | .dK _ => .none
  | .dN _ _ => .none
  | .ins _ _ => .none
  | .ptr _ => .none
  | .ty _ => .none
def toPs : List D → List PyData
  | [] => []
  | x :: xs => toP x :: toPs xs
end
mutual
theorem lay_of : ∀ d : D, pl d = true → (toP d).canLay0 = true
  | .non, _ => by simp [toP, PyData.canLay0]
  | .bl _, _ => by simp [toP, PyData.canLay0]
  | .int _, _ => by simp [toP, PyData.canLay0]
  | .str s, h => by simpa [toP, PyData.canLay0, pl] using h
  | .lst xs, h => by simp only [toP, PyData.canLay0]; exact lays_of xs (by simpa [pl] using h)
  | .tup xs, h => by simp only [toP, PyData.canLay0]; exact lays_of xs (by simpa [pl] using h)
  | .dT _, h => by simp [pl] at h
  | .dK _, h => by simp [pl] at h
  | .dN _ _, h => by simp [pl] at h
  | .ins _ _, h => by simp [pl] at h
  | .ptr _, h => by simp [pl] at h
  | .ty _, h => by simp [pl] at h
theorem lays_of : ∀ ds : List D, pls ds = true → PyData.canLayAll0 (toPs ds) = true
  | [], _ => by simp [toPs, PyData.canLayAll0]
  | x :: xs, h => by
    simp only [pls, Bool.and_eq_true] at h
    simp only [toPs, PyData.canLayAll0, Bool.and_eq_true]
    exact ⟨lay_of x h.1, lays_of xs h.2⟩
end
mutual
theorem dp_of {K : PySem.W.Frag} {Z : Addr → Prop} {H : Hp} : ∀ {v : V} {d : D}, Rep Z H v d → pl d = true → Dp K H v (toP d)
  | _, _, .non, _ => by simpa [toP] using .non
  | _, _, .bl b, _ => by simpa [toP] using .bl b
  | _, _, .int i, _ => by simpa [toP] using .int i
  | _, _, .str s, _ => by simpa [toP] using .str s
  | _, _, .lst n h r, p => by simp only [toP]; exact .lst (.inl (.inl h)) (dps_of r (by simpa [pl] using p))
  | _, _, .tup n h r, p => by simp only [toP]; exact .tup (.inl (.inl h)) (dps_of r (by simpa [pl] using p))
  | _, _, .dT _ _ _, p => by simp [pl] at p
  | _, _, .dK _ _ _, p => by simp [pl] at p
  | _, _, .dN _ _ _, p => by simp [pl] at p
  | _, _, .ins _ _ _, p => by simp [pl] at p
  | _, _, .ptr _, p => by simp [pl] at p
  | _, _, .ty _, p => by simp [pl] at p
theorem dps_of {K : PySem.W.Frag} {Z : Addr → Prop} {H : Hp} : ∀ {vs : List V} {ds : List D}, Reps Z H vs ds → pls ds = true → DpAll K H vs (toPs ds)
  | _, _, .nil, _ => by simp only [toPs]; exact .nil
  | _, _, .cons r t, p => by
    simp only [pls, Bool.and_eq_true] at p
    simp only [toPs]
    exact .cons (dp_of r p.1) (dps_of t p.2)
end
/-- data that == takes -/
def okE (d : D) : Prop := pl d = true ∧ (toP d).depth ≤ 64
theorem okE.sh {d : D} (h : okE d) : SeqAt.shaped (toP d) = true := by
  unfold SeqAt.shaped
  rw [lay_of d h.1, decide_eq_true h.2]; rfl
def eqD (d e : D) : Bool := PyData.eqv (toP d) (toP e)
theorem rd_eq {K : PySem.W.Frag} {d e : D} (hd : okE d) (he : okE e) : R2D (rEqD K) d e (.bl (eqD d e)) := fun Z H x y Q k r1 r2 q =>
  ⟨_, _, dp_of r1 hd.1, dp_of r2 he.1, hd.sh, he.sh, q _ H (Ex.rf H) (.bl _)⟩
theorem rd_ne {K : PySem.W.Frag} {d e : D} (hd : okE d) (he : okE e) : R2D (rNeD K) d e (.bl (!eqD d e)) := fun Z H x y Q k r1 r2 q =>
  ⟨_, _, dp_of r1 hd.1, dp_of r2 he.1, hd.sh, he.sh, q _ H (Ex.rf H) (.bl _)⟩
theorem ok_bl {b : Bool} : okE (.bl b) := ⟨by simp [pl], by simp [toP, PyData.depth]⟩
theorem ok_int {i : Int} : okE (.int i) := ⟨by simp [pl], by simp [toP, PyData.depth]⟩
theorem ok_str {s : Str} (h : PyData.strOk s = true) : okE (.str s) := ⟨by simpa [pl] using h, by simp [toP, PyData.depth]⟩
/-- depth at most n -/
def okN (n : Nat) (d : D) : Prop := pl d = true ∧ (toP d).depth ≤ n
theorem okN.e {n : Nat} {d : D} (h : okN n d) (hn : n ≤ 64) : okE d := ⟨h.1, Nat.le_trans h.2 hn⟩
theorem okN.up {n m : Nat} {d : D} (h : okN n d) (hn : n ≤ m) : okN m d := ⟨h.1, Nat.le_trans h.2 hn⟩
theorem depth_all {n : Nat} : ∀ {ds : List D}, (∀ d ∈ ds, okN n d) → pls ds = true ∧ PyData.depthAll (toPs ds) ≤ n
  | [], _ => by simp [pls, toPs, PyData.depthAll]
  | x :: xs, h => by
    obtain ⟨h1, h2⟩ := depth_all (ds := xs) fun d hd => h d (List.mem_cons_of_mem _ hd)
    obtain ⟨h3, h4⟩ := h x List.mem_cons_self
    simp only [pls, toPs, PyData.depthAll, h1, h3, Bool.and_self, true_and]
    omega
theorem okN_lst {n : Nat} {ds : List D} (h : ∀ d ∈ ds, okN n d) : okN (n + 1) (.lst ds) := by
  obtain ⟨h1, h2⟩ := depth_all h
  exact ⟨by simpa [pl] using h1, by simp only [toP, PyData.depth]; omega⟩
theorem okN_tup {n : Nat} {ds : List D} (h : ∀ d ∈ ds, okN n d) : okN (n + 1) (.tup ds) := by
  obtain ⟨h1, h2⟩ := depth_all h
  exact ⟨by simpa [pl] using h1, by simp only [toP, PyData.depth]; omega⟩
theorem okN_int {i : Int} : okN 0 (.int i) := ⟨by simp [pl], by simp [toP, PyData.depth]⟩
theorem okN_str {s : Str} (h : PyData.strOk s = true) : okN 0 (.str s) := ⟨by simpa [pl] using h, by simp [toP, PyData.depth]⟩
theorem eqv_strs : ∀ ss ts : List Str, PyData.eqvAll (toPs (ss.map D.str)) (toPs (ts.map D.str)) = decide (ss = ts)
  | [], [] => by simp [toPs, PyData.eqvAll]
  | [], t :: ts => by simp [toPs, PyData.eqvAll]
  | s :: ss, [] => by simp [toPs, PyData.eqvAll]
  | s :: ss, t :: ts => by
    simp only [List.map_cons, toPs, PyData.eqvAll, eqv_strs ss ts, toP, PyData.eqv]
    by_cases h : s = t <;> simp [h]
theorem eqD_str (a b : Str) : eqD (.str a) (.str b) = decide (a = b) := by
  simp only [eqD, toP, PyData.eqv]
  by_cases h : a = b <;> simp [h]
theorem eqD_bl (a b : Bool) : eqD (.bl a) (.bl b) = decide (a = b) := by
  simp only [eqD, toP, PyData.eqv]
  cases a <;> cases b <;> rfl
theorem eqD_int (a b : Int) : eqD (.int a) (.int b) = decide (a = b) := by
  simp only [eqD, toP, PyData.eqv]
  by_cases h : a = b <;> simp [h]
theorem eqD_tup (ss ts : List D) : eqD (.tup ss) (.tup ts) = PyData.eqvAll (toPs ss) (toPs ts) := by simp only [eqD, toP, PyData.eqv]
theorem eqD_lst (ss ts : List D) : eqD (.lst ss) (.lst ts) = PyData.eqvAll (toPs ss) (toPs ts) := by simp only [eqD, toP, PyData.eqv]
theorem eqD_lst0 (ss : List D) : eqD (.lst ss) (.lst []) = ss.isEmpty := by
  rw [eqD_lst]; cases ss <;> simp [toPs, PyData.eqvAll]
/-- a tuple of texts -/
abbrev tS (ss : List Str) : D := .tup (ss.map D.str)
theorem eqD_tS (ss ts : List Str) : eqD (tS ss) (tS ts) = decide (ss = ts) := by rw [eqD_tup, eqv_strs]
theorem eqv_tSs : ∀ ss ts : List (List Str), PyData.eqvAll (toPs (ss.map tS)) (toPs (ts.map tS)) = decide (ss = ts)
  | [], [] => by simp [toPs, PyData.eqvAll]
  | [], t :: ts => by simp [toPs, PyData.eqvAll]
  | s :: ss, [] => by simp [toPs, PyData.eqvAll]
  | s :: ss, t :: ts => by
    have e := eqD_tS s t
    unfold eqD at e
    simp only [List.map_cons, toPs, PyData.eqvAll, eqv_tSs ss ts, e]
    by_cases h : s = t <;> simp [h]

/-! operators on ints, lists, tuples, texts, by unions -/
section
variable {X : Cx}
def rAddU (K : PySem.W.Frag) : R2 := fun x y H Q => rI0 (fun i j => .int (i + j)) x y H Q ∨ rCat x y H Q ∨ rCatA K x y H Q
theorem op_addU : OpR X (binaryOp .Add) (rAddU X.K) := OpR.or op_add (OpR.or op_cat op_catA)
theorem rd_addI {K : PySem.W.Frag} {i j : Int} : R2D (rAddU K) (.int i) (.int j) (.int (i + j)) := fun Z H x y Q k r1 r2 q => by
  cases r1; cases r2; exact .inl ⟨i, j, rfl, rfl, q _ H (Ex.rf H) (.int _)⟩
theorem rd_addL {K : PySem.W.Frag} {ds es : List D} (hz : ds.length + es.length ≤ 100000) : R2D (rAddU K) (.lst ds) (.lst es) (.lst (ds ++ es)) := fun Z H x y Q k r1 r2 q => by
  cases r1 with
  | lst n h r => cases r2 with
    | lst n' h' r' => exact .inr (.inl ⟨_, _, _, _, rfl, rfl, h, h', Nat.le_trans (by rw [r.len, r'.len]; exact hz) (by decide), fun p hp =>
        q _ _ (Ex.new hp) (.lst (k.no hp) upd_same ((r.mono (Ext.new hp)).app (r'.mono (Ext.new hp))))⟩)
def rMulU : R2 := fun x y H Q => rI CMul (fun i j => .int (i * j)) x y H Q ∨ rRep x y H Q
theorem op_mulU : OpR X (binaryOp .Mult) rMulU := OpR.or op_mul op_rep
def repD (ds : List D) : Nat → List D
  | 0 => []
  | n + 1 => ds ++ repD ds n
end
end Du
namespace Du
open PySem L2

section
variable {X : Cx}
theorem Reps.rep {Z : Addr → Prop} {H : Hp} {vs : List V} {ds : List D} (r : Reps Z H vs ds) : ∀ n : Nat, Reps Z H (List.replicate n vs).flatten (List.replicate n ds).flatten
  | 0 => by simpa using .nil
  | n + 1 => by
    rw [List.replicate_succ, List.replicate_succ, List.flatten_cons, List.flatten_cons]
    exact r.app (Reps.rep r n)
theorem rd_rep {ds : List D} {n : Nat} (hn : n ≤ 1000) (hz : ds.length * n ≤ 100000) : R2D rMulU (.lst ds) (.int (n : Int)) (.lst (List.replicate n ds).flatten) := fun Z H x y Q k r1 r2 q => by
  cases r2
  cases r1 with
  | lst nz h r =>
    refine .inr ⟨_, _, _, rfl, rfl, h, by omega, by omega, Nat.le_trans ?_ (by decide : 100000 ≤ sizeLine), fun p hp => ?_⟩
    · rw [Int.toNat_natCast, r.len]; exact hz
    · rw [Int.toNat_natCast]
      exact q _ _ (Ex.new hp) (.lst (k.no hp) upd_same ((r.rep n).mono (Ext.new hp)))
theorem rd_mulI {i j : Int} (h : CMul i j) : R2D rMulU (.int i) (.int j) (.int (i * j)) := fun Z H x y Q k r1 r2 q => by
  cases r1; cases r2; exact .inl ⟨i, j, rfl, rfl, h, q _ H (Ex.rf H) (.int _)⟩
theorem rd_I0 {g : Int → Int → V} {z : Int → Int → D} {i j : Int} (hg : ∀ Z H, Rep Z H (g i j) (z i j)) : R2D (rI0 g) (.int i) (.int j) (z i j) := fun Z H x y Q k r1 r2 q => by
  cases r1; cases r2; exact ⟨i, j, rfl, rfl, q _ H (Ex.rf H) (hg Z H)⟩
theorem rd_sub {i j : Int} : R2D (rI0 fun i j => .int (i - j)) (.int i) (.int j) (.int (i - j)) := rd_I0 (z := fun i j => .int (i - j)) fun _ _ => .int _
theorem rd_lt {i j : Int} : R2D (rI0 fun i j => .bl (decide (i < j))) (.int i) (.int j) (.bl (decide (i < j))) := rd_I0 (z := fun i j => .bl (decide (i < j))) fun _ _ => .bl _
theorem rd_le {i j : Int} : R2D (rI0 fun i j => .bl (decide (i ≤ j))) (.int i) (.int j) (.bl (decide (i ≤ j))) := rd_I0 (z := fun i j => .bl (decide (i ≤ j))) fun _ _ => .bl _
theorem rd_mod {i j : Int} (h : 0 < j) : R2D (rI (fun _ j => 0 < j) fun i j => .int (i % j)) (.int i) (.int j) (.int (i % j)) := fun Z H x y Q k r1 r2 q => by
  cases r1; cases r2; exact ⟨i, j, rfl, rfl, h, q _ H (Ex.rf H) (.int _)⟩
/-! in -/
def rInT (K : PySem.W.Frag) : R2 := fun x y H Q => ∃ d ds, Dp K H x d ∧ Dp K H y (.tuple ds) ∧ SeqAt.shaped d = true ∧ SeqAt.shaped (.tuple ds) = true ∧ Q (.bl (ds.any fun z => PyData.eqv z d)) H
theorem op_inT (hu : X.A.units + 65 < cLine) : OpR X (compareOp .In) (rInT X.K) := by
  intro pins s σ H x y v u Q I rx ry h
  obtain ⟨d, ds, hd, he, sd, se, q⟩ := h
  obtain ⟨as, r1⟩ := Dp.reads I d x v hd rx
  obtain ⟨bs, r2⟩ := Dp.reads I (.tuple ds) y u he ry
  exact SeqAt.in_tuple_reads r2 r1 (SeqAt.canLay_of_shaped se) (SeqAt.canLay_of_shaped sd) (PyProof.Rows.room_in_shaped sd hu) ⟨.bl _, H, I, rfl, q⟩
def rNotInT (K : PySem.W.Frag) : R2 := fun x y H Q => ∃ d ds, Dp K H x d ∧ Dp K H y (.tuple ds) ∧ SeqAt.shaped d = true ∧ SeqAt.shaped (.tuple ds) = true ∧ Q (.bl (!ds.any fun z => PyData.eqv z d)) H
theorem op_notInT (hu : X.A.units + 65 < cLine) : OpR X (compareOp .NotIn) (rNotInT X.K) := by
  intro pins s σ H x y v u Q I rx ry h
  obtain ⟨d, ds, hd, he, sd, se, q⟩ := h
  obtain ⟨as, r1⟩ := Dp.reads I d x v hd rx
  obtain ⟨bs, r2⟩ := Dp.reads I (.tuple ds) y u he ry
  exact SeqAt.notIn_tuple_reads r2 r1 (SeqAt.canLay_of_shaped se) (SeqAt.canLay_of_shaped sd) (PyProof.Rows.room_in_shaped sd hu) ⟨.bl _, H, I, rfl, q⟩
/-- in a list, in a tuple -/
def rInU (K : PySem.W.Frag) : R2 := fun x y H Q => rInD K x y H Q ∨ rInT K x y H Q
theorem op_inU (hu : X.A.units + 65 < cLine) : OpR X (compareOp .In) (rInU X.K) := OpR.or (op_inD hu) (op_inT hu)
def rNotInU (K : PySem.W.Frag) : R2 := fun x y H Q => rNotInD K x y H Q ∨ rNotInT K x y H Q
theorem op_notInU (hu : X.A.units + 65 < cLine) : OpR X (compareOp .NotIn) (rNotInU X.K) := OpR.or (op_notInD hu) (op_notInT hu)
def inD (d : D) (ds : List D) : Bool := ds.any fun z => eqD z d
theorem any_toPs (d : D) : ∀ ds : List D, ((toPs ds).any fun z => PyData.eqv z (toP d)) = inD d ds
  | [] => by simp [toPs, inD]
  | x :: xs => by
    simp only [toPs, List.any_cons, any_toPs d xs]
    simp [inD, eqD]
theorem rd_inL {K : PySem.W.Frag} {d : D} {ds : List D} (hd : okE d) (hs : okE (.lst ds)) : R2D (rInU K) d (.lst ds) (.bl (inD d ds)) := fun Z H x y Q k r1 r2 q => by
  have e := dp_of (K := K) r2 hs.1
  have s2 := hs.sh
  simp only [toP] at e s2
  exact .inl ⟨_, _, dp_of r1 hd.1, e, hd.sh, s2, by rw [any_toPs]; exact q _ H (Ex.rf H) (.bl _)⟩
theorem rd_inT {K : PySem.W.Frag} {d : D} {ds : List D} (hd : okE d) (hs : okE (.tup ds)) : R2D (rInU K) d (.tup ds) (.bl (inD d ds)) := fun Z H x y Q k r1 r2 q => by
  have e := dp_of (K := K) r2 hs.1
  have s2 := hs.sh
  simp only [toP] at e s2
  exact .inr ⟨_, _, dp_of r1 hd.1, e, hd.sh, s2, by rw [any_toPs]; exact q _ H (Ex.rf H) (.bl _)⟩
theorem rd_notInL {K : PySem.W.Frag} {d : D} {ds : List D} (hd : okE d) (hs : okE (.lst ds)) : R2D (rNotInU K) d (.lst ds) (.bl (!inD d ds)) := fun Z H x y Q k r1 r2 q => by
  have e := dp_of (K := K) r2 hs.1
  have s2 := hs.sh
  simp only [toP] at e s2
  exact .inl ⟨_, _, dp_of r1 hd.1, e, hd.sh, s2, by rw [any_toPs]; exact q _ H (Ex.rf H) (.bl _)⟩
theorem inD_strs (s : Str) (ss : List Str) : inD (.str s) (ss.map D.str) = decide (s ∈ ss) := by
  induction ss with
  | nil => simp [inD]
  | cons t ts ih =>
    have : inD (.str s) ((t :: ts).map D.str) = (eqD (.str t) (.str s) || inD (.str s) (ts.map D.str)) := by simp [inD]
    rw [this, ih, eqD_str]
    by_cases h : t = s
    · simp [h]
    · have h' : ¬ s = t := fun e => h e.symm
      simp [h, h']
theorem inD_tS (s : List Str) (ss : List (List Str)) : inD (tS s) (ss.map tS) = decide (s ∈ ss) := by
  induction ss with
  | nil => simp [inD]
  | cons t ts ih =>
    have : inD (tS s) ((t :: ts).map tS) = (eqD (tS t) (tS s) || inD (tS s) (ts.map tS)) := by simp [inD]
    rw [this, ih, eqD_tS]
    by_cases h : t = s
    · simp [h]
    · have h' : ¬ s = t := fun e => h e.symm
      simp [h, h']
/-! items, slices -/
theorem rd_ixL {K : PySem.W.Frag} {ds : List D} {i : Nat} {d : D} (h : ds[i]? = some d) : R2D (rIx K) (.lst ds) (.int (i : Int)) d := fun Z H x y Q k r1 r2 q => by
  cases r2
  cases r1 with
  | lst n h1 r =>
    obtain ⟨v, e1, e2⟩ := r.get h
    exact .inl ⟨_, _, _, v, rfl, rfl, .inl (.inl h1), atI_nat e1, q v H (Ex.rf H) e2⟩
theorem rd_ixT {K : PySem.W.Frag} {ds : List D} {i : Nat} {d : D} (h : ds[i]? = some d) : R2D (rIx K) (.tup ds) (.int (i : Int)) d := fun Z H x y Q k r1 r2 q => by
  cases r2
  cases r1 with
  | tup n h1 r =>
    obtain ⟨v, e1, e2⟩ := r.get h
    exact .inr (.inl ⟨_, _, _, v, rfl, rfl, .inl (.inl h1), atI_nat e1, q v H (Ex.rf H) e2⟩)
theorem ev_cut1 {K : PySem.W.Frag} {ρ : Rho} {te : TE} {tl th : TO} {ds : List D} {n : Nat} (h : Ev te ρ (.lst ds)) (hl : EvO tl ρ (some (n : Int))) (hh : EvO th ρ none) (hn : n ≤ ds.length) : Ev (tSl (rSlL K) te tl th) ρ (.lst (ds.drop n)) := fun Z σ H Q k s q =>
  h Z σ H _ k s fun x H1 x1 r1 => hl Z σ H1 _ (k.ex x1) (s.mono x1.to) fun H2 x2 => hh Z σ H2 _ (k.ex (x1.tr x2)) (s.mono (x1.tr x2).to) fun H3 x3 => by
    have x23 := x2.tr x3
    cases r1.mono (x23.to (Z := Z)) with
    | lst nz h1 r =>
      refine ⟨_, _, rfl, .inl (.inl h1), fun p hp => ?_⟩
      have e : ∀ vs : List V, vs.length = ds.length → cutV vs (some (n : Int)) none = vs.drop n := fun vs hv => by
        unfold cutV
        rw [HT.sIx_nat, HT.sIx_none, Nat.min_eq_left (by omega), List.take_of_length_le (by rw [List.length_drop]; exact Nat.le_refl _)]
      rw [e _ r.len]
      exact q _ _ ((x1.tr x23).tr (Ex.new hp)) (.lst ((k.ex (x1.tr x23)).no hp) upd_same ((r.drop n).mono (Ext.new hp)))
/-! built-in calls -/
theorem rl_lenL {K : PySem.W.Frag} {ds : List D} : RLD (fun xs H Q => ∃ x n, xs = [x] ∧ LenV K x H n ∧ Q (.int n) H) [.lst ds] (.int ds.length) := fun Z H xs Q k r q => by
  cases r with
  | cons r r' => cases r'; cases r with
    | lst n h1 r => exact ⟨_, _, rfl, .inl ⟨_, .inl (.inl h1), rfl⟩, by rw [r.len]; exact q _ H (Ex.rf H) (.int _)⟩
theorem rl_lenS {K : PySem.W.Frag} {s : Str} (h : s.length ≤ 100000) : RLD (fun xs H Q => ∃ x n, xs = [x] ∧ LenV K x H n ∧ Q (.int n) H) [.str s] (.int s.length) := fun Z H xs Q k r q => by
  cases r with
  | cons r r' => cases r'; cases r; exact ⟨_, _, rfl, ⟨Nat.le_trans h (by decide), rfl⟩, q _ H (Ex.rf H) (.int _)⟩
theorem rl_any {K : PySem.W.Frag} {bs : List Bool} : RLD (rAny K) [.lst (bs.map D.bl)] (.bl (bs.any id)) := fun Z H xs Q k r q => by
  cases r with
  | cons r r' => cases r'; cases r with
    | lst n h1 r => exact ⟨_, bs, rfl, .inl (.inl (by rw [← r.bls]; exact h1)), q _ H (Ex.rf H) (.bl _)⟩
theorem rl_all {K : PySem.W.Frag} {bs : List Bool} : RLD (rAll K) [.lst (bs.map D.bl)] (.bl (bs.all id)) := fun Z H xs Q k r q => by
  cases r with
  | cons r r' => cases r'; cases r with
    | lst n h1 r => exact ⟨_, bs, rfl, .inl (.inl (by rw [← r.bls]; exact h1)), q _ H (Ex.rf H) (.bl _)⟩
theorem rl_str {s : Str} : RLD (fun xs H Q => ∃ a, xs = [.str a] ∧ Q (.str a) H) [.str s] (.str s) := fun Z H xs Q k r q => by
  cases r with
  | cons r r' => cases r'; cases r; exact ⟨_, rfl, q _ H (Ex.rf H) (.str _)⟩
theorem rl_intB {b : Bool} : RLD (fun xs H Q => (∃ i, xs = [.int i] ∧ Q (.int i) H) ∨ ∃ k, xs = [.bl k] ∧ Q (.int (if k then 1 else 0)) H) [.bl b] (.int ((if b then 1 else 0 : Nat) : Int)) := fun Z H xs Q k r q => by
  cases r with
  | cons r r' => cases r'; cases r; exact .inr ⟨_, rfl, by cases b <;> exact q _ H (Ex.rf H) (.int _)⟩
theorem rl_intI {i : Int} : RLD (fun xs H Q => (∃ i, xs = [.int i] ∧ Q (.int i) H) ∨ ∃ k, xs = [.bl k] ∧ Q (.int (if k then 1 else 0)) H) [.int i] (.int i) := fun Z H xs Q k r q => by
  cases r with
  | cons r r' => cases r'; cases r; exact .inl ⟨_, rfl, q _ H (Ex.rf H) (.int _)⟩
theorem r1_tupL {K : PySem.W.Frag} {ds : List D} : R1D (kTup K) (.lst ds) (.tup ds) := fun Z H x Q k r q => by
  cases r with
  | lst n h1 r => exact .inl ⟨_, _, rfl, .inl (.inl h1), fun p hp => q _ _ (Ex.new hp) (.tup (k.no hp) upd_same (r.mono (Ext.new hp)))⟩
end
/-! sorted texts -/
def leS (a b : Str) : Bool := !decide (b.cps.toList < a.cps.toList)
def srt (ss : List Str) : List Str := ss.mergeSort leS
theorem str_ext {a b : Str} (h : a.cps.toList = b.cps.toList) : a = b := by
  cases a with
  | mk x => cases b with
    | mk y => exact congrArg Str.mk (Array.ext' h)
theorem leS_trans (a b c : Str) : leS a b = true → leS b c = true → leS a c = true := by
  unfold leS
  simp only [Bool.not_eq_true', decide_eq_false_iff_not, List.not_lt]
  exact fun h1 h2 => List.le_trans h1 h2
theorem leS_total (a b : Str) : (leS a b || leS b a) = true := by
  unfold leS
  rcases List.le_total a.cps.toList b.cps.toList with h | h
  · have : ¬ b.cps.toList < a.cps.toList := List.not_lt.mpr h
    simp [this]
  · have : ¬ a.cps.toList < b.cps.toList := List.not_lt.mpr h
    simp [this]
theorem leS_anti {a b : Str} (h1 : leS a b = true) (h2 : leS b a = true) : a = b := by
  unfold leS at h1 h2
  simp only [Bool.not_eq_true', decide_eq_false_iff_not, List.not_lt] at h1 h2
  exact str_ext (List.le_antisymm h1 h2)
theorem srt_perm (ss : List Str) : (srt ss).Perm ss := List.mergeSort_perm ss leS
theorem srt_sorted (ss : List Str) : (srt ss).Pairwise (fun a b => leS a b = true) := List.pairwise_mergeSort leS_trans leS_total ss
theorem rising_pw : ∀ (p : Str) (l : List Str), PyProof.Rows.risingS p l = true → (p :: l).Pairwise (fun a b => leS a b = true)
  | p, [], _ => by simp
  | p, x :: r, h => by
    simp only [PyProof.Rows.risingS, Bool.and_eq_true] at h
    have ih := rising_pw x r h.2
    have hpx : leS p x = true := by
      have := h.1
      rw [PyProof.Rows.ltCps_eq] at this
      exact this
    refine List.pairwise_cons.mpr ⟨fun y hy => ?_, ih⟩
    rcases List.mem_cons.mp hy with rfl | hy
    · exact hpx
    · exact leS_trans _ _ _ hpx (List.rel_of_pairwise_cons ih hy)
theorem sortedS_pw {l : List Str} (h : PyProof.Rows.sortedS l = true) : l.Pairwise (fun a b => leS a b = true) := by
  cases l with
  | nil => exact List.Pairwise.nil
  | cons x r => exact rising_pw x r h
theorem pw_unique {l m : List Str} (hp : l.Perm m) (h1 : l.Pairwise (fun a b => leS a b = true)) (h2 : m.Pairwise (fun a b => leS a b = true)) : l = m :=
  List.Perm.eq_of_pairwise (fun a b _ _ x y => leS_anti x y) h1 h2 hp
theorem srt_unique {ss ys : List Str} (hp : ys.Perm ss) (h : PyProof.Rows.sortedS ys = true) : ys = srt ss :=
  pw_unique (hp.trans (srt_perm ss).symm) (sortedS_pw h) (srt_sorted ss)
theorem rl_sorted {K : PySem.W.Frag} {ss : List Str} (h : ss.length < 64) : RLD (rSortedS K) [.lst (ss.map D.str)] (.lst ((srt ss).map D.str)) := fun Z H xs Q k r q => by
  cases r with
  | cons r r' => cases r'; cases r with
    | lst n h1 r =>
      refine ⟨_, ss, rfl, .inl (.inl (by rw [← r.strs]; exact h1)), h, fun ys p hp hs hn => ?_⟩
      rw [srt_unique hp hs]
      exact q _ _ (Ex.new hn) (.lst (k.no hn) upd_same (Reps.ofStrs _))
theorem addT_mem {L : List Str} {k x : Str} : x ∈ addT L k ↔ x ∈ L ∨ x = k := by
  unfold addT; split
  · rename_i h; exact ⟨.inl, fun z => z.elim id fun e => e ▸ h⟩
  · simp [or_comm]
theorem addAll_mem {x : Str} : ∀ {ks L : List Str}, x ∈ addAll L ks ↔ x ∈ L ∨ x ∈ ks
  | [], L => by simp [addAll]
  | k :: ks, L => by rw [addAll, addAll_mem, addT_mem, List.mem_cons, or_assoc]
theorem addT_nodup {L : List Str} {k : Str} (h : L.Nodup) : (addT L k).Nodup := by
  unfold addT; split
  · exact h
  · rename_i n; exact List.nodup_cons.mpr ⟨n, h⟩
theorem addAll_nodup : ∀ {ks L : List Str}, L.Nodup → (addAll L ks).Nodup
  | [], _, h => h
  | k :: ks, L, h => by rw [addAll]; exact addAll_nodup (addT_nodup h)
theorem addAll_len : ∀ {ks L : List Str}, (addAll L ks).length ≤ L.length + ks.length
  | [], L => by simp [addAll]
  | k :: ks, L => by
    rw [addAll]
    have h1 := addAll_len (ks := ks) (L := addT L k)
    have h2 := addT_len L k
    simp only [List.length_cons]; omega
/-- the texts of a list, each once, in order -/
def uniq (ss : List Str) : List Str := srt (addAll [] ss)
theorem uniq_mem {x : Str} {ss : List Str} : x ∈ uniq ss ↔ x ∈ ss := by
  unfold uniq; rw [(srt_perm _).mem_iff, addAll_mem]; simp
theorem uniq_nodup (ss : List Str) : (uniq ss).Nodup := ((srt_perm _).nodup_iff).mpr (addAll_nodup List.nodup_nil)
theorem uniq_sorted (ss : List Str) : (uniq ss).Pairwise (fun a b => leS a b = true) := srt_sorted _
theorem uniq_len (ss : List Str) : (uniq ss).length ≤ ss.length := by
  unfold uniq; rw [(srt_perm _).length_eq]; simpa using addAll_len (ks := ss) (L := [])
end Du
namespace Du
open PySem L2

/-! dicts whose keys are tuples -/
def kD : Key → D
  | .inl i => .int i
  | .inr s => .str s
/-- a tuple as a key -/
abbrev tK (k : List Key) : D := .tup (k.map kD)
theorem repK_of {Z : Addr → Prop} {H : Hp} : ∀ {vs : List V} {k : List Key}, Reps Z H vs (k.map kD) → vs = k.map kV
  | _, [], .nil => rfl
  | _, .inl i :: k, .cons (.int _) t => by simp [repK_of t, kV]
  | _, .inr s :: k, .cons (.str _) t => by simp [repK_of t, kV]
theorem repK_mk {Z : Addr → Prop} {H : Hp} : ∀ (k : List Key), Reps Z H (k.map kV) (k.map kD)
  | [] => .nil
  | .inl i :: k => .cons (.int i) (repK_mk k)
  | .inr s :: k => .cons (.str s) (repK_mk k)
def valD {κ : Type} [DecidableEq κ] (kvs : List (κ × D)) (k : κ) : Option D := (kvs.find? fun e => decide (e.1 = k)).map (·.2)
section
variable {ρ : Rho} {te td ty tk tv : TE} {tt : TT}
theorem RepT.val {Z : Addr → Prop} {H : Hp} {k : List Key} : ∀ {kvs : List (List Key × V)} {ds : List (List Key × D)}, RepT Z H kvs ds → ∀ {d : D}, valD ds k = some d → ∃ v, valV kvs k = some v ∧ Rep Z H v d
  | _, _, .nil, d, h => by simp [valD] at h
  | _, _, .cons (k := k') (v := v) (d := d') r t, d, h => by
    by_cases e : k' = k
    · have : d' = d := by simpa [valD, e] using h
      subst this
      exact ⟨v, by simp [valV, e], r⟩
    · obtain ⟨w, h1, h2⟩ := RepT.val (d := d) (k := k) t (by simpa [valD, e] using h)
      exact ⟨w, by simpa [valV, e] using h1, h2⟩
theorem RepT.len {Z : Addr → Prop} {H : Hp} : ∀ {kvs : List (List Key × V)} {ds : List (List Key × D)}, RepT Z H kvs ds → kvs.length = ds.length
  | _, _, .nil => rfl
  | _, _, .cons _ t => by simp [RepT.len t]
theorem RepT.app {Z : Addr → Prop} {H : Hp} : ∀ {a b : List (List Key × V)} {c d : List (List Key × D)}, RepT Z H a c → RepT Z H b d → RepT Z H (a ++ b) (c ++ d)
  | _, _, _, _, .nil, s => s
  | _, _, _, _, .cons r t, s => .cons r (RepT.app t s)
theorem RepT.keys {Z : Addr → Prop} {H : Hp} : ∀ {kvs : List (List Key × V)} {ds : List (List Key × D)}, RepT Z H kvs ds → kvs.map (·.1) = ds.map (·.1)
  | _, _, .nil => rfl
  | _, _, .cons _ t => by simp [RepT.keys t]
/-- d[k], k a tuple -/
theorem ev_dget {kvs : List (List Key × D)} {k : List Key} {z : D} (hd : Ev td ρ (.dT kvs)) (hk : Ev ty ρ (tK k)) (hv : valD kvs k = some z) : Ev (tDGet td ty) ρ z := fun Z σ H Q ok s q =>
  hd Z σ H _ ok s fun x H1 x1 r1 => hk Z σ H1 _ (ok.ex x1) (s.mono x1.to) fun y H2 x2 r2 => by
    cases r1.mono (x2.to (Z := Z)) with
    | dT n h rs => cases r2 with
      | tup n' h' rs' =>
        obtain ⟨v, e1, e2⟩ := rs.val hv
        refine ⟨_, v, rfl, .inr ⟨_, k, _, h, rfl, by rw [h', repK_of rs'], e1.symm⟩, q v H2 (x1.tr x2) e2⟩
/-! a dict comprehension whose keys are unlike tuples -/
theorem ev_dcT {α : Type} {φ : α → D} {wi : TI} {g : TG} {vs : List Nat} {ds : List α} {kf : α → List Key} {vf : α → D} (hi : EvI wi ρ (ds.map φ)) (hz : ds.length ≤ 100000) (nd : (ds.map kf).Nodup)
    (hb : ∀ d ∈ ds, ∃ ρ', GW g vs (φ d) (wipeR ρ vs) ρ' ∧ Ev tk ρ' (tK (kf d)) ∧ Ev tv ρ' (vf d)) : Ev (tDcT wi g tYes tk tv vs) ρ (.dT (ds.map fun d => (kf d, vf d))) := fun Z σ H Q k s q =>
  hi Z σ H _ k s fun J H1 x1 w1 => by
    intro Dd hD
    have k1 := k.ex x1
    have hz' : ∀ a, (Z a ∨ a = Dd) → Z a ∨ H1 a = none := fun a z => z.imp id fun (e : a = Dd) => by rw [e]; exact hD
    have hll : (ds.map φ).length = ds.length := List.length_map ..
    have W := w1 (fun a => Z a ∨ a = Dd) hz'
    have s1 : SRep (fun a => Z a ∨ a = Dd) H1 σ ρ := (s.mono x1.to).zs hz'
    let Pv : Nat → Hp → Prop := fun i Hc => Ext (fun a => Z a ∨ a = Dd) H1 Hc ∧ okZ (fun a => Z a ∨ a = Dd) Hc ∧ (∀ a o, Z a → H1 a = some o → Hc a = some o) ∧ ∃ acc, Hc Dd = some (.dT acc) ∧ RepT (fun a => Z a ∨ a = Dd) Hc acc ((ds.take i).map fun d => (kf d, vf d))
    refine ⟨fun i m Hc => m = ds.length - i ∧ i ≤ ds.length ∧ Pv i Hc, ⟨ds.length, by simp, Nat.zero_le _, Ext.new hD, k1.add rfl, fun a o z h => by rw [upd_ne (ne_of_none h hD)]; exact h, [], upd_same, by simpa using .nil⟩, ?_⟩
    rintro i m Hc ⟨rfl, hi, e1, e2, e3, acc, e4, e5⟩
    by_cases hlt : i < ds.length
    · refine .inr ⟨W.goes i Hc (hll ▸ hlt) ⟨e1, e2⟩, Pv (i + 1), fun Hn p => ⟨ds.length - (i + 1), by omega, rfl, hlt, p⟩, fun x H' y => ?_⟩
      obtain ⟨y1, d0, y20, y3⟩ := W.yields i Hc x H' (hll ▸ hlt) ⟨e1, e2⟩ y
      rw [List.getElem?_map] at y20
      obtain ⟨d, y2, rfl⟩ := Option.map_eq_some_iff.mp y20
      have hm : d ∈ ds := List.mem_of_getElem? y2
      obtain ⟨ρ', g1, g2, g3⟩ := hb d hm
      have x' : Ext (fun a => Z a ∨ a = Dd) H1 H' := e1.tr y1.to
      refine g1 _ (wipe σ vs) H' x _ (e2.ex y1) ((s1.wipe vs).mono x') y3 fun σ' s' w' => ⟨w'.trans (wipe_wipe σ vs), ?_⟩
      refine et_yes (ρ := ρ') _ σ' H' _ (e2.ex y1) s' fun H0 x0 => ?_
      rw [if_pos rfl]
      have y10 := y1.tr x0
      refine g2 _ σ' H0 _ (e2.ex y10) (s'.mono x0.to) fun v3 H3 x3 r3 => ?_
      have y13 := y10.tr x3
      refine g3 _ σ' H3 _ (e2.ex y13) (s'.mono (x0.tr x3).to) fun v H4 x4 r4 => ?_
      have y14 := y13.tr x4
      have et : ds.take (i + 1) = ds.take i ++ [d] := by rw [List.take_add_one, y2]; rfl
      cases r3.mono (x4.to (Z := fun a => Z a ∨ a = Dd)) with
      | tup n3 h3 rs3 =>
        have e5' := e5.mono (y14.to (Z := fun a => Z a ∨ a = Dd))
        have hnew : valV acc (kf d) = none := by
          have hk : kf d ∉ acc.map (·.1) := by
            rw [e5'.keys, List.map_map]
            intro hin
            obtain ⟨d', hd', ed⟩ := List.mem_map.mp hin
            have nd' : ((ds.take i).map kf ++ [kf d]).Nodup := by
              have h1 : ((ds.take (i + 1)).map kf).Nodup := by
                rw [List.map_take]; exact nd.sublist (List.take_sublist _ _)
              rw [et, List.map_append] at h1
              exact h1
            exact (List.nodup_append.mp nd').2.2 (kf d') (List.mem_map_of_mem hd') (kf d) (by simp) ed
          unfold valV
          rw [Option.map_eq_none_iff, List.find?_eq_none]
          intro e he
          simp only [decide_eq_true_eq]
          intro z
          exact hk (z ▸ List.mem_map_of_mem he)
        have hl : acc.length ≤ 100000 := by
          rw [e5'.len, List.length_map, List.length_take]; omega
        have xm : Ext (fun a => Z a ∨ a = Dd) H4 (upd H4 Dd (.dT (putK acc (kf d) v))) := (Ext.rf H4).mut (.inr rfl)
        refine ⟨acc, kf d, _, rfl, by rw [h3, repK_of rs3], y14.exact e4, Nat.lt_of_le_of_lt hl (by decide), (e1.tr y14.to).mut (.inr rfl), (e2.ex y14).upd rfl, fun a o z h => ?_, _, upd_same, ?_⟩
        · rw [upd_ne (ne_of_none h hD)]
          exact y14 a o (e3 a o z h)
        · rw [et, List.map_append]
          rw [putK_new v hnew] at xm ⊢
          exact (e5'.mono xm).app (.cons (r4.mono xm) .nil)
    · have e : i = ds.length := by omega
      subst e
      refine .inl ⟨hll ▸ W.stops Hc ⟨e1, e2⟩, ?_⟩
      rw [List.take_length] at e5
      have xx : Ex H1 Hc := fun a o h => by
        by_cases z : Z a
        · exact e3 a o z h
        · exact e1 a o (fun y => y.elim z (ne_of_none h hD)) h
      exact q _ Hc (x1.tr xx) (.dT (k1.no hD) (.inl e4) (e5.zs fun a z => .inl (.inl z)))
/-! a comprehension over the keys of a dict in a slot -/
def tLk (t : TE) : TE := fun σ H Q => tLockE t σ H Q ∨ t σ H Q
theorem pe_lk {X : Cx} {e : Expr} {t : TE} (h : PE X e t) : PE X e (tLk t) := ⟨fun pins s σ H Q I q => q.elim (fun q => (pe_lock h).run pins s σ H Q I q) fun q => h.run pins s σ H Q I q⟩
theorem dw_keys {Z : Addr → Prop} {H1 : Hp} {d : Addr} {o : Obj} {kvs : List (List Key × V)} {ds : List (List Key × D)} (n : ¬ Z d) (h : H1 d = some (.frz o (.dT kvs))) (r : RepT Z H1 kvs ds) : DW Z (Itkt d o kvs) H1 (ds.map fun e => tK e.1) := fun Z' hz => by
  have nz : ¬ Z' d := fun z => (hz _ z).elim n fun e => by rw [h] at e; cases e
  rw [List.length_map, ← r.len]
  refine walk_keysT.mono (fun H g => g.1.exact nz h) fun i Hc x H' hi g y => ?_
  obtain ⟨rfl, k, v, q, e1, rfl, e2⟩ := y
  refine ⟨Ex.rf _, tK k, ?_, .tup (g.2.noT e2) e2 (repK_mk k)⟩
  have hk : (ds.map (·.1))[i]? = some k := by rw [← r.keys, List.getElem?_map, e1]; rfl
  rw [List.getElem?_map] at hk ⊢
  cases hd : ds[i]? with
  | none => rw [hd] at hk; cases hk
  | some e => rw [hd] at hk; cases hk; rfl
theorem lockW {Z : Addr → Prop} {H : Hp} {d : Addr} {u : HO} (hd : dictO u = true) (h : H d = some u) (o : Obj) : ExtW Z H (upd H d (.frz o u)) := fun a v _ e => by
  by_cases z : a = d
  · subst z
    rw [h] at e; cases e
    refine ⟨_, upd_same, ?_⟩
    cases u <;> first | rfl | cases hd
  · exact ⟨v, by rw [upd_ne z]; exact e, rfl⟩
theorem unlockW {Z : Addr → Prop} {H : Hp} {d : Addr} {u : HO} {o : Obj} (hd : dictO u = true) (h : H d = some (.frz o u)) : ExtW Z H (upd H d u) := fun a v _ e => by
  by_cases z : a = d
  · subst z
    rw [h] at e; cases e
    refine ⟨_, upd_same, ?_⟩
    cases u <;> first | rfl | cases hd
  · exact ⟨v, by rw [upd_ne z]; exact e, rfl⟩
theorem ev_lcKeys {g : TG} {vs : List Nat} {pb : (List Key × D) → Bool} {fe : (List Key × D) → D} {i : Nat} {kvs : List (List Key × D)} (hi : ρ[i]? = some (some (.dT kvs))) (hz : kvs.length ≤ 100000)
    (hb : ∀ e ∈ kvs, ∃ ρ', GW g vs (tK e.1) (wipeR ρ vs) ρ' ∧ EvT tt ρ' (pb e) ∧ (pb e = true → Ev te ρ' (fe e))) : Ev (tLk (tLc (iKeys (tVar i)) g tt te vs)) ρ (.lst ((kvs.filter pb).map fe)) := fun Z σ H Q k s q => by
  obtain ⟨v, h1, h2⟩ := s.2 i _ hi
  cases h2 with
  | dT n h r =>
    rename_i d ws
    rcases h with h | ⟨o, h⟩
    · refine .inl ⟨d, _, h, trivial, fun od => ?_⟩
      have wl : ExtW Z H (upd H d (.frz od (.dT ws))) := lockW rfl h od
      have kl : okZ Z (upd H d (.frz od (.dT ws))) := k.upd rfl
      refine ⟨_, h1, d, od, rfl, .inr ⟨ws, upd_same, ?_⟩⟩
      refine lc_main (xs := kvs) (φ := fun e => tK e.1) (Q := fun v H' => H' d = some (.frz od (.dT ws)) ∧ Q v (upd H' d (.dT ws))) kl (s.monoW wl) (dw_keys n upd_same (r.monoW wl)) hz hb fun v H' x' r' => ?_
      have hl : H' d = some (.frz od (.dT ws)) := x' d _ upd_same
      refine ⟨hl, q v _ (fun a o e => ?_) (r'.monoW (unlockW rfl hl))⟩
      by_cases z : a = d
      · subst z; rw [h] at e; cases e; exact upd_same
      · rw [upd_ne z]; exact x' a o (by rw [upd_ne z]; exact e)
    · refine .inr ⟨_, h1, d, o, rfl, .inr ⟨ws, h, ?_⟩⟩
      exact lc_main (xs := kvs) (φ := fun e => tK e.1) k s (dw_keys n h r) hz hb fun v H' x' r' => q v H' x' r'
end
end Du
namespace Du
open PySem L2

/-! operators of an own class -/
section
variable {X : Cx} {CX : CXT} {n : Nat} {C g : Addr} {sp : Sp} {E : XK}
theorem instOf {pins : List (Addr × Obj)} {σ : L2.St} {H : Hp} {s : Shared} {a dx : Addr} {fs : List (Str × V)} (I : Inv X pins σ H s) (e : H a = some (.ins C dx fs)) : ∃ ox od, PySem.W.InstAt s.heap a ox C (some od) := by
  obtain ⟨mA, O, _, _, _, _⟩ := ins_get I.hok e
  obtain ⟨od, J, _⟩ := O.look
  exact ⟨_, od, J⟩
/-- x op y, both instances of the class at C -/
def rBin (C : Addr) (sp : Sp) (E : XK) : R2 := fun x y H Q => ∃ a dx fs b dy gs, x = .ref a ∧ y = .ref b ∧ H a = some (.ins C dx fs) ∧ H b = some (.ins C dy gs) ∧ sp [x, y] H Q E
theorem op_bin {op : Operator} (hc : PySem.W.selfFirst X.K C = true) (hs : PySem.W.findIn X.K (.ref C) (PySem.dunder op.info.2) = some (some (.ref g))) (hf : PySem.W.isFn X.K (.ref g) = true)
    (F : FnR X.prog X.w X.K X.mg X.base CX n g sp) (hr : Room n X.A) (hx : Passes CX X E) : OpR X (binaryOp op) (rBin C sp E) := by
  intro pins s σ H x y v u Q I rx ry h
  obtain ⟨a, dx, fs, b, dy, gs, rfl, rfl, ha, hb, q⟩ := h
  cases (show v = Value.ref a from rx)
  cases (show u = Value.ref b from ry)
  obtain ⟨ox, od, J⟩ := instOf I ha
  obtain ⟨oy, oe, J'⟩ := instOf I hb
  obtain ⟨m, hF⟩ := I.fr
  refine PySem.W.binop_K hF I.ok.mod.kin J J'.type hc hs hf ?_
  refine wpAny_mono (wpAny_call (run_fnR (us := [.ref a, .ref b]) (vs := [.ref a, .ref b]) F hr hx I (.cons rfl (.cons rfl .nil)) q)) (fun w s' z => ?_) fun _ _ x => x
  obtain ⟨z', H', I', rz, qz⟩ := z
  exact SlX.cmpback rz ⟨z', H', I', rz, qz⟩
/-- ~x -/
def rInv (C : Addr) (sp : Sp) (E : XK) : V → Hp → VK → Prop := fun x H Q => ∃ a dx fs, x = .ref a ∧ H a = some (.ins C dx fs) ∧ sp [x] H Q E
theorem un_own (hs : PySem.W.findIn X.K (.ref C) "__invert__" = some (some (.ref g))) (hf : PySem.W.isFn X.K (.ref g) = true)
    (F : FnR X.prog X.w X.K X.mg X.base CX n g sp) (hr : Room n X.A) (hx : Passes CX X E) : UnR X (unaryOp .Invert) (rInv C sp E) := by
  intro pins s σ H x v Q I rx h
  obtain ⟨a, dx, fs, rfl, ha, q⟩ := h
  cases (show v = Value.ref a from rx)
  obtain ⟨ox, od, J⟩ := instOf I ha
  obtain ⟨m, hF⟩ := I.fr
  exact PySem.W.ksp_inv hF I.ok.mod.kin J hs hf (wpAny_call (run_fnR (us := [.ref a]) (vs := [.ref a]) F hr hx I (.cons rfl .nil) q))
/-- x op y by C's own def, y an instance of C too -/
theorem op_cmp {op : CmpOp} (hop : ∀ a b, compareOp op a b = richCompare op a b) (hn : PySem.W.notFirst X.K C (.ref C) = true) (hs : PySem.W.findIn X.K (.ref C) (cmpInfo op).2.1 = some (some (.ref g))) (hf : PySem.W.isFn X.K (.ref g) = true)
    (F : FnR X.prog X.w X.K X.mg X.base CX n g sp) (hr : Room n X.A) (hx : Passes CX X E) : OpR X (compareOp op) (rBin C sp E) := by
  intro pins s σ H x y v u Q I rx ry h
  obtain ⟨a, dx, fs, b, dy, gs, rfl, rfl, ha, hb, q⟩ := h
  cases (show v = Value.ref a from rx)
  cases (show u = Value.ref b from ry)
  obtain ⟨ox, od, J⟩ := instOf I ha
  obtain ⟨oy, oe, J'⟩ := instOf I hb
  obtain ⟨m, hF⟩ := I.fr
  rw [hop]
  refine PySem.W.cmp_K (op := op) (tb := .ref C) hr.units0 hF I.ok.mod.kin J J'.type hn hs hf ?_
  refine wpAny_mono (wpAny_call (run_fnR (us := [.ref a, .ref b]) (vs := [.ref a, .ref b]) F hr hx I (.cons rfl (.cons rfl .nil)) q)) (fun w s' z => ?_) fun _ _ x => x
  obtain ⟨z', H', I', rz, qz⟩ := z
  exact SlX.cmpback rz ⟨z', H', I', rz, qz⟩
/-- x != y, where C has an own == alone -/
theorem op_neOwn (hn : PySem.W.notFirst X.K C (.ref C) = true) (hs : PySem.W.findIn X.K (.ref C) "__ne__" = some (some (.builtin "object.__ne__"))) (hse : PySem.W.findIn X.K (.ref C) "__eq__" = some (some (.ref g))) (hf : PySem.W.isFn X.K (.ref g) = true)
    (hsub : PySem.W.subIn X.K (.ref C) (.type "object") = some true)
    (F : FnR X.prog X.w X.K X.mg X.base CX n g sp) (hr : Room (n + 1) X.A) (hx : Passes CX X E) : OpR X (compareOp .NotEq) (rBin C (fun vs H Q E => sp vs H (fun v H' => ∃ b, v = .bl b ∧ Q (.bl (!b)) H') E) E) := by
  intro pins s σ H x y v u Q I rx ry h
  obtain ⟨a, dx, fs, b, dy, gs, rfl, rfl, ha, hb, q⟩ := h
  cases (show v = Value.ref a from rx)
  cases (show u = Value.ref b from ry)
  obtain ⟨ox, od, J⟩ := instOf I ha
  obtain ⟨oy, oe, J'⟩ := instOf I hb
  obtain ⟨m, hF⟩ := I.fr
  have Xk := I.kIn
  show wpAny _ _ (richCompare .NotEq (.ref a) (.ref b)) _ _ _
  have eqc : wpAny (model X.prog X.w) X.A.in1 (callSpecialIfBound? (.ref a) "__eq__" [.ref b]) (fun r s' => ∃ k : Bool, r = some (.bool k) ∧ EP X pins σ Q (.bool (!k)) s') X.xe s := by
    refine PySem.W.ifBound_K Xk J hse hf ?_
    refine wpAny_mono (wpAny_call (SlX.run_at (us := [.ref a, .ref b]) (ws := [.ref a, .ref b]) F hr.in1 I.env0.in1 hx I (.cons rfl (.cons rfl .nil)) q)) (fun w s' z => ?_) fun _ _ x => x
    obtain ⟨z', H', I', rz, k, ek, qz⟩ := z
    subst ek
    cases (show w = Value.bool k from rz)
    exact ⟨k, rfl, .bl (!k), H', I', rfl, qz⟩
  have one : wpAny (model X.prog X.w) X.A (tryCompare (.ref a) (cmpInfo .NotEq).2.1 (.ref b)) (fun r s' => ∃ v, r = some v ∧ EP X pins σ Q v s') X.xe s := by
    unfold tryCompare
    refine wpAny_bind ?_
    simp only [callSpecialIfBound?, bindSpecialIfBound?]
    refine wpAny_holding (wpAny_bind (wpAny_bind (wpAny_bind (J.type.here ((PySem.W.looks_findIn Xk hs).here ?_)))))
    have body : wpAny (model X.prog X.w) X.A (call (.builtin "object.__ne__") ([.ref a] ++ [.ref b])) (fun v s' => ∃ k : Bool, v = .bool k ∧ EP X pins σ Q (.bool k) s') X.xe s := by
      refine wpAny_call (codeAny_call_builtin (by decide +kernel) PySem.F.entry_object_ne (PySem.W.check_slot (owner := "object") (n := "__ne__") (by decide +kernel) (by decide +kernel) (J.type.andThen (PySem.W.looks_subIn Xk hsub)) (PySem.F.args_object_ne_2 _ _) ?_))
      unfold Builtin.«object.__ne__» slotArgs
      refine wpAny_bind (wpAny_pure ?_)
      dsimp only
      refine wpAny_bind (wpAny_cRoomFor hr.in1.units0 ?_)
      refine wpAny_bind (wpAny_mono eqc (fun r s' z => ?_) fun _ _ z => z)
      obtain ⟨k, rfl, z⟩ := z
      dsimp only
      refine wpAny_bind (PySem.wpAny_truthy_bool ?_)
      exact wpAny_pure ⟨_, rfl, z⟩
    have fin : wpAny (model X.prog X.w) X.A (call (.builtin "object.__ne__") ([.ref a] ++ [.ref b]) >>= fun v => pure (some v)) (fun r s' => ∃ k : Bool, r = some (.bool k) ∧ EP X pins σ Q (.bool k) s') X.xe s :=
      wpAny_bind (wpAny_mono body (fun v s' ⟨k, e, z⟩ => wpAny_pure ⟨k, by rw [e], z⟩) fun _ _ z => z)
    have hb : bindSpecial (.builtin "object.__ne__") (.ref a) = pure (.builtin "object.__ne__", [.ref a]) := PySem.F.slot_object_ne.bind (.ref a)
    have pack : ∀ (r : Option Value) (s' : Shared), (∃ k : Bool, r = some (.bool k) ∧ EP X pins σ Q (.bool k) s') → wpAny (model X.prog X.w) X.A (match r with | some .notImplemented => pure none | none => pure none | some v => pure (some v)) (fun r s' => ∃ v, r = some v ∧ EP X pins σ Q v s') X.xe s' := fun r s' ⟨k, e, z⟩ => by
      subst e
      exact wpAny_pure ⟨_, rfl, z⟩
    refine wpAny_bind (wpAny_askSetting (wpAny_ite ?_))
    rw [hb]
    split
    · refine wpAny_bind (wpAny_pure (wpAny_pure ?_))
      exact wpAny_mono fin (fun r s' z => pack r s' z) fun _ _ z => z
    · refine wpAny_tryCatch (wpAny_bind (wpAny_pure (wpAny_pure ?_)))
      exact wpAny_mono fin (fun r s' z => pack r s' z) fun _ _ z => z
  unfold richCompare
  simp only [oneThing_ref]
  refine wpAny_holding (wpAny_bind (wpAny_cRoomFor hr.units0 ?_))
  refine wpAny_bind (J.type.here (wpAny_bind (J'.type.here ?_)))
  rw [if_neg (by simp)]
  refine wpAny_bind (wpAny_pure ?_)
  simp only [Bool.false_eq_true, if_false]
  refine wpAny_bind (wpAny_mono one (fun r s' z => ?_) fun _ _ e => e)
  obtain ⟨v, rfl, hq⟩ := z
  exact wpAny_pure hq
end

/-! static methods, read off the class -/
structure SMet (K : PySem.W.Frag) (C : Addr) (mc : Value) (m : Str) (p g : Addr) : Prop where
  fc : PySem.W.findCls K (.ref C) mc m = some (.get (.builtin "staticmethod.__get__") (.ref p) .none (.ref C))
  rc : ∃ rest, PySem.W.recIn K p "staticmethod" = some (.ref g :: rest)
  kp : PySem.W.keepIn K (.ref g) = true
def tSMeth (C : Addr) (sp : Sp) (E : XK) (ta : TE) (t : TA) : TE := fun σ H Q => ta σ H fun x H1 => x = .ref C ∧ t σ H1 fun vs H2 => sp vs H2 Q E
section
variable {X : Cx} {CX : CXT} {k : Nat} {C p g : Addr} {mc : Value} {sp : Sp} {E : XK} {o e : Expr} {es : List Expr} {f m : Str} {pos apos : Pos} {ta : TE} {t : TA} {pl : Sem Bool}
theorem getsm_ok {pins : List (Addr × Obj)} {σ : L2.St} {H : Hp} {s : Shared} {A : Around} {Ex : Value → Shared → Prop} {Q : Value × List Value → Shared → Prop} (I : Inv X pins σ H s) (r : ClX.CRead X.K C mc) (c : SMet X.K C mc m p g)
    (h : ∀ s', Inv X pins σ H s' → Q (.ref g, []) s') : wpAny (model X.prog X.w) A (getMethod (.ref C) m pl) Q Ex s := by
  obtain ⟨rest, hp⟩ := c.rc
  refine PySem.W.method_cls I.kIn r.ga (PySem.W.cls_bind I.kIn r.rd c.fc ?_)
  exact wpAny_call (PySem.W.sm_get (s := { s with toks := s.toks + 1 }) I.kIn hp (PySem.W.handed_on rfl (h _ (I.tok _))))
theorem pe_smeth (he : PE X o ta) (r : ClX.CRead X.K C mc) (c : SMet X.K C mc m p g) (F : FnR X.prog X.w X.K X.mg X.base CX k g sp) (hr : Room k X.A) (hx : Passes CX X E) (ha : PA X (e :: es) t)
    (hst : starEach (e :: es) X.env = (false, eval e X.env) :: starEach es X.env := by rfl) (hpl : (backTo pos (starEach es X.env)).any (·.1) = false := by rfl)
    (ht : eval (.Call (.Attribute o m apos) (e :: es) [] pos) X.env = (do
      let ov ← eval o X.env
      standAt apos.atName
      let (f, first) ← holding [ov] (getMethod ov m pl)
      callWith pos f first (backTo pos (starEach (e :: es) X.env)) (backToKw pos (keywordEach [] X.env))) := by rfl) :
    PE X (.Call (.Attribute o m apos) (e :: es) [] pos) (tSMeth C sp E ta t) := by
  refine ⟨fun pins s σ H Q I h => ?_⟩
  refine PySem.W.methodCall_KW (pl := pl) (thn (he.run pins s σ H _ I h) fun u s1 ⟨x, H1, I1, rx, ex, q⟩ => ?_) ht
  subst ex
  obtain rfl : u = Value.ref C := rx
  refine getsm_ok I1 r c fun s2 I2 => ?_
  refine PySem.W.callWith_K (h₀ := X.base) I.ok.mod.kin c.kp (thn (ha.run pos pins s2 σ H1 _ I2 q) fun us s3 ⟨vs, H2, I3, rv, q2⟩ => ⟨I3.kIn, ?_⟩) hst hpl
  exact wpAny_call (run_fnR F hr hx I3 rv q2)
theorem pe_smeth0 (he : PE X o ta) (r : ClX.CRead X.K C mc) (c : SMet X.K C mc m p g) (F : FnR X.prog X.w X.K X.mg X.base CX k g sp) (hr : Room k X.A) (hx : Passes CX X E)
    (ht : eval (.Call (.Attribute o m apos) [] [] pos) X.env = (do
      let ov ← eval o X.env
      standAt apos.atName
      let (f, first) ← holding [ov] (getMethod ov m pl)
      callWith pos f first (backTo pos (starEach [] X.env)) (backToKw pos (keywordEach [] X.env))) := by rfl) :
    PE X (.Call (.Attribute o m apos) [] [] pos) (tSMeth C sp E ta tNil) := by
  refine ⟨fun pins s σ H Q I h => ?_⟩
  refine PySem.W.methodCall_KW (pl := pl) (thn (he.run pins s σ H _ I h) fun u s1 ⟨x, H1, I1, rx, ex, q⟩ => ?_) ht
  subst ex
  obtain rfl : u = Value.ref C := rx
  refine getsm_ok I1 r c fun s2 I2 => ?_
  exact PySem.W.callWith_K0 I2.kIn c.kp (wpAny_call (run_fnR (us := []) F hr hx I2 .nil q))
end
/-! x op= y where the class has the plain operator alone -/
section
variable {X : Cx} {CX : CXT} {n : Nat} {C g : Addr} {sp : Sp} {E : XK}
/-- no class of the line above C has the name -/
def noneUp (K : PySem.W.Frag) (C : Addr) (nm : Str) : Bool := (PySem.W.clsIn K C).any fun cd => cd.mro.all fun c => match c with
  | .type _ => PySem.W.findIn K c nm == some none
  | .ref _ => PySem.W.findIn K c nm == some none
  | _ => false
end
end Du
namespace Du
open PySem L2
/-! the rules with the written part named (within a comprehension it must be) -/
section
variable {X : Cx} {K : PySem.W.Frag} {w : World} {k : Nat} {a b e o : Expr} {ta tb te : TE} {pos : Pos}
theorem hu65 {A : Around} {k : Nat} (hr : Room k A) : A.units + 65 < cLine := by have := hr.un; omega
theorem k_addU (hK : X.K = K) : OpR X (binaryOp .Add) (rAddU K) := hK ▸ op_addU
theorem k_inU (hK : X.K = K) (hr : Room k X.A) : OpR X (compareOp .In) (rInU K) := hK ▸ op_inU (hu65 hr)
theorem k_notInU (hK : X.K = K) (hr : Room k X.A) : OpR X (compareOp .NotIn) (rNotInU K) := hK ▸ op_notInU (hu65 hr)
theorem k_eq (hK : X.K = K) (hr : Room k X.A) : OpR X (compareOp .Eq) (rEqD K) := hK ▸ op_eqD hr.units
theorem k_ne (hK : X.K = K) (hr : Room k X.A) : OpR X (compareOp .NotEq) (rNeD K) := hK ▸ op_neD hr.units
theorem k_ix (hK : X.K = K) : IxR X (rIx K) := hK ▸ ix_seq
theorem k_seq {tg : Expr} (hK : X.K = K) (h : PE X e te) : PI X tg e (iSeq K te) := hK ▸ pi_seq h
theorem k_len (hK : X.K = K) : CallR X (.builtin "len") (fun xs H Q => ∃ x n, xs = [x] ∧ LenV K x H n ∧ Q (.int n) H) := hK ▸ call_len
theorem k_any (hK : X.K = K) (hc : X.calm = true) : CallR X (.builtin "any") (rAny K) := hK ▸ cr_any hc
theorem k_all (hK : X.K = K) (hc : X.calm = true) : CallR X (.builtin "all") (rAll K) := hK ▸ cr_all hc
theorem k_sortedS (hK : X.K = K) : CallR X (.builtin "sorted") (rSortedS K) := hK ▸ cr_sortedS
theorem k_tupleOf {p : Pos} (hK : X.K = K) (hg : Gl X "tuple") (hm : X.mg "tuple" = none) (ha : PE X a ta) (na : starEach [a] X.env = (false, eval a X.env) :: starEach [] X.env := by rfl) :
    PE X (.Call (.Name "tuple" p) [a] [] pos) (tThen ta (kTup K)) := hK ▸ pe_tupleOf hg hm ha na
theorem k_rev {j : Nat} {p1 p2 p3 : Pos} (hK : X.K = K) (he : PE X e te) : PE X (.Subscript e (.Slice none none (some (.UnaryOp .USub (.Constant (.int 1) j p1) p2)) p3) pos) (tRev K te) := hK ▸ pe_rev he
theorem k_sl (hK : X.K = K) : SlR X (rSlL K) := hK ▸ sl_list
theorem k_fld {f : Str} (hK : X.K = K) (he : PE X e ta) (hb : attributeBase e f X.env (eval e X.env) = eval e X.env) : PE X (.Attribute e f pos) (tFld K ta f) := hK ▸ pe_fld he hb
theorem k_setTxt (hK : X.K = K) (hw : X.w = w) (hc : X.calm = true) : CallR X (.type "set") (rSetTxt K w) := hK ▸ hw ▸ cr_setTxt hc
theorem k_sortedTxt (hw : X.w = w) (hc : X.calm = true) : CallR X (.builtin "sorted") (rSortedTxt w) := hw ▸ cr_sortedTxt hc
theorem k_isi (hK : X.K = K) : CallR X (.builtin "isinstance") (rIsi K) := hK ▸ call_isi
theorem k_star {es : List Expr} {t : TA} {p : Pos} (hK : X.K = K) (he : PE X e te) (hr : PA X es t) (hs : starEach (.Starred e p :: es) X.env = (true, eval e X.env) :: starEach es X.env := by rfl) : PA X (.Starred e p :: es) (StX.tStar K te t) := hK ▸ StX.pa_star he hr hs
theorem k_pgt {es : List Expr} {kk n : Nat} {t : TGs} (hK : X.K = K) (hc : X.calm = true) (h : PGs X es t) (hn : (assignEach es X.env).length = n := by rfl) (hst : (assignEach es X.env).findIdx? (·.1) = none := by rfl) : PG X (.Tuple es kk pos) (gTup K n t) := hK ▸ pg_tup hc h hn hst
theorem k_bm {es : List Expr} {to : TE} {t : TA} {name : Str} {apos cpos : Pos} {T id : String} {r : V → List V → Hp → VK → Prop} (hK : X.K = K) (pa : PlainAttrs T) (slot : Slot T name id) (hty : typeOf (.builtin id) = pure (.type "method_descriptor")) (hm : MtR X id r) (ho : PE X o to) (ha : PA X (e :: es) t)
    (hbase : attributeBase o name X.env (eval o X.env) = eval o X.env := by rfl)
    (hfew : ((backTo cpos (starEach (e :: es) X.env)).all (fun x => !x.1) && (backToKw cpos (keywordEach [] X.env)).all (fun x => x.1.isSome)
      && decide ((e :: es).length + ([] : List Keyword).length + (if ([] : List Keyword).isEmpty then 0 else 1) < 30)) = true := by rfl)
    (hline : (apos.endLine == cpos.line) = true := by rfl) (hs : starEach (e :: es) X.env = (false, eval e X.env) :: starEach es X.env := by rfl) (hplain : (backTo cpos (starEach es X.env)).any (·.1) = false := by rfl) :
    PE X (.Call (.Attribute o name apos) (e :: es) [] cpos) (tBM K T r to t) := hK ▸ pe_bm pa slot hty hm ho ha hbase hfew hline hs hplain
end
end Du
namespace Du
open PySem L2
/-! cells that are owned: their contents in data, tracked -/
abbrev Mu := List (Addr × D)
def dom (μ : Mu) (a : Addr) : Prop := a ∈ μ.map (·.1)
inductive Cont (Z : Addr → Prop) (H : Hp) : Addr → D → Prop
  | lst {a : Addr} {vs : List V} {ds : List D} : H a = some (.lst vs) → Reps Z H vs ds → Cont Z H a (.lst ds)
  | ins {a C dx : Addr} {fs : List (Str × V)} {ds : List (Str × D)} : H a = some (.ins C dx fs) → RepF Z H fs ds → Cont Z H a (.ins C ds)
  | dK {a : Addr} {fs : List (Key × V)} {ds : List (Key × D)} : H a = some (.dK fs) → RepK Z H fs ds → Cont Z H a (.dK ds)
  | dT {a : Addr} {fs : List (List Key × V)} {ds : List (List Key × D)} : H a = some (.dT fs) → RepT Z H fs ds → Cont Z H a (.dT ds)
  | dN {a : Addr} {hf : NestedKey → Int} {es : NEs} {ob : Obj} {ds : List (NestedKey × D)} : H a = some (NDO hf a es ob) → RepN Z H es ds → Cont Z H a (.dN hf ds)
  /-- a table of code objects, all of them of the name q -/
  | tbl {a : Addr} {q : Str} {ps : Array Value} : H a = some (.tbl ps) → TriplesOk ps.toList → (∀ (pos : Pos) (cv : Value), codeAmong pos ps.toList = some cv → ∃ c, cv = .ref c ∧ ¬ Z c ∧ H c = some (LamX.CodeO c q)) → Cont Z H a (.str q)
structure Mem (Z : Addr → Prop) (H : Hp) (μ : Mu) : Prop where
  cs : ∀ p ∈ μ, Z p.1 ∧ Cont Z H p.1 p.2
  nd : (μ.map (·.1)).Nodup
theorem Cont.ex {Z : Addr → Prop} {H H' : Hp} {a : Addr} {d : D} (c : Cont Z H a d) (x : Ext Z H H') (e : ∀ o, H a = some o → H' a = some o) : Cont Z H' a d := by
  cases c with
  | lst h r => exact .lst (e _ h) (r.mono x)
  | ins h r => exact .ins (e _ h) (r.mono x)
  | dK h r => exact .dK (e _ h) (r.mono x)
  | dT h r => exact .dT (e _ h) (r.mono x)
  | dN h r => exact .dN (e _ h) (r.mono x)
  | tbl h t r => exact .tbl (e _ h) t fun p v hv => let ⟨c, e1, n, e2⟩ := r p v hv; ⟨c, e1, n, x c _ n e2⟩
theorem Cont.zs {Z Z' : Addr → Prop} {H : Hp} {a : Addr} {d : D} (c : Cont Z H a d) (x : ∀ a, Z' a → Z a) : Cont Z' H a d := by
  cases c with
  | lst h r => exact .lst h (r.zs fun a z => .inl (x a z))
  | ins h r => exact .ins h (r.zs fun a z => .inl (x a z))
  | dK h r => exact .dK h (r.zs fun a z => .inl (x a z))
  | dT h r => exact .dT h (r.zs fun a z => .inl (x a z))
  | dN h r => exact .dN h (r.zs fun a z => .inl (x a z))
  | tbl h t r => exact .tbl h t fun p v hv => let ⟨c, e1, n, e2⟩ := r p v hv; ⟨c, e1, fun z => n (x c z), e2⟩
theorem Cont.is {Z : Addr → Prop} {H : Hp} {a : Addr} {d : D} (c : Cont Z H a d) : ∃ o, H a = some o ∧ isTup o = false := by
  cases c with
  | lst h r => exact ⟨_, h, rfl⟩
  | ins h r => exact ⟨_, h, rfl⟩
  | dK h r => exact ⟨_, h, rfl⟩
  | dT h r => exact ⟨_, h, rfl⟩
  | dN h r => exact ⟨_, h, rfl⟩
  | tbl h t r => exact ⟨_, h, rfl⟩
theorem Mem.nil {Z : Addr → Prop} {H : Hp} : Mem Z H [] := ⟨fun _ h => absurd h (by simp), by simp⟩
theorem Mem.dz {Z : Addr → Prop} {H : Hp} {μ : Mu} (m : Mem Z H μ) {a : Addr} (h : dom μ a) : Z a := by
  obtain ⟨p, hp, rfl⟩ := List.mem_map.mp h
  exact (m.cs p hp).1
theorem Mem.is {Z : Addr → Prop} {H : Hp} {μ : Mu} (m : Mem Z H μ) {a : Addr} (h : dom μ a) : ∃ o, H a = some o ∧ isTup o = false := by
  obtain ⟨p, hp, rfl⟩ := List.mem_map.mp h
  exact (m.cs p hp).2.is
theorem Mem.ex {Z : Addr → Prop} {H H' : Hp} {μ : Mu} (m : Mem Z H μ) (x : Ex H H') : Mem Z H' μ := ⟨fun p hp => ⟨(m.cs p hp).1, (m.cs p hp).2.ex x.to fun o h => x _ o h⟩, m.nd⟩
theorem Mem.get {Z : Addr → Prop} {H : Hp} {μ : Mu} (m : Mem Z H μ) {k : Nat} {a : Addr} {d : D} (h : μ[k]? = some (a, d)) : Z a ∧ Cont Z H a d := m.cs (a, d) (List.mem_of_getElem? h)
theorem Mem.lst {Z : Addr → Prop} {H : Hp} {μ : Mu} (m : Mem Z H μ) {k : Nat} {a : Addr} {ds : List D} (h : μ[k]? = some (a, .lst ds)) : Z a ∧ ∃ vs, H a = some (.lst vs) ∧ Reps Z H vs ds := by
  obtain ⟨z, c⟩ := m.get h
  cases c with
  | lst h r => exact ⟨z, _, h, r⟩
theorem Mem.ins {Z : Addr → Prop} {H : Hp} {μ : Mu} (m : Mem Z H μ) {k : Nat} {a C : Addr} {ds : List (Str × D)} (h : μ[k]? = some (a, .ins C ds)) : Z a ∧ ∃ dx fs, H a = some (.ins C dx fs) ∧ RepF Z H fs ds := by
  obtain ⟨z, c⟩ := m.get h
  cases c with
  | ins h r => exact ⟨z, _, _, h, r⟩
theorem set_fst {μ : Mu} {k : Nat} {a : Addr} {d d' : D} (h : μ[k]? = some (a, d)) : (μ.set k (a, d')).map (·.1) = μ.map (·.1) := by
  apply List.ext_getElem?
  intro i
  rw [List.getElem?_map, List.getElem?_map, List.getElem?_set]
  by_cases e : k = i
  · subst e
    rw [if_pos rfl, h]
    have := (List.getElem?_eq_some_iff.mp h).1
    rw [if_pos this]; rfl
  · rw [if_neg e]
theorem Mem.putC {Z : Addr → Prop} {H : Hp} {μ : Mu} (m : Mem Z H μ) {k : Nat} {a : Addr} {d d' : D} {o : HO} (h : μ[k]? = some (a, d)) (r : Cont Z (upd H a o) a d') : Mem Z (upd H a o) (μ.set k (a, d')) := by
  have za := (m.get h).1
  have x : Ext Z H (upd H a o) := (Ext.rf H).mut za
  refine ⟨fun p hp => ?_, by rw [set_fst h]; exact m.nd⟩
  obtain ⟨j, hj⟩ := List.getElem?_of_mem hp
  rw [List.getElem?_set] at hj
  by_cases e : k = j
  · subst e
    have := (List.getElem?_eq_some_iff.mp h).1
    rw [if_pos rfl, if_pos this] at hj
    cases hj
    exact ⟨za, r⟩
  · rw [if_neg e] at hj
    have hm := m.cs p (List.mem_of_getElem? hj)
    have ne : p.1 ≠ a := fun z => by
      have h1 : (μ.map (·.1))[j]? = some a := by rw [List.getElem?_map, hj, ← z]; rfl
      have h2 : (μ.map (·.1))[k]? = some a := by rw [List.getElem?_map, h]; rfl
      have hjl : j < (μ.map (·.1)).length := (List.getElem?_eq_some_iff.mp h1).1
      exact e ((List.getElem?_inj (i := j) (j := k) hjl m.nd).mp (h1.trans h2.symm)).symm
    exact ⟨hm.1, hm.2.ex x fun o ho => by rw [upd_ne ne]; exact ho⟩
theorem Mem.put {Z : Addr → Prop} {H : Hp} {μ : Mu} (m : Mem Z H μ) {k : Nat} {a : Addr} {d : D} {ds : List D} {vs : List V} (h : μ[k]? = some (a, d)) (r : Reps Z H vs ds) : Mem Z (upd H a (.lst vs)) (μ.set k (a, .lst ds)) :=
  m.putC h (.lst upd_same (r.mono ((Ext.rf H).mut (m.get h).1)))
/-! from a heap to a later one -/
structure Nxt (Z : Addr → Prop) (H : Hp) (μ : Mu) (H' : Hp) (μ' : Mu) : Prop where
  ext : Ext (dom μ) H H'
  dm : μ'.map (·.1) = μ.map (·.1)
  mem : Mem Z H' μ'
section
variable {Z : Addr → Prop} {H H1 H' : Hp} {μ μ1 μ' : Mu}
theorem Nxt.rf (m : Mem Z H μ) : Nxt Z H μ H μ := ⟨Ext.rf H, rfl, m⟩
theorem Nxt.exs (m : Mem Z H μ) (x : Ex H H') : Nxt Z H μ H' μ := ⟨x.to, rfl, m.ex x⟩
theorem Nxt.tr (x : Nxt Z H μ H1 μ1) (y : Nxt Z H1 μ1 H' μ') : Nxt Z H μ H' μ' := ⟨x.ext.tr (y.ext.wk fun a h => by unfold dom at h ⊢; rw [← x.dm]; exact h), y.dm.trans x.dm, y.mem⟩
theorem Nxt.to (x : Nxt Z H μ H' μ') (m : Mem Z H μ) : Ext Z H H' := x.ext.wk fun a h => m.dz h
theorem Nxt.ok (x : Nxt Z H μ H' μ') (k : okZ Z H) : okZ Z H' := fun a z => by
  by_cases h : dom μ a
  · refine x.mem.is (a := a) ?_
    unfold dom; rw [x.dm]; exact h
  · obtain ⟨o, h1, h2⟩ := k a z
    exact ⟨o, x.ext a o h h1, h2⟩
theorem Nxt.putC {k : Nat} {a : Addr} {d d' : D} {o : HO} (m : Mem Z H μ) (h : μ[k]? = some (a, d)) (r : Cont Z (upd H a o) a d') : Nxt Z H μ (upd H a o) (μ.set k (a, d')) :=
  ⟨(Ext.rf H).mut (List.mem_map.mpr ⟨_, List.mem_of_getElem? h, rfl⟩), set_fst h, m.putC h r⟩
theorem Nxt.put {k : Nat} {a : Addr} {d : D} {ds : List D} {vs : List V} (m : Mem Z H μ) (h : μ[k]? = some (a, d)) (r : Reps Z H vs ds) : Nxt Z H μ (upd H a (.lst vs)) (μ.set k (a, .lst ds)) :=
  ⟨(Ext.rf H).mut (List.mem_map.mpr ⟨_, List.mem_of_getElem? h, rfl⟩), set_fst h, m.put h r⟩
end
/-! readings with effects -/
def GE (te : TE) (ρ : Rho) (μ : Mu) (Φ : D → Mu → Prop) : Prop := ∀ (Z : Addr → Prop) (σ : L2.St) (H : Hp) (Q : VK), okZ Z H → SRep Z H σ ρ → Mem Z H μ → (∀ v H' d μ', Φ d μ' → Nxt Z H μ H' μ' → Rep Z H' v d → Q v H') → te σ H Q
def GEA (ta : TA) (ρ : Rho) (μ : Mu) (Φ : List D → Mu → Prop) : Prop := ∀ (Z : Addr → Prop) (σ : L2.St) (H : Hp) (Q : List V → Hp → Prop), okZ Z H → SRep Z H σ ρ → Mem Z H μ → (∀ vs H' ds μ', Φ ds μ' → Nxt Z H μ H' μ' → Reps Z H' vs ds → Q vs H') → ta σ H Q
def GT (tt : TT) (ρ : Rho) (μ : Mu) (Φ : Bool → Mu → Prop) : Prop := ∀ (Z : Addr → Prop) (σ : L2.St) (H : Hp) (Q : Bool → Hp → Prop), okZ Z H → SRep Z H σ ρ → Mem Z H μ → (∀ b H' μ', Φ b μ' → Nxt Z H μ H' μ' → Q b H') → tt σ H Q
section
variable {ρ : Rho} {μ : Mu} {te ta tb : TE} {tt t u : TT} {d e z : D} {b : Bool} {Φ : D → Mu → Prop} {ΦA : List D → Mu → Prop} {ΦT : Bool → Mu → Prop}
theorem ge_ev (h : Ev te ρ d) (q : Φ d μ) : GE te ρ μ Φ := fun Z σ H Q k s m c => h Z σ H Q k s fun v H' x r => c v H' d μ q (.exs m x) r
theorem gea_ev {ta : TA} {ds : List D} (h : EvA ta ρ ds) (q : ΦA ds μ) : GEA ta ρ μ ΦA := fun Z σ H Q k s m c => h Z σ H Q k s fun v H' x r => c v H' ds μ q (.exs m x) r
theorem gt_ev (h : EvT tt ρ b) (q : ΦT b μ) : GT tt ρ μ ΦT := fun Z σ H Q k s m c => h Z σ H Q k s fun H' x => c b H' μ q (.exs m x)
theorem GE.mono {Φ' : D → Mu → Prop} (h : GE te ρ μ Φ) (g : ∀ d μ', Φ d μ' → Φ' d μ') : GE te ρ μ Φ' := fun Z σ H Q k s m c => h Z σ H Q k s m fun v H' d μ' q n r => c v H' d μ' (g d μ' q) n r
theorem gea_nil (q : ΦA [] μ) : GEA tNil ρ μ ΦA := gea_ev ev_nil q
theorem gea_cons {tr : TA} (h : GE ta ρ μ fun d μ1 => GEA tr ρ μ1 fun ds μ2 => ΦA (d :: ds) μ2) : GEA (tCons ta tr) ρ μ ΦA := fun Z σ H Q k s m c =>
  h Z σ H _ k s m fun x H1 d μ1 g n1 r1 => g Z σ H1 _ (n1.ok k) (s.mono (n1.to m)) n1.mem fun xs H2 ds μ2 q n2 r2 => c _ H2 _ μ2 q (n1.tr n2) (.cons (r1.mono (n2.to n1.mem)) r2)
theorem ge_op {r : R2} (h : GE ta ρ μ fun d μ1 => GE tb ρ μ1 fun e μ2 => ∃ z, R2D r d e z ∧ Φ z μ2) : GE (tOp r ta tb) ρ μ Φ := fun Z σ H Q k s m c =>
  h Z σ H _ k s m fun x H1 d μ1 g n1 r1 => g Z σ H1 _ (n1.ok k) (s.mono (n1.to m)) n1.mem fun y H2 e μ2 q n2 r2 => by
    obtain ⟨z, hr, q⟩ := q
    exact hr Z H2 x y Q (n2.ok (n1.ok k)) (r1.mono (n2.to n1.mem)) r2 fun v H3 x3 r3 => c v H3 z μ2 q ((n1.tr n2).tr (.exs n2.mem x3)) r3
theorem ge_cb {r : List V → Hp → VK → Prop} {ta : TA} (h : GEA ta ρ μ fun ds μ1 => ∃ z, RLD r ds z ∧ Φ z μ1) : GE (tCB r ta) ρ μ Φ := fun Z σ H Q k s m c =>
  h Z σ H _ k s m fun x H1 d μ1 ⟨z, hr, q⟩ n1 r1 => hr Z H1 x Q (n1.ok k) r1 fun v H3 x3 r3 => c v H3 z μ1 q (n1.tr (.exs n1.mem x3)) r3
theorem ge_tup {ta : TA} (h : GEA ta ρ μ fun ds μ1 => ds.length ≤ 100000 ∧ Φ (.tup ds) μ1) : GE (tTup ta) ρ μ Φ := fun Z σ H Q k s m c =>
  h Z σ H _ k s m fun vs H1 ds μ1 ⟨hz, q⟩ n1 r1 => ⟨Nat.le_trans (by rw [r1.len]; exact hz) (by decide), fun p hp =>
    c _ _ _ μ1 q (n1.tr (.exs n1.mem (Ex.new hp))) (.tup ((n1.ok k).no hp) upd_same (r1.mono (Ext.new hp)))⟩
theorem ge_lst {ta : TA} (h : GEA ta ρ μ fun ds μ1 => ds.length ≤ 100000 ∧ Φ (.lst ds) μ1) : GE (tLst ta) ρ μ Φ := fun Z σ H Q k s m c =>
  h Z σ H _ k s m fun vs H1 ds μ1 ⟨hz, q⟩ n1 r1 => ⟨Nat.le_trans (by rw [r1.len]; exact hz) (by decide), fun p hp =>
    c _ _ _ μ1 q (n1.tr (.exs n1.mem (Ex.new hp))) (.lst ((n1.ok k).no hp) upd_same (r1.mono (Ext.new hp)))⟩
theorem gt_test (h : GE te ρ μ fun d μ1 => ∃ b, d = .bl b ∧ ΦT b μ1) : GT (tTest te) ρ μ ΦT := fun Z σ H Q k s m c => h Z σ H _ k s m fun v H1 d μ1 ⟨b, e, q⟩ n1 r1 => by subst e; cases r1; exact ⟨b, rfl, c b H1 μ1 q n1⟩
theorem gt_B (h : GE te ρ μ fun d μ1 => ∃ b, d = .bl b ∧ ΦT b μ1) : GT (tB te) ρ μ ΦT := fun Z σ H Q k s m c => h Z σ H _ k s m fun v H1 d μ1 ⟨b, e, q⟩ n1 r1 => by subst e; cases r1; exact ⟨b, rfl, c b H1 μ1 q n1⟩
theorem gt_not (h : GT t ρ μ fun b μ1 => ΦT (!b) μ1) : GT (tNot t) ρ μ ΦT := fun Z σ H Q k s m c => h Z σ H _ k s m fun b H1 μ1 q n1 => c (!b) H1 μ1 q n1
theorem gt_and (h : GT t ρ μ fun b μ1 => if b = true then GT u ρ μ1 ΦT else ΦT false μ1) : GT (tAnd t u) ρ μ ΦT := fun Z σ H Q k s m c => h Z σ H _ k s m fun b H1 μ1 q n1 => by
  cases b with
  | true => exact iteT (q Z σ H1 _ (n1.ok k) (s.mono (n1.to m)) n1.mem fun b2 H2 μ2 q2 n2 => c b2 H2 μ2 q2 (n1.tr n2))
  | false => exact iteF (c false H1 μ1 q n1)
/-! owned lists -/
theorem ge_ixO {K : PySem.W.Frag} (h : GE ta ρ μ fun d μ1 => GE tb ρ μ1 fun e μ2 => ∃ (a : Addr) (k : Nat) (ds : List D) (i : Nat) (z : D), d = .ptr a ∧ e = .int ((i : Nat) : Int) ∧ μ2[k]? = some (a, .lst ds) ∧ ds[i]? = some z ∧ Φ z μ2) : GE (tOp (rIx K) ta tb) ρ μ Φ := fun Z σ H Q k s m c =>
  h Z σ H _ k s m fun x H1 d μ1 g n1 r1 => g Z σ H1 _ (n1.ok k) (s.mono (n1.to m)) n1.mem fun y H2 e μ2 q n2 r2 => by
    obtain ⟨a, kk, ds, i, z, rfl, rfl, hk, hi, q⟩ := q
    cases r1; cases r2
    obtain ⟨za, vs, hv, rs⟩ := n2.mem.lst hk
    obtain ⟨v, hv1, hv2⟩ := rs.get hi
    refine .inl ⟨a, vs, (i : Int), v, rfl, rfl, .inl (.inl hv), ?_, c v H2 z μ2 q (n1.tr n2) hv2⟩
    have hl : i < vs.length := (List.getElem?_eq_some_iff.mp hv1).1
    unfold atI ixN
    rw [if_pos (by omega), if_pos (by omega)]
    simpa using hv1
theorem ge_lenO {K : PySem.W.Frag} {ta : TA} (h : GEA ta ρ μ fun ds μ1 => ∃ (a : Addr) (k : Nat) (xs : List D), ds = [.ptr a] ∧ μ1[k]? = some (a, .lst xs) ∧ Φ (.int xs.length) μ1) : GE (tCB (fun xs H Q => ∃ x n, xs = [x] ∧ LenV K x H n ∧ Q (.int n) H) ta) ρ μ Φ := fun Z σ H Q k s m c =>
  h Z σ H _ k s m fun vs H1 ds μ1 g n1 r1 => by
    obtain ⟨a, kk, xs, rfl, hk, q⟩ := g
    cases r1 with
    | cons r rs =>
      cases r; cases rs
      obtain ⟨za, ws, hv, rs⟩ := n1.mem.lst hk
      refine ⟨_, xs.length, rfl, ?_, c _ H1 _ μ1 q n1 (.int _)⟩
      rw [← rs.len]
      exact .inl ⟨ws, .inl (.inl hv), rfl⟩
theorem ge_append {K : PySem.W.Frag} {ta : TA} (h : GE te ρ μ fun d μ1 => ∃ (a : Addr) (k : Nat) (x : List D), d = .ptr a ∧ μ1[k]? = some (a, .lst x) ∧ GEA ta ρ μ1 fun es μ2 => ∃ (ds : List D) (z : D), es = [z] ∧ μ2[k]? = some (a, .lst ds) ∧ ds.length < 100000 ∧ Φ .non (μ2.set k (a, .lst (ds ++ [z])))) : GE (tBM K "list" rAppend te ta) ρ μ Φ := fun Z σ H Q k s m c =>
  h Z σ H _ k s m fun x H1 d μ1 g n1 r1 => by
    obtain ⟨a, k0, x0, rfl, hk0, g⟩ := g
    obtain ⟨za, ws, hv, rs⟩ := n1.mem.lst hk0
    cases r1
    refine ⟨.inl ⟨rfl, ws, .inl (.inl hv)⟩, g Z σ H1 _ (n1.ok k) (s.mono (n1.to m)) n1.mem fun xs H2 es μ2 q n2 r2 => ?_⟩
    obtain ⟨ds, z, rfl, hk, hz, q⟩ := q
    cases r2 with
    | cons r2 r3 =>
      cases r3
      obtain ⟨_, vs2, hv2, rs2⟩ := n2.mem.lst hk
      refine ⟨a, vs2, _, rfl, rfl, hv2, Nat.lt_of_lt_of_le (by rw [rs2.len]; exact hz) (by decide), c _ _ _ _ q ((n1.tr n2).tr (.put n2.mem hk (rs2.app (.cons r2 .nil)))) .non⟩
theorem Reps.erase {Z : Addr → Prop} {H : Hp} : ∀ {vs : List V} {ds : List D} (i : Nat), Reps Z H vs ds → Reps Z H (vs.eraseIdx i) (ds.eraseIdx i)
  | _, _, _, .nil => by simpa using Reps.nil
  | _, _, 0, .cons _ r => r
  | _, _, i + 1, .cons h r => .cons h (r.erase i)
theorem ge_popO {K : PySem.W.Frag} {ta : TA} (h : GE te ρ μ fun d μ1 => ∃ (a : Addr) (k : Nat) (x : List D), d = .ptr a ∧ μ1[k]? = some (a, .lst x) ∧ GEA ta ρ μ1 fun es μ2 => ∃ (ds : List D) (i : Nat) (z : D), es = [.int ((i : Nat) : Int)] ∧ μ2[k]? = some (a, .lst ds) ∧ i < 100000 ∧ ds[i]? = some z ∧ Φ z (μ2.set k (a, .lst (ds.eraseIdx i)))) : GE (tBM K "list" rPopAt te ta) ρ μ Φ := fun Z σ H Q k s m c =>
  h Z σ H _ k s m fun x H1 d μ1 g n1 r1 => by
    obtain ⟨a, k0, x0, rfl, hk0, g⟩ := g
    obtain ⟨za, ws, hv, rs⟩ := n1.mem.lst hk0
    cases r1
    refine ⟨.inl ⟨rfl, ws, .inl (.inl hv)⟩, g Z σ H1 _ (n1.ok k) (s.mono (n1.to m)) n1.mem fun xs H2 es μ2 q n2 r2 => ?_⟩
    obtain ⟨ds, i, z, rfl, hk, hz, hi, q⟩ := q
    cases r2 with
    | cons r2 r3 =>
      cases r2; cases r3
      obtain ⟨_, vs2, hv2, rs2⟩ := n2.mem.lst hk
      obtain ⟨v, hv3, hv4⟩ := rs2.get hi
      have hl : i < vs2.length := (List.getElem?_eq_some_iff.mp hv3).1
      have n3 : Nxt Z H2 μ2 (upd H2 a (.lst (vs2.eraseIdx i))) (μ2.set k0 (a, .lst (ds.eraseIdx i))) := .put n2.mem hk (rs2.erase i)
      refine ⟨a, vs2, i, i, v, rfl, rfl, hv2, by omega, by omega, ?_, hv3, c _ _ _ _ q ((n1.tr n2).tr n3) (hv4.mono (n3.to n2.mem))⟩
      unfold seqIndex?
      simp only [show ¬ ((i : Int) < 0) from by omega]
      simp [hl]
/-! calls -/
def spM (R : List D → Mu → (D → Mu → Prop) → Prop) : Sp := fun vs H Q _ => ∃ (Z : Addr → Prop) (ds : List D) (μ : Mu) (Φ : D → Mu → Prop), okZ Z H ∧ Reps Z H vs ds ∧ Mem Z H μ ∧ R ds μ Φ ∧ ∀ v H' d μ', Φ d μ' → Nxt Z H μ H' μ' → Rep Z H' v d → Q v H'
theorem Mem.left {Z : Addr → Prop} {H : Hp} {μ ν : Mu} (m : Mem Z H (μ ++ ν)) : Mem Z H μ := ⟨fun p hp => m.cs p (List.mem_append_left _ hp), (by have := m.nd; rw [List.map_append] at this; exact (List.nodup_append.mp this).1)⟩
theorem Nxt.frame {Z : Addr → Prop} {H H' : Hp} {μ ν μ' : Mu} (m : Mem Z H (μ ++ ν)) (n : Nxt Z H μ H' μ') : Nxt Z H (μ ++ ν) H' (μ' ++ ν) := by
  have nd := m.nd
  rw [List.map_append] at nd
  have hd : ∀ a, dom ν a → ¬ dom μ a := fun a h1 h2 => (List.nodup_append.mp nd).2.2 a h2 a h1 rfl
  have x := n.to m.left
  refine ⟨n.ext.wk fun a h => by unfold dom at h ⊢; rw [List.map_append]; exact List.mem_append_left _ h, by rw [List.map_append, List.map_append, n.dm], fun p hp => ?_, by rw [List.map_append, n.dm]; exact nd⟩
  rcases List.mem_append.mp hp with h | h
  · exact n.mem.cs p h
  · have hc := m.cs p (List.mem_append_right _ h)
    exact ⟨hc.1, hc.2.ex x fun o ho => n.ext _ o (hd _ (List.mem_map.mpr ⟨p, h, rfl⟩)) ho⟩
theorem Mem.right {Z : Addr → Prop} {H : Hp} {μ ν : Mu} (m : Mem Z H (ν ++ μ)) : Mem Z H μ := ⟨fun p hp => m.cs p (List.mem_append_right _ hp), (by have := m.nd; rw [List.map_append] at this; exact (List.nodup_append.mp this).2.1)⟩
theorem Nxt.frameL {Z : Addr → Prop} {H H' : Hp} {μ ν μ' : Mu} (m : Mem Z H (ν ++ μ)) (n : Nxt Z H μ H' μ') : Nxt Z H (ν ++ μ) H' (ν ++ μ') := by
  have nd := m.nd
  rw [List.map_append] at nd
  have hd : ∀ a, dom ν a → ¬ dom μ a := fun a h1 h2 => (List.nodup_append.mp nd).2.2 a h1 a h2 rfl
  have x := n.to m.right
  refine ⟨n.ext.wk fun a h => by unfold dom at h ⊢; rw [List.map_append]; exact List.mem_append_right _ h, by rw [List.map_append, List.map_append, n.dm], fun p hp => ?_, by rw [List.map_append, n.dm]; exact nd⟩
  rcases List.mem_append.mp hp with h | h
  · have hc := m.cs p (List.mem_append_left _ h)
    exact ⟨hc.1, hc.2.ex x fun o ho => n.ext _ o (hd _ (List.mem_map.mpr ⟨p, h, rfl⟩)) ho⟩
  · exact n.mem.cs p h
theorem ge_callL {R : List D → Mu → (D → Mu → Prop) → Prop} {E : XK} {ta : TA} (h : GEA ta ρ μ fun ds μ1 => ∃ ν μa, μ1 = ν ++ μa ∧ R ds μa fun d μ' => Φ d (ν ++ μ')) : GE (tCall (spM R) [] E ta) ρ μ Φ := fun Z σ H Q k s m c =>
  h Z σ H _ k s m fun vs H1 ds μ1 g n1 r1 => by
    obtain ⟨ν, μa, rfl, g⟩ := g
    exact ⟨Z, ds, μa, _, n1.ok k, by rw [List.append_nil]; exact r1, n1.mem.right, g, fun v H' d μ' q n2 r2 => c v H' d _ q (n1.tr (n2.frameL n1.mem)) r2⟩
/-- all of it is the callee's -/
theorem ge_callA {R : List D → Mu → (D → Mu → Prop) → Prop} {E : XK} {ta : TA} (h : GEA ta ρ μ fun ds μ1 => R ds μ1 Φ) : GE (tCall (spM R) [] E ta) ρ μ Φ := fun Z σ H Q k s m c =>
  h Z σ H _ k s m fun vs H1 ds μ1 g n1 r1 =>
    ⟨Z, ds, μ1, _, n1.ok k, by rw [List.append_nil]; exact r1, n1.mem, g, fun v H' d μ' q n2 r2 => c v H' d _ q (n1.tr n2) r2⟩
/-! statements -/
structure Nz (Z : Addr → Prop) (H : Hp) (μ : Mu) (Z' : Addr → Prop) (H' : Hp) (μ' : Mu) : Prop where
  ext : Ext (dom μ) H H'
  dm : ∀ a, dom μ' a → dom μ a
  mem : Mem Z' H' μ'
  ok : okZ Z' H'
  ok0 : okZ Z H'
  zs : ∀ a, Z' a → Z a
  zk : ∀ a, Z a → Z' a ∨ (dom μ a ∧ ¬ dom μ' a)
theorem Nxt.nz {Z : Addr → Prop} {H H' : Hp} {μ μ' : Mu} (n : Nxt Z H μ H' μ') (k : okZ Z H) : Nz Z H μ Z H' μ' := ⟨n.ext, fun a h => by unfold dom at h ⊢; rw [← n.dm]; exact h, n.mem, n.ok k, n.ok k, fun _ z => z, fun _ z => .inl z⟩
theorem Nz.tr {Z Z1 Z' : Addr → Prop} {H H1 H' : Hp} {μ μ1 μ' : Mu} (x : Nz Z H μ Z1 H1 μ1) (y : Nz Z1 H1 μ1 Z' H' μ') : Nz Z H μ Z' H' μ' :=
  ⟨x.ext.tr (y.ext.wk x.dm), fun a h => x.dm a (y.dm a h), y.mem, y.ok, fun a z => by
    rcases x.zk a z with h | ⟨h1, h2⟩
    · exact y.ok0 a h
    · obtain ⟨o, ho, hi⟩ := x.ok0 a z
      exact ⟨o, y.ext a o h2 ho, hi⟩, fun a z => x.zs a (y.zs a z), fun a z => by
    rcases x.zk a z with h | ⟨h1, h2⟩
    · rcases y.zk a h with h | ⟨h1, h2⟩
      · exact .inl h
      · exact .inr ⟨x.dm a h1, h2⟩
    · exact .inr ⟨h1, fun z => h2 (y.dm a z)⟩⟩
theorem Nz.to {Z Z' : Addr → Prop} {H H' : Hp} {μ μ' : Mu} (n : Nz Z H μ Z' H' μ') (m : Mem Z H μ) : Ext Z H H' := n.ext.wk fun a h => m.dz h
theorem Nz.srep {Z Z' : Addr → Prop} {H H' : Hp} {μ μ' : Mu} {σ : L2.St} {ρ : Rho} (n : Nz Z H μ Z' H' μ') (m : Mem Z H μ) (s : SRep Z H σ ρ) : SRep Z' H' σ ρ := (s.mono (n.to m)).zs fun a z => .inl (n.zs a z)
def GS (ts : TS) (ρ : Rho) (μ : Mu) (N : Rho → Mu → Prop) (R : D → Mu → Prop) : Prop := ∀ (Z : Addr → Prop) (σ : L2.St) (H : Hp) (E : Ends), okZ Z H → SRep Z H σ ρ → Mem Z H μ →
  (∀ σ' H' ρ' μ' Z', N ρ' μ' → Nz Z H μ Z' H' μ' → SRep Z' H' σ' ρ' → E.nx σ' H') → (∀ v H' d μ' Z', R d μ' → Nz Z H μ Z' H' μ' → Rep Z' H' v d → E.rt v H') → ts E σ H
variable {N : Rho → Mu → Prop} {R : D → Mu → Prop} {ts us : TS}
theorem gs_next (q : N ρ μ) : GS tNext ρ μ N R := fun Z σ H E k s m n r => n σ H ρ μ Z q ((Nxt.rf m).nz k) s
theorem gs_seq (h : GS ts ρ μ (fun ρ' μ' => GS us ρ' μ' N R) R) : GS (tSeq ts us) ρ μ N R := fun Z σ H E k s m n r =>
  h Z σ H _ k s m (fun σ' H' ρ' μ' Z' g z s' => g Z' σ' H' E z.ok s' z.mem (fun σ2 H2 ρ2 μ2 Z2 q z2 s2 => n σ2 H2 ρ2 μ2 Z2 q (z.tr z2) s2) fun v H2 d μ2 Z2 q z2 r2 => r v H2 d μ2 Z2 q (z.tr z2) r2) r
theorem gs_ret (h : GE te ρ μ R) : GS (tRet te) ρ μ N R := fun Z σ H E k s m n r => h Z σ H _ k s m fun v H' d μ' q nx rp => r v H' d μ' Z q (nx.nz k) rp
theorem gs_asg {i : Nat} (h : GE te ρ μ fun d μ' => N (ρ.set i (some d)) μ') : GS (tAsg te (gName i)) ρ μ N R := fun Z σ H E k s m n r =>
  h Z σ H _ k s m fun v H' d μ' q nx rp => n _ H' _ μ' Z q (nx.nz k) ((s.mono (nx.to m)).set i rp)
theorem gs_asgG {g : TG} (h : GE te ρ μ fun d μ' => ∃ ρ', GA g d ρ ρ' ∧ N ρ' μ') : GS (tAsg te g) ρ μ N R := fun Z σ H E k s m n r =>
  h Z σ H _ k s m fun v H' d μ' ⟨ρ', hg, q⟩ nx rp => hg Z σ H' v _ (nx.ok k) (s.mono (nx.to m)) rp fun σ' s' => n σ' H' ρ' μ' Z q (nx.nz k) s'
theorem gs_drop (h : GE te ρ μ fun d μ' => N ρ μ') : GS (tDrop te) ρ μ N R := fun Z σ H E k s m n r =>
  h Z σ H _ k s m fun v H' d μ' q nx rp => n _ H' _ μ' Z q (nx.nz k) (s.mono (nx.to m))
theorem gs_if {c : TT} (h : GT c ρ μ fun b μ' => if b = true then GS ts ρ μ' N R else GS us ρ μ' N R) : GS (tIfS c ts us) ρ μ N R := fun Z σ H E k s m n r =>
  h Z σ H _ k s m fun b H1 μ1 g n1 => by
    have z1 := n1.nz k
    cases b with
    | true => exact iteT (g Z σ H1 E (n1.ok k) (s.mono (n1.to m)) n1.mem (fun σ2 H2 ρ2 μ2 Z2 q z2 s2 => n σ2 H2 ρ2 μ2 Z2 q (z1.tr z2) s2) fun v H2 d μ2 Z2 q z2 r2 => r v H2 d μ2 Z2 q (z1.tr z2) r2)
    | false => exact iteF (g Z σ H1 E (n1.ok k) (s.mono (n1.to m)) n1.mem (fun σ2 H2 ρ2 μ2 Z2 q z2 s2 => n σ2 H2 ρ2 μ2 Z2 q (z1.tr z2) s2) fun v H2 d μ2 Z2 q z2 r2 => r v H2 d μ2 Z2 q (z1.tr z2) r2)
theorem gs_st {ρ' : Rho} (h : St ts ρ (.nx ρ')) (q : N ρ' μ) : GS ts ρ μ N R := fun Z σ H E k s m n r => h Z σ H E k s fun σ' H' x s' => n σ' H' ρ' μ Z q ((Nxt.exs m x).nz k) s'
theorem GS.mono {N' : Rho → Mu → Prop} {R' : D → Mu → Prop} (h : GS ts ρ μ N R) (hn : ∀ ρ μ, N ρ μ → N' ρ μ) (hr : ∀ d μ, R d μ → R' d μ) : GS ts ρ μ N' R' := fun Z σ H E k s m n r => h Z σ H E k s m (fun σ' H' ρ' μ' Z' q => n σ' H' ρ' μ' Z' (hn _ _ q)) fun v H' d μ' Z' q => r v H' d μ' Z' (hr _ _ q)
theorem Reps.setV {Z : Addr → Prop} {H : Hp} {v : V} {d : D} : ∀ {vs : List V} {ds : List D} (i : Nat), Reps Z H vs ds → Rep Z H v d → Reps Z H (vs.set i v) (ds.set i d)
  | _, _, _, .nil, _ => .nil
  | _, _, 0, .cons _ r, h => .cons h r
  | _, _, i + 1, .cons g r, h => .cons g (r.setV i h)
/-- x[i] = v of an owned list -/
theorem gs_setO {to ti : TE} (h : GE te ρ μ fun v μ1 => GE to ρ μ1 fun d μ2 => GE ti ρ μ2 fun e μ3 => ∃ (a : Addr) (k : Nat) (ds : List D) (i : Nat), d = .ptr a ∧ e = .int ((i : Nat) : Int) ∧ μ3[k]? = some (a, .lst ds) ∧ i < ds.length ∧ N ρ (μ3.set k (a, .lst (ds.set i v)))) : GS (tAsg te (gSub to ti rSetL)) ρ μ N R := fun Z σ H E k s m n r =>
  h Z σ H _ k s m fun v H1 d μ1 g n1 r1 => g Z σ H1 _ (n1.ok k) (s.mono (n1.to m)) n1.mem fun o H2 od μ2 g n2 r2 => g Z σ H2 _ (n2.ok (n1.ok k)) ((s.mono (n1.to m)).mono (n2.to n1.mem)) n2.mem fun iv H3 e μ3 g n3 r3 => by
    obtain ⟨a, kk, ds, i, rfl, rfl, hk, hi, q⟩ := g
    cases r2; cases r3
    obtain ⟨_, vs, hv, rs⟩ := n3.mem.lst hk
    have nn := (n1.tr n2).tr n3
    have r1' := (r1.mono (n2.to n1.mem)).mono (n3.to n2.mem)
    have n4 : Nxt Z H3 μ3 (upd H3 a (.lst (vs.set i v))) (μ3.set kk (a, .lst (ds.set i d))) := .put n3.mem hk (rs.setV i r1')
    refine ⟨a, vs, i, i, rfl, rfl, hv, ?_, n _ _ ρ _ Z q ((nn.tr n4).nz k) ((s.mono (nn.to m)).mono (n4.to n3.mem))⟩
    have hl : i < vs.length := by rw [rs.len]; exact hi
    unfold ixN
    rw [if_pos (by omega), if_pos (by omega)]; rfl
/-! a new cell that is owned -/
def DropA (a : Addr) (μ' μ : Mu) : Prop := (μ' = μ ∧ ¬ dom μ a) ∨ ∃ c, μ' = (a, c) :: μ
theorem Cont.own {Z : Addr → Prop} {H : Hp} {a b : Addr} {d : D} {o : HO} (c : Cont Z H b d) (ha : H a = none) : Cont (fun b => Z b ∨ b = a) (upd H a o) b d := by
  have hz : ∀ b, (Z b ∨ b = a) → Z b ∨ H b = none := fun b z => z.imp id fun (e : b = a) => by rw [e]; exact ha
  cases c with
  | lst h r => exact .lst (by rw [upd_ne (ne_of_none h ha)]; exact h) ((r.zs hz).mono (Ext.new ha))
  | ins h r => exact .ins (by rw [upd_ne (ne_of_none h ha)]; exact h) ((r.zs hz).mono (Ext.new ha))
  | dK h r => exact .dK (by rw [upd_ne (ne_of_none h ha)]; exact h) ((r.zs hz).mono (Ext.new ha))
  | dT h r => exact .dT (by rw [upd_ne (ne_of_none h ha)]; exact h) ((r.zs hz).mono (Ext.new ha))
  | dN h r => exact .dN (by rw [upd_ne (ne_of_none h ha)]; exact h) ((r.zs hz).mono (Ext.new ha))
  | tbl h t r => exact .tbl (by rw [upd_ne (ne_of_none h ha)]; exact h) t fun p v hv => let ⟨c, e1, n, e2⟩ := r p v hv; ⟨c, e1, fun z => Or.elim z n fun (e : c = _) => absurd e2 (by rw [e, ha]; intro h; cases h), by rw [upd_ne (ne_of_none e2 ha)]; exact e2⟩
theorem Mem.ownC {Z : Addr → Prop} {H : Hp} {μ : Mu} {a : Addr} {d : D} {o : HO} (m : Mem Z H μ) (ha : H a = none) (r : Cont (fun b => Z b ∨ b = a) (upd H a o) a d) : Mem (fun b => Z b ∨ b = a) (upd H a o) ((a, d) :: μ) := by
  have nd : ¬ dom μ a := fun h => by obtain ⟨o, ho, _⟩ := m.is h; rw [ha] at ho; cases ho
  refine ⟨fun p hp => ?_, by rw [List.map_cons]; exact List.nodup_cons.mpr ⟨nd, m.nd⟩⟩
  rcases List.mem_cons.mp hp with rfl | hp
  · exact ⟨.inr rfl, r⟩
  · obtain ⟨z, c⟩ := m.cs p hp
    exact ⟨.inl z, c.own ha⟩
theorem Mem.own {Z : Addr → Prop} {H : Hp} {μ : Mu} {a : Addr} {vs : List V} {ds : List D} (m : Mem Z H μ) (ha : H a = none) (r : Reps Z H vs ds) : Mem (fun b => Z b ∨ b = a) (upd H a (.lst vs)) ((a, .lst ds) :: μ) :=
  m.ownC ha (.lst upd_same ((r.zs fun b z => z.imp id fun (e : b = a) => by rw [e]; exact ha).mono (Ext.new ha)))
theorem Nz.own {Z Z' : Addr → Prop} {H1 H' : Hp} {μ1 μ' μ'' : Mu} {a : Addr} {o : HO} {c0 : D} (ha : H1 a = none) (nz : ¬ Z a) (m1 : Mem Z H1 μ1) (z : Nz (fun b => Z b ∨ b = a) (upd H1 a o) ((a, c0) :: μ1) Z' H' μ') (d : DropA a μ' μ'') : Nz Z H1 μ1 (fun b => Z' b ∧ b ≠ a) H' μ'' := by
  have nd : ¬ dom μ1 a := fun h => nz (m1.dz h)
  have hd : ∀ b, dom μ'' b → dom μ' b ∧ b ≠ a := by
    intro b h
    rcases d with ⟨rfl, n⟩ | ⟨c, rfl⟩
    · exact ⟨h, fun e => n (e ▸ h)⟩
    · refine ⟨List.mem_cons_of_mem _ h, fun e => ?_⟩
      have := z.mem.nd
      rw [List.map_cons] at this
      exact (List.nodup_cons.mp this).1 (e ▸ h)
  have hd' : ∀ b, dom μ' b → dom μ'' b ∨ b = a := by
    intro b h
    rcases d with ⟨rfl, n⟩ | ⟨c, rfl⟩
    · exact .inl h
    · rcases List.mem_cons.mp h with h | h
      · exact .inr h
      · exact .inl h
  refine ⟨fun b u hn hb => ?_, fun b h => ?_, ⟨fun p hp => ?_, ?_⟩, fun b h => z.ok b h.1, fun b h => z.ok0 b (.inl h), fun b h => ?_, fun b h => ?_⟩
  · have ne : b ≠ a := fun e => by rw [e, ha] at hb; cases hb
    exact z.ext b u (fun h => by rcases List.mem_cons.mp h with h | h; exact ne h; exact hn h) (by rw [upd_ne ne]; exact hb)
  · obtain ⟨h1, h2⟩ := hd b h
    rcases List.mem_cons.mp (z.dm b h1) with h | h
    · exact absurd h h2
    · exact h
  · have hp' : p ∈ μ' := by
      rcases d with ⟨rfl, n⟩ | ⟨c, rfl⟩
      · exact hp
      · exact List.mem_cons_of_mem _ hp
    obtain ⟨z1, c1⟩ := z.mem.cs p hp'
    exact ⟨⟨z1, (hd p.1 (List.mem_map.mpr ⟨p, hp, rfl⟩)).2⟩, c1.zs fun b h => h.1⟩
  · have := z.mem.nd
    rcases d with ⟨rfl, n⟩ | ⟨c, rfl⟩
    · exact this
    · rw [List.map_cons] at this
      exact (List.nodup_cons.mp this).2
  · exact (z.zs b h.1).resolve_right h.2
  · have ne : b ≠ a := fun e => nz (e ▸ h)
    rcases z.zk b (.inl h) with h | ⟨h1, h2⟩
    · exact .inl ⟨h, ne⟩
    · refine .inr ⟨?_, fun h => h2 (hd b h).1⟩
      rcases List.mem_cons.mp h1 with h | h
      · exact absurd h ne
      · exact h
theorem gs_own {i : Nat} {ta : TA} (h : GEA ta ρ μ fun ds μ1 => ds.length ≤ 100000 ∧ ∀ a, ¬ dom μ1 a → GS us (ρ.set i (some (.ptr a))) ((a, .lst ds) :: μ1) (fun ρ' μ' => ∃ μ'', DropA a μ' μ'' ∧ N ρ' μ'') (fun d μ' => ∃ μ'', DropA a μ' μ'' ∧ R d μ'')) : GS (tSeq (tAsg (tLst ta) (gName i)) us) ρ μ N R := fun Z σ H E k s m n r =>
  h Z σ H _ k s m fun vs H1 ds μ1 g n1 r1 => ⟨Nat.le_trans (by rw [r1.len]; exact g.1) (by decide), fun a ha => by
    have k1 := n1.ok k
    have nz : ¬ Z a := k1.no ha
    have hz : ∀ b, (Z b ∨ b = a) → Z b ∨ H1 b = none := fun b z => z.imp id fun (e : b = a) => by rw [e]; exact ha
    refine g.2 a (fun h => nz (n1.mem.dz h)) (fun b => Z b ∨ b = a) _ _ E (k1.add rfl) ((((s.mono (n1.to m)).zs hz).mono (Ext.new ha)).set i (.ptr a)) (n1.mem.own ha r1) (fun σ' H' ρ' μ' Z' q z s' => ?_) fun v H' d μ' Z' q z r' => ?_
    · obtain ⟨μ'', hd, q⟩ := q
      exact n σ' H' ρ' μ'' _ q ((n1.nz k).tr (Nz.own ha nz n1.mem z hd)) (s'.zs fun b h => .inl h.1)
    · obtain ⟨μ'', hd, q⟩ := q
      exact r v H' d μ'' _ q ((n1.nz k).tr (Nz.own ha nz n1.mem z hd)) (r'.zs fun b h => .inl h.1)⟩
/-- an owned list is data from now on -/
theorem gs_freeze {i : Nat} {a : Addr} {ds : List D} (hi : ρ[i]? = some (some (.ptr a))) (h : GS ts (ρ.set i (some (.lst ds))) μ N R) : GS ts ρ ((a, .lst ds) :: μ) N R := fun Z σ H E k s m n r => by
  have nd : ¬ dom μ a := by have := m.nd; rw [List.map_cons] at this; exact (List.nodup_cons.mp this).1
  obtain ⟨za, vs, hv, rs⟩ := m.lst (k := 0) rfl
  have hz : ∀ b, (Z b ∧ b ≠ a) → Z b ∨ H b = none := fun b h => .inl h.1
  obtain ⟨v, hs, hr⟩ := s.2 i _ hi
  cases hr
  have s' : SRep (fun b => Z b ∧ b ≠ a) H σ (ρ.set i (some (.lst ds))) := by
    have := (s.zs hz).set i (Rep.lst (a := a) (fun h => h.2 rfl) hv (rs.zs hz))
    have e : σ.set i (some (.ref a)) = σ := by
      apply List.ext_getElem?
      intro j
      rw [List.getElem?_set]
      by_cases hj : i = j
      · subst hj
        rw [if_pos rfl, hs]
        have := (List.getElem?_eq_some_iff.mp hs).1
        rw [if_pos this]
      · rw [if_neg hj]
    rwa [e] at this
  have m' : Mem (fun b => Z b ∧ b ≠ a) H μ := ⟨fun p hp => by
    obtain ⟨z1, c1⟩ := m.cs p (List.mem_cons_of_mem _ hp)
    exact ⟨⟨z1, fun e => nd (e ▸ List.mem_map.mpr ⟨p, hp, rfl⟩)⟩, c1.zs fun b h => h.1⟩, by have := m.nd; rw [List.map_cons] at this; exact (List.nodup_cons.mp this).2⟩
  have up : ∀ {Z' : Addr → Prop} {H' : Hp} {μ' : Mu}, Nz (fun b => Z b ∧ b ≠ a) H μ Z' H' μ' → Nz Z H ((a, .lst ds) :: μ) Z' H' μ' := fun z => ⟨z.ext.wk fun b h => List.mem_cons_of_mem _ h, fun b h => List.mem_cons_of_mem _ (z.dm b h), z.mem, z.ok, fun b h => by
    by_cases e : b = a
    · subst e; exact ⟨_, z.ext b _ nd hv, rfl⟩
    · exact z.ok0 b ⟨h, e⟩, fun b h => (z.zs b h).1, fun b h => by
    by_cases e : b = a
    · subst e; exact .inr ⟨List.mem_cons_self, fun h => nd (z.dm b h)⟩
    · rcases z.zk b ⟨h, e⟩ with h | ⟨h1, h2⟩
      · exact .inl h
      · exact .inr ⟨List.mem_cons_of_mem _ h1, h2⟩⟩
  exact h _ σ H E (fun b h => k b h.1) s' m' (fun σ' H' ρ' μ' Z' q z s' => n σ' H' ρ' μ' Z' q (up z) s') fun v H' d μ' Z' q z r' => r v H' d μ' Z' q (up z) r'
/-! loops and comprehensions -/
theorem gs_for {wi : TI} {g : TG} {ds : List D} (I : Nat → Rho → Mu → Prop) (hi : EvI wi ρ ds) {ρ0 : Rho} (hl : Lq ρ0 ρ) (h0 : I 0 ρ0 μ)
    (hb : ∀ i d ρi μi, ds[i]? = some d → I i ρi μi → ∃ ρ', GA g d ρi ρ' ∧ GS ts ρ' μi (fun ρ'' μ'' => ∃ ρ1, Lq ρ1 ρ'' ∧ I (i + 1) ρ1 μ'') R) (hn : ∀ ρ' μ', I ds.length ρ' μ' → N ρ' μ') : GS (tFor wi g ts) ρ μ N R := fun Z σ H E k s m n r =>
  hi Z σ H _ k s fun J H1 x1 w1 => by
    have m1 := m.ex x1
    have k1 := k.ex x1
    refine for_it (w1 Z fun a z => .inl z) (fun i σ Hc => ∃ ρi μi Zi, I i ρi μi ∧ Nz Z H1 μ Zi Hc μi ∧ SRep Zi Hc σ ρi) ⟨ρ0, μ, Z, h0, (Nxt.rf m1).nz k1, (s.mono x1.to).lq hl⟩ (fun i σ Hc _ ⟨ρi, μi, Zi, _, z, _⟩ => ⟨z.to m1, z.ok0⟩) ?_ fun σ Hc ⟨ρi, μi, Zi, hI, z, si⟩ => n σ Hc ρi μi Zi (hn _ _ hI) (((Nxt.exs m x1).nz k).tr z) si
    rintro i x σ Hc H' hi ⟨ρi, μi, Zi, hI, z, si⟩ ⟨y1, d, y2, y3⟩
    obtain ⟨ρ', g1, g2⟩ := hb i d ρi μi y2 hI
    have z' : Nz Z H1 μ Zi H' μi := z.tr ((Nxt.exs z.mem y1).nz z.ok)
    refine g1 Zi σ H' x _ z'.ok (si.mono y1.to) (y3.zs fun a h => .inl (z.zs a h)) fun σ' s' => ?_
    refine g2 Zi σ' H' _ z'.ok s' z'.mem (fun σ2 H2 ρ2 μ2 Z2 q z2 s2 => ?_) fun v H2 d μ2 Z2 q z2 r2 => r v H2 d μ2 Z2 q (((Nxt.exs m x1).nz k).tr (z'.tr z2)) r2
    obtain ⟨ρ1, l1, q⟩ := q
    exact ⟨ρ1, μ2, Z2, q, z'.tr z2, s2.lq l1⟩
theorem ge_lc {wi : TI} {g : TG} {vs : List Nat} {ds : List D} (I : Nat → List D → Mu → Prop) (hi : EvI wi ρ ds) (hz : ds.length ≤ 100000) (h0 : I 0 [] μ)
    (hb : ∀ i d acc μi, ds[i]? = some d → I i acc μi → ∃ ρ' b, GW g vs d (wipeR ρ vs) ρ' ∧ EvT tt ρ' b ∧ (b = true → GE te ρ' μi fun y μ' => I (i + 1) (acc ++ [y]) μ') ∧ (b = false → I (i + 1) acc μi))
    (hq : ∀ acc μ', I ds.length acc μ' → Φ (.lst acc) μ') : GE (tLc wi g tt te vs) ρ μ Φ := fun Z σ H Q k s m c =>
  hi Z σ H _ k s fun J H1 x1 w1 => by
    intro Dd hD
    have m1 := m.ex x1
    have k1 := k.ex x1
    have s0 := s.mono (Z := Z) x1.to
    have hz' : ∀ a, (Z a ∨ a = Dd) → Z a ∨ H1 a = none := fun a z => z.imp id fun (e : a = Dd) => by rw [e]; exact hD
    have nd : ¬ dom μ Dd := fun h => by obtain ⟨o, ho, _⟩ := m1.is h; rw [hD] at ho; cases ho
    have W := w1 (fun a => Z a ∨ a = Dd) hz'
    have s1 : SRep (fun a => Z a ∨ a = Dd) H1 σ ρ := s0.zs hz'
    have mZ : Mem (fun a => Z a ∨ a = Dd) (upd H1 Dd (.lst [])) μ := by
      have := m1.own hD (.nil)
      exact ⟨fun p hp => this.cs p (List.mem_cons_of_mem _ hp), m1.nd⟩
    have mutM : ∀ {Hc : Hp} {μi : Mu} {o : HO}, μi.map (·.1) = μ.map (·.1) → Mem (fun a => Z a ∨ a = Dd) Hc μi → Mem (fun a => Z a ∨ a = Dd) (upd Hc Dd o) μi := fun e mc => ⟨fun p hp => by
      obtain ⟨z1, c1⟩ := mc.cs p hp
      refine ⟨z1, c1.ex ((Ext.rf _).mut (.inr rfl)) fun o ho => ?_⟩
      have ne : p.1 ≠ Dd := fun z => nd (by unfold dom; rw [← e, ← z]; exact List.mem_map.mpr ⟨p, hp, rfl⟩)
      rw [upd_ne ne]; exact ho, mc.nd⟩
    refine lc_it W (fun i Hc => ∃ ads μi, I i ads μi ∧ ads.length ≤ i ∧ μi.map (·.1) = μ.map (·.1) ∧ Mem (fun a => Z a ∨ a = Dd) Hc μi ∧ okZ (fun a => Z a ∨ a = Dd) Hc ∧ Ext (fun a => dom μ a ∨ a = Dd) H1 Hc ∧ ∃ acc, Hc Dd = some (.lst acc) ∧ Reps (fun a => Z a ∨ a = Dd) Hc acc ads) ?_ ?_ ?_ ?_
    · exact ⟨[], μ, h0, Nat.le_refl _, rfl, mZ, k1.add rfl, Ext.new hD, [], upd_same, .nil⟩
    · rintro i Hc hi ⟨ads, μi, _, _, em, mc, kc, xc, _⟩
      exact ⟨xc.wk fun a h => h.imp (fun h => m1.dz h) id, kc⟩
    · rintro i x Hc H' hi ⟨ads, μi, hI, hl, em, mc, kc, xc, acc, e4, e5⟩ ⟨y1, d, y2, y3⟩
      obtain ⟨ρ', b, g1, g2, g3, g4⟩ := hb i d ads μi y2 hI
      have xz : Ext (fun a => Z a ∨ a = Dd) H1 Hc := xc.wk fun a h => h.imp (fun h => m1.dz h) id
      refine g1 _ (wipe σ vs) H' x _ (kc.ex y1) ((s1.wipe vs).mono (xz.tr y1.to)) y3 fun σ' s' w' => ⟨w'.trans (wipe_wipe σ vs), ?_⟩
      refine g2 _ σ' H' _ (kc.ex y1) s' fun H3 x3 => ?_
      have y13 := y1.tr x3
      have hdi : ∀ a, dom μi a ↔ dom μ a := fun a => by unfold dom; rw [em]
      cases b with
      | true =>
        refine iteT (g3 rfl _ σ' H3 _ (kc.ex y13) (s'.mono x3.to) (mc.ex y13) fun v H4 y μ4 q n4 r4 => ?_)
        have e4' : H4 Dd = some (.lst acc) := n4.ext Dd _ (fun h => nd ((hdi _).mp h)) (y13.exact e4)
        have x4 : Ext (fun a => Z a ∨ a = Dd) H3 H4 := n4.to (mc.ex y13)
        have xm : Ext (fun a => Z a ∨ a = Dd) H4 (upd H4 Dd (.lst (acc ++ [v]))) := (Ext.rf H4).mut (.inr rfl)
        have hi' : i < 100000 := Nat.lt_of_lt_of_le hi hz
        refine ⟨acc, e4', Nat.lt_of_le_of_lt (m := 99999) (by rw [e5.len]; omega) (by decide), ads ++ [y], μ4, q, by simp; omega, n4.dm.trans em, mutM (n4.dm.trans em) n4.mem, (n4.ok (kc.ex y13)).upd rfl, fun a o h ho => ?_, _, upd_same, ?_⟩
        · rw [upd_ne (fun e => h (.inr e))]
          exact n4.ext a o (fun z => h (.inl ((hdi a).mp z))) (y13 a o (xc a o h ho))
        · exact (((e5.mono y13.to).mono x4).app (.cons r4 .nil)).mono xm
      | false =>
        exact iteF ⟨ads, μi, g4 rfl, by omega, em, mc.ex y13, kc.ex y13, fun a o h ho => y13 a o (xc a o h ho), acc, y13.exact e4, e5.mono y13.to⟩
    · rintro Hc ⟨ads, μi, hI, hl, em, mc, kc, xc, acc, e4, e5⟩
      have xx : Ext (dom μ) H1 Hc := fun a o h ho => xc a o (fun z => z.elim h fun e => by rw [e, hD] at ho; cases ho) ho
      have me : Mem Z Hc μi := ⟨fun p hp => by
        obtain ⟨z1, c1⟩ := mc.cs p hp
        refine ⟨z1.resolve_right fun e => nd (by unfold dom; rw [← em, ← e]; exact List.mem_map.mpr ⟨p, hp, rfl⟩), c1.zs fun a z => .inl z⟩, mc.nd⟩
      exact c _ Hc _ μi (hq _ _ hI) ((Nxt.exs m x1).tr ⟨xx, em, me⟩) (.lst (k1.no hD) e4 (e5.zs fun a z => .inl (.inl z)))
/-! defs -/
theorem eff_ok {P : Program} {w : World} {K : PySem.W.Frag} {mg : Str → Option Value} {base : Heap} {x qual : Str} {stm : Stmt} {fa : Addr} {fd : FuncData} {N0 ps : List Str} {k : Nat} {R : List D → Mu → (D → Mu → Prop) → Prop} (F : Fun K x qual stm fa fd) (S : FnScope N0 ps (defScope stm)) (len : ∀ ds μ Φ, R ds μ Φ → ds.length = ps.length)
    (hb : ∀ (cdv : Value) (A : Around) (outer : List Env) (s : Shared) (H : Hp) (E : XK), Room k (A.deeper (PyProof.Rows.envOfC qual (defScope stm) s.heap.objs.size fa cdv)) →
      ∃ t, PSs (cxOf CX0 P w K mg base N0 qual (defScope stm) fa cdv A outer s H E).nox (defBody stm) t ∧ ∀ ds μ Φ, R ds μ Φ → GS t (rho0 N0 ds) μ (fun _ μ' => μ'.map (·.1) = μ.map (·.1) ∧ Φ .non μ') (fun d μ' => μ'.map (·.1) = μ.map (·.1) ∧ Φ d μ')) : FnOk P w K mg base CX0 (k + 1) fa fd ps (spM R) := by
  have fin : ∀ {Z Z' : Addr → Prop} {H H' : Hp} {μ μ' : Mu}, Mem Z H μ → μ'.map (·.1) = μ.map (·.1) → Nz Z H μ Z' H' μ' → Nxt Z H μ H' μ' ∧ ∀ a, Z a → Z' a := fun m e z => by
    have zz : ∀ a, _ → _ := fun a h => (z.zk a h).resolve_right fun h => h.2 (by have := h.1; unfold dom at this ⊢; rw [e]; exact this)
    exact ⟨⟨z.ext, e, ⟨fun p hp => by
      obtain ⟨z1, c1⟩ := z.mem.cs p hp
      exact ⟨z.zs _ z1, c1.zs zz⟩, z.mem.nd⟩⟩, zz⟩
  refine F.ok S (fun vs H Q E h => ?_) (fun cdv A outer s H vs Q E hr h => ?_)
  · obtain ⟨Z, ds, μ, Φ, _, r, _, hR, _⟩ := h
    exact r.len.trans (len ds μ Φ hR)
  · obtain ⟨Z, ds, μ, Φ, ok, r, m, hR, q⟩ := h
    obtain ⟨t, ht, hs⟩ := hb cdv A outer s H E hr
    refine ⟨t, ht, ?_⟩
    have s0 : SRep Z H (L2.start N0 vs) (rho0 N0 ds) := by
      unfold L2.start rho0
      rw [r.len]
      exact SRep.start r _
    refine hs ds μ Φ hR Z _ H _ ok s0 m (fun σ' H' ρ' μ' Z' ⟨e, p⟩ z s' => ?_) fun v H' d μ' Z' ⟨e, p⟩ z r' => ?_
    · exact q _ H' _ μ' p (fin m e z).1 .non
    · exact q _ H' _ μ' p (fin m e z).1 (r'.zs fun a h => .inl ((fin m e z).2 a h))
theorem st_gs {d : D} (h : GS ts ρ [] (fun _ _ => False) (fun d' μ' => d' = d)) : St ts ρ (.rt d) := fun Z σ H E k s q =>
  h Z σ H E k s .nil (fun _ _ _ _ _ f => f.elim) fun v H' d' μ' Z' e z r => by
    subst e
    exact q v H' (fun a o ho => z.ext a o (by simp [dom]) ho) (r.zs fun a h => .inl ((z.zk a h).resolve_right fun h => by simp [dom] at h))
end
section
variable {ρ : Rho} {μ : Mu} {ta tb : TE} {Φ : D → Mu → Prop} {N : Rho → Mu → Prop} {R : D → Mu → Prop} {ts us : TS}
theorem gs_mid (M : Rho → Mu → Prop) (h : GS ts ρ μ M R) (g : ∀ ρ' μ', M ρ' μ' → GS us ρ' μ' N R) : GS (tSeq ts us) ρ μ N R := gs_seq (h.mono g fun _ _ h => h)
def flatD : D → Bool
  | .non => true
  | .bl _ => true
  | .int _ => true
  | .str _ => true
  | _ => false
theorem Rep.flat {Z Z' : Addr → Prop} {H : Hp} {v : V} {d : D} (r : Rep Z H v d) (h : flatD d = true) : Rep Z' H v d := by
  cases r with
  | non => exact .non
  | bl b => exact .bl b
  | int i => exact .int i
  | str s => exact .str s
  | _ => cases h
/-! instances -/
def putD (f : Str) (d : D) : List (Str × D) → List (Str × D)
  | [] => [(f, d)]
  | (g, x) :: r => if g = f then (g, d) :: r else (g, x) :: putD f d r
theorem RepF.put {Z : Addr → Prop} {H : Hp} {f : Str} {v : V} {d : D} (h : Rep Z H v d) : ∀ {fs : List (Str × V)} {ds : List (Str × D)}, RepF Z H fs ds → RepF Z H (putF f v fs) (putD f d ds)
  | _, _, .nil => .cons h .nil
  | (g, x) :: r, (_, y) :: q, .cons hx hr => by
    unfold putF putD
    by_cases e : g = f
    · rw [if_pos e, if_pos e]; exact .cons h hr
    · rw [if_neg e, if_neg e]; exact .cons hx (hr.put h)
theorem RepF.len {Z : Addr → Prop} {H : Hp} : ∀ {fs : List (Str × V)} {ds : List (Str × D)}, RepF Z H fs ds → fs.length = ds.length
  | _, _, .nil => rfl
  | _, _, .cons _ r => by simp [r.len]
theorem gs_fld {K : PySem.W.Frag} {f : Str} {te : TE} (h : GE te ρ μ fun d μ1 => GE ta ρ μ1 fun o μ2 => ∃ (a : Addr) (k : Nat) (C : Addr) (fs : List (Str × D)), o = .ptr a ∧ μ2[k]? = some (a, .ins C fs) ∧ Cls K C ∧ NoAttr K C f ∧ fs.length < 1000 ∧ N ρ (μ2.set k (a, .ins C (putD f d fs)))) : GS (sFld K ta te f) ρ μ N R := fun Z σ H E k s m n r =>
  h Z σ H _ k s m fun y H1 d μ1 g n1 r1 => g Z σ H1 _ (n1.ok k) (s.mono (n1.to m)) n1.mem fun x H2 o μ2 g n2 r2 => by
    obtain ⟨a, kk, C, fs, rfl, hk, hc, hn, hl, q⟩ := g
    cases r2
    obtain ⟨za, dx, vs, hv, rs⟩ := n2.mem.ins hk
    have xm : Ext Z H2 (upd H2 a (.ins C dx (putF f y vs))) := (Ext.rf H2).mut za
    have n3 : Nxt Z H2 μ2 (upd H2 a (.ins C dx (putF f y vs))) (μ2.set kk (a, .ins C (putD f d fs))) := .putC n2.mem hk (.ins upd_same ((rs.put (r1.mono (n2.to n1.mem))).mono xm))
    have nn := (n1.tr n2).tr n3
    exact ⟨a, C, dx, vs, rfl, hv, hc, hn, by rw [rs.len]; exact hl, n _ _ ρ _ Z q (nn.nz k) (s.mono (nn.to m))⟩
theorem ev_make {C : Addr} {Rm : List D → Mu → (D → Mu → Prop) → Prop} {E : XK} {ta : TA} {ds : List D} {fs : List (Str × D)} (ha : EvA ta ρ ds) (hr : ∀ p, Rm (.ptr p :: ds) [(p, .ins C [])] fun d μ' => d = .non ∧ μ' = [(p, .ins C fs)]) : Ev (tMake C (spM Rm) [] E ta) ρ (.ins C fs) := fun Z σ H Q k s q =>
  ha Z σ H _ k s fun vs H1 x1 r1 x dx hx hdx ne => by
    have k1 := k.ex x1
    have hdx' : (upd H1 dx (.own x)) x = none := by rw [upd_ne ne.symm]; exact hx
    have k2 : okZ Z (upd H1 dx (.own x)) := k1.new hdx
    have e1 : Ex H1 (upd H1 dx (.own x)) := Ex.new hdx
    have e2 : Ex (upd H1 dx (.own x)) (upd (upd H1 dx (.own x)) x (.ins C dx [])) := Ex.new hdx'
    have hz : ∀ b, (Z b ∨ b = x) → Z b ∨ H1 b = none := fun b z => z.imp id fun (e : b = x) => by rw [e]; exact hx
    have m2 : Mem (fun b => Z b ∨ b = x) (upd (upd H1 dx (.own x)) x (.ins C dx [])) [(x, .ins C [])] := Mem.nil.ownC hdx' (.ins upd_same .nil)
    refine ⟨fun b => Z b ∨ b = x, .ptr x :: ds, [(x, .ins C [])], _, k2.add rfl, .cons (.ptr x) ?_, m2, hr x, fun v H' d μ' ⟨e, em⟩ n r => ?_⟩
    · rw [List.append_nil]
      exact (r1.zs hz).mono (e1.tr e2).to
    · subst e; subst em
      cases r
      refine ⟨rfl, ?_⟩
      obtain ⟨_, dx', vs', hv, rs⟩ := n.mem.ins (k := 0) rfl
      refine q _ H' (fun a o ho => ?_) (.ins (k1.no hx) hv (rs.zs fun b z => .inl (.inl z)))
      refine n.ext a o (fun h => ?_) ((e1.tr e2) a o (x1 a o ho))
      have : a = x := by simpa [dom] using h
      rw [this] at ho
      have := x1 x o ho
      rw [hx] at this; cases this
theorem ev_sm {C : Addr} {Rp : List D → D → Prop} {E : XK} {te : TE} {ta : TA} {ds : List D} {z : D} (hs : Ev te ρ (.ptr C)) (ha : EvA ta ρ ds) (hr : Rp ds z) : Ev (tSMeth C (spP Rp) E te ta) ρ z := fun Z σ H Q k s q =>
  hs Z σ H _ k s fun x H0 x0 r0 => by
    cases r0
    exact ⟨rfl, ha Z σ H0 _ (k.ex x0) (s.mono x0.to) fun vs H1 x1 r1 => ⟨Z, ds, z, (k.ex x0).ex x1, r1, hr, fun v H2 x2 r2 => q v H2 ((x0.tr x1).tr x2) r2⟩⟩
end
end Du
namespace Du
open PySem L2
/-! isinstance -/
def tyD : D → Option String
  | .non => some "NoneType"
  | .bl _ => some "bool"
  | .int _ => some "int"
  | .str _ => some "str"
  | .lst _ => some "list"
  | .tup _ => some "tuple"
  | .dT _ => none
  | .dK _ => some "dict"
  | .dN _ _ => none
  | .ins _ _ => none
  | .ptr _ => none
  | .ty _ => none
theorem tyD_of {K : PySem.W.Frag} {Z : Addr → Prop} {H : Hp} {v : V} {d : D} {t : String} (r : Rep Z H v d) (h : tyD d = some t) : TyX K H v (.type t) := by
  cases r <;> simp only [tyD, Option.some.injEq, reduceCtorEq] at h <;> subst h
  · exact .base .non
  · exact .base (.bl _)
  · exact .base (.int _)
  · exact .base (.str _)
  · rename_i h _; exact .base (.lst h)
  · rename_i h _; exact .base (.tup h)
  · rename_i h _; rcases h with h | ⟨o, h⟩
    · exact .base (.dK h)
    · exact .fDict h
theorem rl_isi {K : PySem.W.Frag} {d : D} {t T : String} {b : Bool} (h : tyD d = some t) (e : PySem.W.kitOne K (.type t) (.type T) = some b) : RLD (rIsi K) [d, .ty T] (.bl b) := fun Z H xs Q k r q => by
  cases r with
  | cons r rs => cases rs with
    | cons r' rs =>
      cases r'; cases rs
      exact ⟨_, _, _, _, b, rfl, .ty T, tyD_of r h, e, q _ H (Ex.rf H) (.bl b)⟩
theorem isi_same {K : PySem.W.Frag} (t : String) : PySem.W.kitOne K (.type t) (.type t) = some true := by
  unfold PySem.W.kitOne; rw [if_pos (by simp)]
end Du
namespace Du
open PySem L2
/-! a class's own operators and static methods, as it stands among the names -/
section
variable (P : Program) (w : World) (K : PySem.W.Frag) (mg : Str → Option Value) (base : Heap) (k : Nat) (C : Addr)
structure OBin (op : Operator) (sp : Sp) : Prop where
  ex : ∃ g, PySem.W.selfFirst K C = true ∧ PySem.W.findIn K (.ref C) (PySem.dunder op.info.2) = some (some (.ref g)) ∧ PySem.W.isFn K (.ref g) = true ∧ FnR P w K mg base CX0 k g sp
structure OIp (op : Operator) (sp : Sp) : Prop where
  ex : ∃ g, noneUp K C (dunderI op.info.2) = true ∧ PySem.W.selfFirst K C = true ∧ PySem.W.findIn K (.ref C) (PySem.dunder op.info.2) = some (some (.ref g)) ∧ PySem.W.isFn K (.ref g) = true ∧ FnR P w K mg base CX0 k g sp
structure OInv (sp : Sp) : Prop where
  ex : ∃ g, PySem.W.findIn K (.ref C) "__invert__" = some (some (.ref g)) ∧ PySem.W.isFn K (.ref g) = true ∧ FnR P w K mg base CX0 k g sp
structure OCmp (op : CmpOp) (sp : Sp) : Prop where
  ex : ∃ g, PySem.W.notFirst K C (.ref C) = true ∧ PySem.W.findIn K (.ref C) (cmpInfo op).2.1 = some (some (.ref g)) ∧ PySem.W.isFn K (.ref g) = true ∧ FnR P w K mg base CX0 k g sp
structure ONe (sp : Sp) : Prop where
  ex : ∃ g, PySem.W.notFirst K C (.ref C) = true ∧ PySem.W.findIn K (.ref C) "__ne__" = some (some (.builtin "object.__ne__")) ∧ PySem.W.findIn K (.ref C) "__eq__" = some (some (.ref g)) ∧ PySem.W.isFn K (.ref g) = true ∧ PySem.W.subIn K (.ref C) (.type "object") = some true ∧ FnR P w K mg base CX0 k g sp
structure OSm (m : Str) (sp : Sp) : Prop where
  ex : ∃ mc p g, ClX.CRead K C mc ∧ SMet K C mc m p g ∧ FnR P w K mg base CX0 k g sp
end
section
variable {X : Cx} {k j : Nat} {C : Addr} {sp : Sp} {o e : Expr} {es : List Expr} {m : Str} {pos apos : Pos} {ta : TE} {t : TA} {pl : Sem Bool}
theorem k_bin {op : Operator} (c : OBin X.prog X.w X.K X.mg X.base k C op sp) (hr : Room j X.A) (hk : k ≤ j) : OpR X (binaryOp op) (rBin C sp E0) := by
  obtain ⟨g, h1, h2, h3, F⟩ := c.ex
  exact op_bin h1 h2 h3 F (hr.mono hk) pass0
theorem k_inv (c : OInv X.prog X.w X.K X.mg X.base k C sp) (hr : Room j X.A) (hk : k ≤ j) : UnR X (unaryOp .Invert) (rInv C sp E0) := by
  obtain ⟨g, h2, h3, F⟩ := c.ex
  exact un_own h2 h3 F (hr.mono hk) pass0
theorem k_cmp {op : CmpOp} (c : OCmp X.prog X.w X.K X.mg X.base k C op sp) (hop : ∀ a b, compareOp op a b = richCompare op a b) (hr : Room j X.A) (hk : k ≤ j) : OpR X (compareOp op) (rBin C sp E0) := by
  obtain ⟨g, h1, h2, h3, F⟩ := c.ex
  exact op_cmp hop h1 h2 h3 F (hr.mono hk) pass0
def spNot (sp : Sp) : Sp := fun vs H Q E => sp vs H (fun v H' => ∃ b, v = .bl b ∧ Q (.bl (!b)) H') E
theorem k_neOwn (c : ONe X.prog X.w X.K X.mg X.base k C sp) (hr : Room j X.A) (hk : k + 1 ≤ j) : OpR X (compareOp .NotEq) (rBin C (spNot sp) E0) := by
  obtain ⟨g, h1, h2, h3, h4, h5, F⟩ := c.ex
  exact op_neOwn h1 h2 h3 h4 h5 F (hr.mono hk) pass0
theorem k_sm (c : OSm X.prog X.w X.K X.mg X.base k C m sp) (hr : Room j X.A) (hk : k ≤ j) (he : PE X o ta) (ha : PA X (e :: es) t)
    (hst : starEach (e :: es) X.env = (false, eval e X.env) :: starEach es X.env := by rfl) (hpl : (backTo pos (starEach es X.env)).any (·.1) = false := by rfl)
    (ht : eval (.Call (.Attribute o m apos) (e :: es) [] pos) X.env = (do
      let ov ← eval o X.env
      standAt apos.atName
      let (f, first) ← holding [ov] (getMethod ov m pl)
      callWith pos f first (backTo pos (starEach (e :: es) X.env)) (backToKw pos (keywordEach [] X.env))) := by rfl) :
    PE X (.Call (.Attribute o m apos) (e :: es) [] pos) (tSMeth C sp E0 ta t) := by
  obtain ⟨mc, p, g, r, s, F⟩ := c.ex
  exact pe_smeth (pl := pl) he r s F (hr.mono hk) pass0 ha hst hpl ht
theorem k_sm0 (c : OSm X.prog X.w X.K X.mg X.base k C m sp) (hr : Room j X.A) (hk : k ≤ j) (he : PE X o ta)
    (ht : eval (.Call (.Attribute o m apos) [] [] pos) X.env = (do
      let ov ← eval o X.env
      standAt apos.atName
      let (f, first) ← holding [ov] (getMethod ov m pl)
      callWith pos f first (backTo pos (starEach [] X.env)) (backToKw pos (keywordEach [] X.env))) := by rfl) :
    PE X (.Call (.Attribute o m apos) [] [] pos) (tSMeth C sp E0 ta tNil) := by
  obtain ⟨mc, p, g, r, s, F⟩ := c.ex
  exact pe_smeth0 (pl := pl) he r s F (hr.mono hk) pass0 ht
theorem k_globS {x s : Str} (hg : Gl X x) (h : ∃ t, X.mg x = some (.str s t)) (hd : (x == ("__debug__" : Str)) = false := by decide) : PE X (.Name x pos) (tC (.str s)) := by
  obtain ⟨t, h⟩ := h
  exact pe_glob hg h ⟨t, rfl⟩ hd
theorem k_globI {x : Str} {i : Int} (hg : Gl X x) (h : ∃ t, X.mg x = some (.int i t)) (hd : (x == ("__debug__" : Str)) = false := by decide) : PE X (.Name x pos) (tC (.int i)) := by
  obtain ⟨t, h⟩ := h
  exact pe_glob hg h ⟨t, rfl⟩ hd
end
/-! in data -/
section
variable {C : Addr} {R : List D → D → Prop} {E : XK} {fs gs : List (Str × D)} {z : D} {b : Bool} {ρ : Rho}
theorem rd_bin (hR : R [.ins C fs, .ins C gs] z) : R2D (rBin C (spP R) E) (.ins C fs) (.ins C gs) z := fun Z H x y Q k r1 r2 q => by
  have r1' := r1
  have r2' := r2
  cases r1 with
  | ins n1 h1 f1 => cases r2 with
    | ins n2 h2 f2 => exact ⟨_, _, _, _, _, _, rfl, rfl, h1, h2, Z, _, z, k, .cons r1' (.cons r2' .nil), hR, q⟩
theorem r1_inv (hR : R [.ins C fs] z) : R1D (rInv C (spP R) E) (.ins C fs) z := fun Z H x Q k r1 q => by
  have r1' := r1
  cases r1 with
  | ins n1 h1 f1 => exact ⟨_, _, _, rfl, h1, Z, _, z, k, .cons r1' .nil, hR, q⟩
theorem rd_neOwn (hR : R [.ins C fs, .ins C gs] (.bl b)) : R2D (rBin C (spNot (spP R)) E) (.ins C fs) (.ins C gs) (.bl (!b)) := fun Z H x y Q k r1 r2 q => by
  have r1' := r1
  have r2' := r2
  cases r1 with
  | ins n1 h1 f1 => cases r2 with
    | ins n2 h2 f2 => exact ⟨_, _, _, _, _, _, rfl, rfl, h1, h2, Z, _, _, k, .cons r1' (.cons r2' .nil), hR, fun v H' x' r' => by cases r'; exact ⟨b, rfl, q _ H' x' (.bl _)⟩⟩
theorem st_aug {i : Nat} {te : TE} {r : R2} {d e : D} (hi : ρ[i]? = some (some d)) (h : Ev te ρ e) (hr : R2D r d e z) : St (tAug i te r) ρ (.nx (ρ.set i (some z))) := fun Z σ H E k s q => by
  obtain ⟨v, h1, h2⟩ := s.2 i d hi
  exact ⟨v, h1, h Z σ H _ k s fun y H1 x1 r1 => hr Z H1 v y _ (k.ex x1) (h2.mono x1.to) r1 fun u H2 x2 r2 => q _ H2 (x1.tr x2) (((s.mono (x1.tr x2).to)).set i r2)⟩
theorem ei_str {te : TE} {z : Str} (h : Ev te ρ (.str z)) : EvI (iStr te) ρ (z.cps.toList.map fun c => D.str ⟨#[c]⟩) := fun Z σ H R k s q =>
  h Z σ H _ k s fun x H1 x1 r1 => by
    cases r1
    refine ⟨z, rfl, q _ H1 x1 fun Z' hz => ?_⟩
    rw [List.length_map, Array.length_toList]
    refine walk_str.mono (fun _ _ => trivial) fun i Hc x H' hi g y => ?_
    obtain ⟨rfl, c, hc, rfl⟩ := y
    refine ⟨Ex.rf _, _, ?_, .str _⟩
    rw [List.getElem?_map, Array.getElem?_toList, hc]; rfl
theorem rd_inSign {c : Nat} {z : Str} : R2D (fun x y H Q => ∃ (c : Nat) (z : Str), x = .str ⟨#[c]⟩ ∧ y = .str z ∧ Q (.bl (decide (c ∈ z.cps.toList))) H) (.str ⟨#[c]⟩) (.str z) (.bl (decide (c ∈ z.cps.toList))) := fun Z H x y Q k r1 r2 q => by
  cases r1; cases r2
  exact ⟨c, z, rfl, rfl, q _ H (Ex.rf H) (.bl _)⟩
theorem rl_isiI {K : PySem.W.Frag} (cl : Cls K C) (h1 : PySem.W.findIn K (.ref C) "__class__" = some (some (.builtin "object.__class__"))) (h2 : PySem.W.specialIn K (.builtin "object.__class__") "__get__" = some (some (.builtin "getset_descriptor.__get__"))) (h3 : PySem.W.takesIn K (.builtin "object.__class__") = some true) (h4 : PySem.W.mroIn K C (.type "object") = some true) : RLD (rIsi K) [.ins C fs, .ptr C] (.bl true) := fun Z H xs Q k r q => by
  cases r with
  | cons r rs => cases rs with
    | cons r' rs =>
      cases r'; cases rs
      cases r with
      | ins n h f => exact ⟨_, _, _, _, true, rfl, .own C, .base (.ins h cl h1 h2 h3 h4), by unfold PySem.W.kitOne; rw [if_pos (by simp)], q _ H (Ex.rf H) (.bl true)⟩
theorem ev_sm0 {te : TE} (hs : Ev te ρ (.ptr C)) (hr : R [] z) : Ev (tSMeth C (spP R) E te tNil) ρ z := ev_sm hs ev_nil hr
end
end Du
namespace Du
open PySem L2
section
variable {ρ : Rho} {μ : Mu} {ta tb te : TE} {Φ : D → Mu → Prop} {N : Rho → Mu → Prop} {R : D → Mu → Prop} {ts us : TS}
/-! while -/
theorem gs_while {c : TT} (I : Nat → Rho → Mu → Prop) {m0 : Nat} {ρ0 : Rho} (hl : Lq ρ0 ρ) (h0 : I m0 ρ0 μ)
    (hb : ∀ m ρi μi, I m ρi μi → GT c ρi μi fun b μ' => if b = true then GS ts ρi μ' (fun ρ'' μ'' => ∃ ρ1 m', m' < m ∧ Lq ρ1 ρ'' ∧ I m' ρ1 μ'') R else N ρi μ') : GS (tWhile c ts) ρ μ N R := fun Z σ H E k s m n r => by
  refine ⟨fun mm σ' Hc => ∃ ρi μi Zi, I mm ρi μi ∧ Nz Z H μ Zi Hc μi ∧ SRep Zi Hc σ' ρi, ⟨m0, ρ0, μ, Z, h0, (Nxt.rf m).nz k, s.lq hl⟩, ?_⟩
  rintro mm σ' Hc ⟨ρi, μi, Zi, hI, z, si⟩
  refine hb mm ρi μi hI Zi σ' Hc _ z.ok si z.mem fun b H1 μ1 g n1 => ?_
  have z1 := z.tr (n1.nz z.ok)
  cases b with
  | true =>
    refine iteT ⟨fun σ2 H2 => ∃ m', m' < mm ∧ ∃ ρi μi Zi, I m' ρi μi ∧ Nz Z H μ Zi H2 μi ∧ SRep Zi H2 σ2 ρi, fun σ2 H2 h => h, ?_⟩
    refine g Zi σ' H1 _ (n1.ok z.ok) (si.mono (n1.to z.mem)) n1.mem (fun σ2 H2 ρ2 μ2 Z2 q z2 s2 => ?_) fun v H2 d μ2 Z2 q z2 r2 => r v H2 d μ2 Z2 q (z1.tr z2) r2
    obtain ⟨ρ1, m', hm, l1, q⟩ := q
    exact ⟨m', hm, ρ1, μ2, Z2, q, z1.tr z2, s2.lq l1⟩
  | false => exact iteF (n σ' H1 ρi μ1 Zi g z1 (si.mono (n1.to z.mem)))
/-! two new lists at once -/
/-! a statement while a dict is locked -/
def tLkS (t : TS) : TS := fun E σ H => tLock t E σ H ∨ t E σ H
theorem Cont.monoW {Z : Addr → Prop} {H H' : Hp} {a : Addr} {d : D} (c : Cont Z H a d) (x : ExtW Z H H') (e : ∀ o, H a = some o → H' a = some o) : Cont Z H' a d := by
  cases c with
  | lst h r => exact .lst (e _ h) (r.monoW x)
  | ins h r => exact .ins (e _ h) (r.monoW x)
  | dK h r => exact .dK (e _ h) (r.monoW x)
  | dT h r => exact .dT (e _ h) (r.monoW x)
  | dN h r => exact .dN (e _ h) (r.monoW x)
  | tbl h t r => exact .tbl (e _ h) t fun p v hv => let ⟨c, e1, n, e2⟩ := r p v hv; ⟨c, e1, n, by
      obtain ⟨o', h1, h2⟩ := x c _ n e2
      rw [h1]
      unfold LamX.CodeO at h2 ⊢
      cases o' with
      | frz o u => cases u <;> cases h2
      | ext f => exact congrArg some h2
      | _ => cases h2⟩
theorem Mem.monoW {Z : Addr → Prop} {H H' : Hp} {μ : Mu} (m : Mem Z H μ) (x : ExtW Z H H') (e : ∀ a o, Z a → H a = some o → H' a = some o) : Mem Z H' μ := ⟨fun p hp => ⟨(m.cs p hp).1, (m.cs p hp).2.monoW x (e _ · (m.cs p hp).1)⟩, m.nd⟩
end
end Du
namespace Du
open PySem L2 PySem.Spec PyProof.Rows
/-! dict(xs), xs a list of pairs whose first parts are unlike tuples -/
def rDictPT (K : PySem.W.Frag) : List V → Hp → VK → Prop := fun xs H Q => ∃ (a : Addr) (ps : List Addr) (kvs : List (List Key × V)), xs = [.ref a] ∧ SqL K H a (ps.map V.ref) ∧
  Paired (fun p kv => ∃ b, SqT K H p [.ref b, kv.2] ∧ H b = some (.tup (kv.1.map kV))) ps kvs ∧ (kvs.map (·.1)).Nodup ∧ ∀ p, H p = none → Q (.ref p) (upd H p (.dT kvs))
section
variable {X : Cx}
end
end Du
namespace Du
open PySem L2 PySem.Spec PyProof.Rows
/-! == of dicts whose keys are objects -/
section
variable {prog : Program} {w : World} {κ : Type} [DecidableEq κ] {kd : HeapKind prog w κ} {A : Around} {E : Value → Shared → Prop} {s : Shared}
inductive HitsH (prog : Program) (w : World) (A : Around) (s : Shared) (yb : List (κ × Addr × Value)) : List (κ × Addr × Value) → Bool → Prop
  | nil : HitsH prog w A s yb [] true
  | miss {x : κ × Addr × Value} {r : List (κ × Addr × Value)} : atKey yb x.1 = none → HitsH prog w A s yb (x :: r) false
  | hit {x : κ × Addr × Value} {p : Addr × Value} {r : List (κ × Addr × Value)} {e b : Bool} : atKey yb x.1 = some p → SeqAt.EqP prog w A s x.2.2 p.2 e → HitsH prog w A s yb r b → HitsH prog w A s yb (x :: r) (e && b)
end
section
variable {X : Cx}
/-- d == e of dicts with tuple keys, their values plain -/
def rEqT (K : PySem.W.Frag) : R2 := fun x y H Q => ∃ (a b : Addr) (ks ls : List (List Key × V)) (f g : List Key → PyData), x = .ref a ∧ y = .ref b ∧ Rd H a (.dT ks) ∧ Rd H b (.dT ls) ∧
  (∀ p ∈ ks, Dp K H p.2 (f p.1) ∧ SeqAt.shaped (f p.1) = true) ∧ (∀ p ∈ ls, Dp K H p.2 (g p.1) ∧ SeqAt.shaped (g p.1) = true) ∧
  Q (.bl (ks.length == ls.length && ks.all fun p => ls.any (fun q => decide (q.1 = p.1)) && PyData.eqv (f p.1) (g p.1))) H
end
section
variable {K : PySem.W.Frag} {ρ : Rho}
/-! in data -/
theorem RepT.pl {Z : Addr → Prop} {H : Hp} {f : List Key → D} : ∀ {kvs : List (List Key × V)} {ds : List (List Key × D)}, RepT Z H kvs ds → (∀ p ∈ ds, p.2 = f p.1 ∧ okE (f p.1)) → ∀ p ∈ kvs, Dp K H p.2 (toP (f p.1)) ∧ SeqAt.shaped (toP (f p.1)) = true
  | _, _, .nil, _, p, hp => nomatch hp
  | _, _, .cons (k := k) (v := v) (d := d) r t, hf, p, hp => by
    rcases List.mem_cons.mp hp with rfl | hp
    · have := hf _ List.mem_cons_self
      dsimp only at this ⊢
      rw [← this.1]
      have h2 : okE d := this.1 ▸ this.2
      exact ⟨dp_of r h2.1, h2.sh⟩
    · exact RepT.pl t (fun q hq => hf q (List.mem_cons_of_mem _ hq)) p hp
def eqT (ds es : List (List Key × D)) : Bool := ds.length == es.length && ds.all fun p => match valD es p.1 with | some z => eqD p.2 z | none => false
end
end Du
namespace Du
open PySem L2 PySem.Spec PyProof.Rows
/-! the type of a thing, a locked dict too -/
def TyY (K : PySem.W.Frag) (H : Hp) (y : V) (t : Value) : Prop := TyX K H y t ∨ ∃ (a : Addr) (o : Obj) (kvs : List (List Key × V)), y = .ref a ∧ t = .type "dict" ∧ H a = some (.frz o (.dT kvs))
section
variable {X : Cx} {pins : List (Addr × Obj)} {σ : L2.St} {H : Hp} {s : Shared}
end
def rIsiY (K : PySem.W.Frag) : List V → Hp → VK → Prop := fun xs H Q => ∃ (x c : V) (t u : Value) (b : Bool), xs = [x, c] ∧ ClsV c u ∧ TyY K H x t ∧ PySem.W.kitOne K t u = some b ∧ Q (.bl b) H
def rCmpY (K : PySem.W.Frag) (C : Addr) (sp : Sp) (E : XK) : R2 := fun x y H Q => ∃ a dx fs t, x = .ref a ∧ H a = some (.ins C dx fs) ∧ TyY K H y t ∧ PySem.W.notFirst K C t = true ∧ sp [x, y] H Q E
section
variable {X : Cx} {K : PySem.W.Frag} {CX : CXT} {n : Nat} {C g : Addr} {sp : Sp} {E : XK}
end
def tyE : D → Option String
  | .dT _ => some "dict"
  | .dK _ => some "dict"
  | d => tyD d
section
variable {K : PySem.W.Frag} {C : Addr} {R : List D → D → Prop} {E : XK} {fs : List (Str × D)} {e z : D} {t : String}
end
/-! own == with a thing of another type, as a rule among the names -/
section
variable {X : Cx} {K : PySem.W.Frag} {P : Program} {w : World} {mg : Str → Option Value} {base : Heap} {C : Addr} {k j : Nat} {sp : Sp}
end
/-! slices with an effect in the bound, fresh lists -/
section
variable {ρ : Rho} {μ : Mu} {ta tb te : TE} {Φ : D → Mu → Prop} {N : Rho → Mu → Prop} {R : D → Mu → Prop} {ts us : TS}
/-- a def that hands back a new list -/
def spNw (R : List D → List D → Prop) : Sp := fun vs H Q _ => ∃ (Z : Addr → Prop) (ds es : List D), okZ Z H ∧ Reps Z H vs ds ∧ R ds es ∧ ∀ a H' xs, H a = none → Ex H H' → H' a = some (.lst xs) → Reps Z H' xs es → Q (.ref a) H'
end
end Du
namespace Du
open PySem L2 PySem.Spec PyProof.Rows
section
variable {X : Cx} {K : PySem.W.Frag} {k : Nat}
def relab (sc sc0 : Scope) : Scope := relabel sc { scope := sc0, locals := 0, globals := 0, cells := [] }
end
end Du
namespace Du
open PySem L2 PySem.Spec PyProof.Rows
/-! dicts whose keys are texts or ints: list(d), d.update(e), dict(pairs); dict(zip(xs, ys)) -/
def rListDK : List V → Hp → VK → Prop := fun xs H Q => ∃ (a : Addr) (kvs : List (Key × V)), xs = [.ref a] ∧ Rd H a (.dK kvs) ∧ ∀ l, H l = none → Q (.ref l) (upd H l (.lst (kvs.map fun e => kV e.1)))
def rUpdK : V → List V → Hp → VK → Prop := fun x xs H Q => ∃ (a b : Addr) (kvs more : List (Key × V)), x = .ref a ∧ xs = [.ref b] ∧ a ≠ b ∧ H a = some (.dK kvs) ∧ Rd H b (.dK more) ∧ kvs.length + more.length ≤ 100000 ∧ Q .non (upd H a (.dK (mergeK kvs more)))
def rDictPK (K : PySem.W.Frag) : List V → Hp → VK → Prop := fun xs H Q => ∃ (a : Addr) (ps : List Addr) (kvs : List (Key × V)), xs = [.ref a] ∧ SqL K H a (ps.map V.ref) ∧ Paired (fun p kv => SqT K H p [kV kv.1, kv.2]) ps kvs ∧ ∀ p, H p = none → Q (.ref p) (upd H p (.dK (mergeK [] kvs)))
section
variable {X : Cx}
/-- dict(zip(xs, ys)), xs a list of unlike tuples -/
def tDZ (K : PySem.W.Frag) (ta : TA) : TE := fun σ H Q => ta σ H fun vs H1 => ∃ (a b : Addr) (ps : List Addr) (kvs : List (List Key × V)), vs = [.ref a, .ref b] ∧ SqL K H1 a (ps.map V.ref) ∧ SqL K H1 b (kvs.map (·.2)) ∧
  Paired (fun p kv => H1 p = some (.tup (kv.1.map kV))) ps kvs ∧ (kvs.map (·.1)).Nodup ∧ ∀ p, H1 p = none → Q (.ref p) (upd H1 p (.dT kvs))
end
/-! in data -/
section
variable {K : PySem.W.Frag} {ρ : Rho}
theorem RepK.keys {Z : Addr → Prop} {H : Hp} : ∀ {kvs : List (Key × V)} {ds : List (Key × D)}, RepK Z H kvs ds → kvs.map (·.1) = ds.map (·.1)
  | _, _, .nil => rfl
  | _, _, .cons _ t => by simp [RepK.keys t]
theorem RepK.len {Z : Addr → Prop} {H : Hp} {kvs : List (Key × V)} {ds : List (Key × D)} (r : RepK Z H kvs ds) : kvs.length = ds.length := by
  have := congrArg List.length r.keys; simpa using this
theorem RepK.app {Z : Addr → Prop} {H : Hp} : ∀ {a b : List (Key × V)} {c d : List (Key × D)}, RepK Z H a c → RepK Z H b d → RepK Z H (a ++ b) (c ++ d)
  | _, _, _, _, .nil, s => s
  | _, _, _, _, .cons r t, s => .cons r (RepK.app t s)
def putKD (kvs : List (Key × D)) (k : Key) (v : D) : List (Key × D) :=
  if (kvs.any fun kv => decide (kv.1 = k)) = true then kvs.map (fun kv => if kv.1 = k then (kv.1, v) else kv) else kvs ++ [(k, v)]
def mergeD (kvs more : List (Key × D)) : List (Key × D) := more.foldl (fun acc kv => putKD acc kv.1 kv.2) kvs
theorem RepK.repl {Z : Addr → Prop} {H : Hp} {k : Key} {v : V} {d : D} (h : Rep Z H v d) : ∀ {kvs : List (Key × V)} {ds : List (Key × D)}, RepK Z H kvs ds → RepK Z H (kvs.map fun kv => if kv.1 = k then (kv.1, v) else kv) (ds.map fun kv => if kv.1 = k then (kv.1, d) else kv)
  | _, _, .nil => .nil
  | _, _, .cons (k := k') r t => by
    rw [List.map_cons, List.map_cons]
    by_cases e : k' = k
    · rw [if_pos e, if_pos e]; exact .cons h (RepK.repl h t)
    · rw [if_neg e, if_neg e]; exact .cons r (RepK.repl h t)
theorem RepK.put {Z : Addr → Prop} {H : Hp} {k : Key} {v : V} {d : D} {kvs : List (Key × V)} {ds : List (Key × D)} (r : RepK Z H kvs ds) (h : Rep Z H v d) : RepK Z H (putK kvs k v) (putKD ds k d) := by
  have e : (kvs.any fun kv => decide (kv.1 = k)) = ds.any fun kv => decide (kv.1 = k) := by
    have := congrArg (fun l => l.any fun z => decide (z = k)) r.keys
    simp only [List.any_map, Function.comp_def] at this
    exact this
  unfold putK putKD
  rw [e]
  split
  · exact r.repl h
  · exact r.app (.cons h .nil)
end
/-! owned dicts with text keys -/
section
variable {ρ : Rho} {μ : Mu} {ta tb te : TE} {Φ : D → Mu → Prop} {N : Rho → Mu → Prop} {R : D → Mu → Prop} {ts us : TS}
end
end Du
namespace Du
open PySem L2
/-! dicts whose keys are tuples of tuples, in data -/
abbrev hN (w : World) : NestedKey → Int := fun k => k.hash w
mutual
theorem nkV_of {Z : Addr → Prop} {H : Hp} : ∀ (k : NestedKey) {v : V}, Rep Z H v (nkD k) → NkV H k v
  | .none, _, r => by unfold nkD at r; cases r; exact .non
  | .num i, _, r => by unfold nkD at r; cases r; exact .int i
  | .text s, _, r => by unfold nkD at r; cases r; exact .str s
  | .tup ks, _, r => by
    unfold nkD at r
    cases r with
    | tup n h rs => exact .tup h (nkVs_of ks rs)
theorem nkVs_of {Z : Addr → Prop} {H : Hp} : ∀ (ks : List NestedKey) {vs : List V}, Reps Z H vs (nkDs ks) → NkVs H ks vs
  | [], _, r => by unfold nkDs at r; cases r; exact .nil
  | k :: ks, _, r => by
    unfold nkDs at r
    cases r with
    | cons r rs => exact .cons (nkV_of k r) (nkVs_of ks rs)
end
theorem RepN.val {Z : Addr → Prop} {H : Hp} {k : NestedKey} : ∀ {es : NEs} {ds : List (NestedKey × D)}, RepN Z H es ds → (∀ {d : D}, valD ds k = some d → ∃ v, nval es k = some v ∧ Rep Z H v d) ∧ (valD ds k = none → nval es k = none)
  | _, _, .nil => ⟨fun h => by simp [valD] at h, fun _ => rfl⟩
  | _, _, .cons (k := k') (v := v) (d := d') hk hd r t => by
    obtain ⟨h1, h2⟩ := RepN.val (k := k) t
    by_cases e : k' = k
    · refine ⟨fun {d} h => ?_, fun h => ?_⟩
      · have : d' = d := by simpa [valD, e] using h
        subst this
        exact ⟨v, by simp [nval, e], r⟩
      · simp [valD, e] at h
    · refine ⟨fun {d} h => ?_, fun h => ?_⟩
      · obtain ⟨w, h3, h4⟩ := h1 (d := d) (by simpa [valD, e] using h)
        exact ⟨w, by simpa [nval, e] using h3, h4⟩
      · have := h2 (by simpa [valD, e] using h)
        simpa [nval, e] using this
theorem RepN.isSome {Z : Addr → Prop} {H : Hp} {es : NEs} {ds : List (NestedKey × D)} (r : RepN Z H es ds) (k : NestedKey) : (nval es k).isSome = (valD ds k).isSome := by
  obtain ⟨h1, h2⟩ := r.val (k := k)
  cases h : valD ds k with
  | none => rw [h2 h]; rfl
  | some d => obtain ⟨v, e, _⟩ := h1 h; rw [e]; rfl
theorem RepN.len {Z : Addr → Prop} {H : Hp} : ∀ {es : NEs} {ds : List (NestedKey × D)}, RepN Z H es ds → es.length = ds.length
  | _, _, .nil => rfl
  | _, _, .cons _ _ _ t => by simp [RepN.len t]
theorem RepN.any {Z : Addr → Prop} {H : Hp} {k : NestedKey} : ∀ {es : NEs} {ds : List (NestedKey × D)}, RepN Z H es ds → (es.any fun e => decide (e.1 = k)) = ds.any fun e => decide (e.1 = k)
  | _, _, .nil => rfl
  | _, _, .cons _ _ _ t => by rw [List.any_cons, List.any_cons, RepN.any t]
def putG {κ : Type} [DecidableEq κ] (kvs : List (κ × D)) (k : κ) (v : D) : List (κ × D) :=
  if (kvs.any fun kv => decide (kv.1 = k)) = true then kvs.map (fun kv => if kv.1 = k then (kv.1, v) else kv) else kvs ++ [(k, v)]
theorem RepN.repl {Z : Addr → Prop} {H : Hp} {k : NestedKey} {v : V} {d : D} (h : Rep Z H v d) : ∀ {es : NEs} {ds : List (NestedKey × D)}, RepN Z H es ds → RepN Z H (es.map fun e => if e.1 = k then (e.1, e.2.1, v) else e) (ds.map fun kv => if kv.1 = k then (kv.1, d) else kv)
  | _, _, .nil => .nil
  | _, _, .cons (k := k') hk hd r t => by
    rw [List.map_cons, List.map_cons]
    by_cases e : k' = k
    · rw [if_pos e, if_pos e]; exact .cons hk hd h (RepN.repl h t)
    · rw [if_neg e, if_neg e]; exact .cons hk hd r (RepN.repl h t)
theorem RepN.app {Z : Addr → Prop} {H : Hp} : ∀ {a b : NEs} {c d : List (NestedKey × D)}, RepN Z H a c → RepN Z H b d → RepN Z H (a ++ b) (c ++ d)
  | _, _, _, _, .nil, s => s
  | _, _, _, _, .cons hk hd r t, s => .cons hk hd r (RepN.app t s)
theorem RepN.put {Z : Addr → Prop} {H : Hp} {k : NestedKey} {b : Addr} {v : V} {d : D} {es : NEs} {ds : List (NestedKey × D)} (r : RepN Z H es ds) (hk : Rep Z H (.ref b) (nkD k)) (hd : k.depth ≤ 8) (h : Rep Z H v d) : RepN Z H (nput es k b v) (putG ds k d) := by
  unfold nput putG
  rw [r.any]
  split
  · exact r.repl h
  · exact r.app (.cons hk hd h .nil)
theorem RepT.repl {Z : Addr → Prop} {H : Hp} {k : List Key} {v : V} {d : D} (h : Rep Z H v d) : ∀ {es : List (List Key × V)} {ds : List (List Key × D)}, RepT Z H es ds → RepT Z H (es.map fun e => if e.1 = k then (e.1, v) else e) (ds.map fun kv => if kv.1 = k then (kv.1, d) else kv)
  | _, _, .nil => .nil
  | _, _, .cons (k := k') r t => by
    rw [List.map_cons, List.map_cons]
    by_cases e : k' = k
    · rw [if_pos e, if_pos e]; exact .cons h (RepT.repl h t)
    · rw [if_neg e, if_neg e]; exact .cons r (RepT.repl h t)
theorem RepT.put {Z : Addr → Prop} {H : Hp} {k : List Key} {v : V} {d : D} {es : List (List Key × V)} {ds : List (List Key × D)} (r : RepT Z H es ds) (h : Rep Z H v d) : RepT Z H (putK es k v) (putG ds k d) := by
  have e : (es.any fun kv => decide (kv.1 = k)) = ds.any fun kv => decide (kv.1 = k) := by
    have := congrArg (fun l => l.any fun z => decide (z = k)) r.keys
    simp only [List.any_map, Function.comp_def] at this
    exact this
  unfold putK putG
  rw [e]
  split
  · exact r.repl h
  · exact r.app (.cons h .nil)
section
variable {ρ : Rho} {μ : Mu} {w : World} {ta tb te td ty tv : TE} {Φ : D → Mu → Prop} {N : Rho → Mu → Prop} {R : D → Mu → Prop} {ts us : TS} {kvs : List (NestedKey × D)} {k : NestedKey} {ks : List NestedKey} {z c c1 c2 : D}
/-! new things, owned -/
def EvF (te : TE) (ρ : Rho) (c : D) : Prop := ∀ (Z : Addr → Prop) (σ : L2.St) (H : Hp) (Q : VK), okZ Z H → SRep Z H σ ρ → (∀ a H1 o, Ex H H1 → H1 a = none → isTup o = false → Cont (fun b => Z b ∨ b = a) (upd H1 a o) a c → Q (.ref a) (upd H1 a o)) → te σ H Q
theorem ef_lst {ta : TA} {ds : List D} (h : EvA ta ρ ds) (hz : ds.length ≤ 100000) : EvF (tLst ta) ρ (.lst ds) := fun Z σ H Q k s q =>
  h Z σ H _ k s fun vs H1 x1 r1 => ⟨Nat.le_trans (by rw [r1.len]; exact hz) (by decide), fun p hp => q p H1 _ x1 hp rfl (.lst upd_same ((r1.zs fun b z => z.imp id fun (e : b = p) => by rw [e]; exact hp).mono (Ext.new hp)))⟩
theorem ef_nil : EvF (tLst tNil) ρ (.lst []) := ef_lst ev_nil (by decide)
def isTab : D → Bool
  | .str _ => true
  | _ => false
theorem Cont.rep {Z Z' : Addr → Prop} {H : Hp} {a : Addr} {c : D} (h : Cont Z H a c) (ht : isTab c = false) (na : ¬ Z' a) (hz : ∀ b, Z' b → Z b) : Rep Z' H (.ref a) c := by
  cases h with
  | lst h r => exact .lst na h (r.zs fun b z => .inl (hz b z))
  | ins h r => exact .ins na h (r.zs fun b z => .inl (hz b z))
  | dK h r => exact .dK na (.inl h) (r.zs fun b z => .inl (hz b z))
  | dT h r => exact .dT na (.inl h) (r.zs fun b z => .inl (hz b z))
  | dN h r => exact .dN na h (r.zs fun b z => .inl (hz b z))
  | tbl h t r => cases ht
end
end Du
namespace Du
open PySem L2 PySem.Spec PyProof.Rows
section
variable {P : Program} {w : World} {A : Around} {E : Value → Shared → Prop} {s : Shared} {a : Addr} {L : List Str}
end
section
variable {X : Cx} {K : PySem.W.Frag} {w : World}
def rSetTxtT (K : PySem.W.Frag) (w : World) : List V → Hp → VK → Prop := fun xs H Q => ∃ (a : Addr) (ys : List Str), xs = [V.ref a] ∧ SqT K H a (ys.map V.str) ∧ ys.length + 1 < scanBound ∧ ∀ p, H p = none → Q (.ref p) (upd H p (TxtO w p (addAll [] ys)))
/-- set(xs), a list or a tuple -/
def rSetTxtU (K : PySem.W.Frag) (w : World) : List V → Hp → VK → Prop := fun xs H Q => rSetTxt K w xs H Q ∨ rSetTxtT K w xs H Q
def rLenTxt (w : World) : List V → Hp → VK → Prop := fun vs H Q => ∃ (a : Addr) (L : List Str), vs = [V.ref a] ∧ H a = some (TxtO w a L) ∧ Q (.int (L.length : Nat)) H
end
end Du
namespace Du
open PySem L2 PySem.Spec PyProof.Rows
/-! enumerate(t), t a tuple -/
abbrev tupIt (t : Addr) : Obj := { cls := .type "tuple_iterator", data := .fields #[.ref t, .int 0 0] }
abbrev enmOb (it : Addr) : Obj := { cls := .type "enumerate", data := .fields #[.none, .bool false, .ref it, rawInt 0, .none, .none] }
section
variable {prog : Program} {w : World} {A : Around} {E : Value → Shared → Prop} {s : Shared}
end
/-- the tuple at a, each item in a new pair -/
def IteT (K : PySem.W.Frag) (a : Addr) : It :=
  ⟨fun i H => ∃ (xs : List V) (x : V), SqT K H a xs ∧ xs[i]? = some x, fun i H v H' => ∃ T x, v = .ref T ∧ H T = none ∧ H' = upd H T (.tup [.int (i : Nat), x]) ∧ ∀ xs, SqT K H a xs → xs[i]? = some x, fun i H => ∃ xs : List V, SqT K H a xs ∧ xs.length ≤ i⟩
def iEnumA (K : PySem.W.Frag) (ta : TA) : TI := fun σ H R => ta σ H fun vs H1 => ∃ a xs, vs = [.ref a] ∧ ((SqL K H1 a xs ∧ R (Ite K a) H1) ∨ (SqT K H1 a xs ∧ R (IteT K a) H1))
section
variable {ρ : Rho} {ds : List D}
end
end Du
namespace Du
open PySem L2
section
variable {ρ : Rho} {μ : Mu} {w : World} {ta tb te td ty tv : TE} {Φ : D → Mu → Prop} {N : Rho → Mu → Prop} {R : D → Mu → Prop} {ts us : TS} {d z c : D} {ds es : List D}
/-! extend -/
/-! zip of tuples -/
/-! things that are owned from now on, in rows of assignments -/
def Grow (Zb : Addr → Prop) (Hb : Hp) (μb : Mu) (Z : Addr → Prop) (H : Hp) (μ : Mu) (D : Mu → Mu → Prop) : Prop := ∀ (Z' : Addr → Prop) (H' : Hp) (μ' μ'' : Mu), Nz Z H μ Z' H' μ' → D μ' μ'' → ∃ Z'' : Addr → Prop, (∀ b, Z'' b → Z' b) ∧ Nz Zb Hb μb Z'' H' μ''
def GO (te : TE) (ρ : Rho) (μ : Mu) (D0 : Mu → Mu → Prop) (Φ : D → Mu → (Mu → Mu → Prop) → Prop) : Prop := ∀ (Zb : Addr → Prop) (Hb : Hp) (μb : Mu) (Z : Addr → Prop) (σ : L2.St) (H : Hp) (Q : VK), Grow Zb Hb μb Z H μ D0 → okZ Z H → SRep Z H σ ρ → Mem Z H μ →
  (∀ v Z1 H1 d μ1 D1, Φ d μ1 D1 → Grow Zb Hb μb Z1 H1 μ1 D1 → (∀ v d, Rep Z H v d → Rep Z1 H1 v d) → okZ Z1 H1 → Mem Z1 H1 μ1 → Rep Z1 H1 v d → Q v H1) → te σ H Q
def GOA (ta : TA) (ρ : Rho) (μ : Mu) (D0 : Mu → Mu → Prop) (Φ : List D → Mu → (Mu → Mu → Prop) → Prop) : Prop := ∀ (Zb : Addr → Prop) (Hb : Hp) (μb : Mu) (Z : Addr → Prop) (σ : L2.St) (H : Hp) (Q : List V → Hp → Prop), Grow Zb Hb μb Z H μ D0 → okZ Z H → SRep Z H σ ρ → Mem Z H μ →
  (∀ vs Z1 H1 ds μ1 D1, Φ ds μ1 D1 → Grow Zb Hb μb Z1 H1 μ1 D1 → (∀ v d, Rep Z H v d → Rep Z1 H1 v d) → okZ Z1 H1 → Mem Z1 H1 μ1 → Reps Z1 H1 vs ds → Q vs H1) → ta σ H Q
variable {D0 : Mu → Mu → Prop} {Φo : D → Mu → (Mu → Mu → Prop) → Prop} {Φl : List D → Mu → (Mu → Mu → Prop) → Prop}
theorem SRep.byRep {Z Z1 : Addr → Prop} {H H1 : Hp} {σ : L2.St} (s : SRep Z H σ ρ) (h : ∀ v d, Rep Z H v d → Rep Z1 H1 v d) : SRep Z1 H1 σ ρ := ⟨s.1, fun i d hi => let ⟨v, e, r⟩ := s.2 i d hi; ⟨v, e, h v d r⟩⟩
theorem Reps.byRep {Z Z1 : Addr → Prop} {H H1 : Hp} (h : ∀ v d, Rep Z H v d → Rep Z1 H1 v d) : ∀ {vs : List V} {ds : List D}, Reps Z H vs ds → Reps Z1 H1 vs ds
  | _, _, .nil => .nil
  | _, _, .cons r rs => .cons (h _ _ r) (rs.byRep h)
theorem Grow.ex {Zb Z : Addr → Prop} {Hb H H1 : Hp} {μb : Mu} (g : Grow Zb Hb μb Z H μ D0) (k : okZ Z H) (m : Mem Z H μ) (x : Ex H H1) : Grow Zb Hb μb Z H1 μ D0 := fun Z' H' μ' μ'' z d => g Z' H' μ' μ'' (((Nxt.exs m x).nz k).tr z) d
end
end Du
namespace Du
open PySem L2 PySem.Spec PyProof.Rows
/-! repr of plain data, where nothing is being shown -/
def rRepr (K : PySem.W.Frag) : List V → Hp → VK → Prop := fun vs H Q => ∃ (a : Addr) (d : PyData), vs = [.ref a] ∧ Dp K H (.ref a) d ∧ d.showable = true ∧ d.hasDict = false ∧ d.depth ≤ 20 ∧ d.shown.length ≤ sizeLine ∧ Q (.str d.shown) H
mutual
/-- texts alone, in lists and tuples -/
def tx : D → Bool
  | .str s => PyData.strOk s
  | .lst xs => txs xs
  | .tup xs => txs xs
  | _ => false
def txs : List D → Bool
  | [] => true
  | x :: xs => tx x && txs xs
end
mutual
theorem show_of : ∀ d : D, tx d = true → (toP d).showable = true ∧ (toP d).hasDict = false ∧ pl d = true ∧ (toP d).intsShort 8 = true
  | .str s, h => ⟨by simp [toP, PyData.showable], by simp [toP, PyData.hasDict], by simpa [pl, tx] using h, by simp [toP, PyData.intsShort]⟩
  | .lst xs, h => by simp only [toP, PyData.showable, PyData.hasDict, pl, PyData.intsShort]; exact shows_of xs (by simpa [tx] using h)
  | .tup xs, h => by simp only [toP, PyData.showable, PyData.hasDict, pl, PyData.intsShort]; exact shows_of xs (by simpa [tx] using h)
  | .non, h => by simp [tx] at h
  | .bl _, h => by simp [tx] at h
  | .int _, h => by simp [tx] at h
  | .dT _, h => by simp [tx] at h
  | .dK _, h => by simp [tx] at h
  | .dN _ _, h => by simp [tx] at h
  | .ins _ _, h => by simp [tx] at h
  | .ptr _, h => by simp [tx] at h
  | .ty _, h => by simp [tx] at h
theorem shows_of : ∀ xs : List D, txs xs = true → PyData.showableAll (toPs xs) = true ∧ PyData.hasDictAll (toPs xs) = false ∧ pls xs = true ∧ PyData.intsShortAll 8 (toPs xs) = true
  | [], _ => by simp [toPs, PyData.showableAll, PyData.hasDictAll, pls, PyData.intsShortAll]
  | x :: xs, h => by
    have h' : tx x = true ∧ txs xs = true := by simpa [txs] using h
    have := show_of x h'.1
    have := shows_of xs h'.2
    simp_all [toPs, PyData.showableAll, PyData.hasDictAll, pls, PyData.intsShortAll]
end
/-! a law's def at the call from outside, where nothing is being shown -/
structure FnG (P : Program) (w : World) (K : PySem.W.Frag) (mg : Str → Option Value) (base : Heap) (k : Nat) (f : Addr) (fd : FuncData) (ps : List Str) (sp : Sp) : Prop where
  run : ∀ (s : Shared) (H : Hp) (args : Args) (us : List Value) (vs : List V) (Q : VK) (E : XK), Room k callerA → Env0 P w K mg base callerA [] s H → BindsTo s fd args (ps.zip us) → Vals vs us → sp vs H Q E →
    codeAny (model P w) callerA (.call (.ref f) args) (CR CX0 [] P w H s Q E) s
section
variable {P : Program} {w : World} {K : PySem.W.Frag} {mg : Str → Option Value} {base : Heap}
end
end Du
namespace Du
open PySem L2
end Du
namespace Du
open PySem L2
section
variable {ρ : Rho} {te td ty tk tv : TE} {tt : TT}
theorem RepK.val {Z : Addr → Prop} {H : Hp} {k : Key} : ∀ {kvs : List (Key × V)} {ds : List (Key × D)}, RepK Z H kvs ds → ∀ {d : D}, valD ds k = some d → ∃ v, valV kvs k = some v ∧ Rep Z H v d
  | _, _, .nil, d, h => by simp [valD] at h
  | _, _, .cons (k := k') (v := v) (d := d') r t, d, h => by
    by_cases e : k' = k
    · have : d' = d := by simpa [valD, e] using h
      subst this
      exact ⟨v, by simp [valV, e], r⟩
    · obtain ⟨w, h1, h2⟩ := RepK.val (d := d) (k := k) t (by simpa [valD, e] using h)
      exact ⟨w, by simpa [valV, e] using h1, h2⟩
/-- d[k], k a text -/
theorem ev_kget {kvs : List (Key × D)} {k : Str} {z : D} (hd : Ev td ρ (.dK kvs)) (hk : Ev ty ρ (.str k)) (hv : valD kvs (.inr k) = some z) : Ev (tDGet td ty) ρ z := fun Z σ H Q ok s q =>
  hd Z σ H _ ok s fun x H1 x1 r1 => hk Z σ H1 _ (ok.ex x1) (s.mono x1.to) fun y H2 x2 r2 => by
    cases r2
    cases r1.mono (x2.to (Z := Z)) with
    | dK n h rs =>
      obtain ⟨v, e1, e2⟩ := rs.val hv
      exact ⟨_, v, rfl, .inl ⟨_, .inr k, h, rfl, e1.symm⟩, q v H2 (x1.tr x2) e2⟩
/-! a dict comprehension whose keys are unlike texts -/
/-! an owned instance, read as data for a while -/
mutual
def noIns : D → Bool
  | .ins _ _ => false
  | .lst xs => noInss xs
  | .tup xs => noInss xs
  | .dT kvs => noInsT kvs
  | .dK kvs => noInsK kvs
  | .dN _ _ => false
  | _ => true
def noInss : List D → Bool
  | [] => true
  | x :: xs => noIns x && noInss xs
def noInsT : List (List Key × D) → Bool
  | [] => true
  | (_, x) :: xs => noIns x && noInsT xs
def noInsK : List (Key × D) → Bool
  | [] => true
  | (_, x) :: xs => noIns x && noInsK xs
end
mutual
theorem Rep.back {Z : Addr → Prop} {H : Hp} {a C dx : Addr} {fs : List (Str × V)} (ha : H a = some (.ins C dx fs)) : ∀ {v : V} {d : D}, Rep (fun b => Z b ∧ b ≠ a) H v d → noIns d = true → Rep Z H v d
  | _, _, .non, _ => .non
  | _, _, .bl b, _ => .bl b
  | _, _, .int i, _ => .int i
  | _, _, .str s, _ => .str s
  | _, _, .lst n h r, q => .lst (fun z => n ⟨z, fun e => by rw [e, ha] at h; cases h⟩) h (Reps.back ha r (by simpa [noIns] using q))
  | _, _, .tup n h r, q => .tup (fun z => n ⟨z, fun e => by rw [e, ha] at h; cases h⟩) h (Reps.back ha r (by simpa [noIns] using q))
  | _, _, .dT n h r, q => .dT (fun z => n ⟨z, fun e => by rcases h with h | ⟨o, h⟩ <;> (rw [e, ha] at h; cases h)⟩) h (RepT.back ha r (by simpa [noIns] using q))
  | _, _, .dK n h r, q => .dK (fun z => n ⟨z, fun e => by rcases h with h | ⟨o, h⟩ <;> (rw [e, ha] at h; cases h)⟩) h (RepK.back ha r (by simpa [noIns] using q))
  | _, _, .dN n h r, q => by simp [noIns] at q
  | _, _, .ins n h r, q => by simp [noIns] at q
  | _, _, .ptr b, _ => .ptr b
  | _, _, .ty n, _ => .ty n
theorem Reps.back {Z : Addr → Prop} {H : Hp} {a C dx : Addr} {fs : List (Str × V)} (ha : H a = some (.ins C dx fs)) : ∀ {v : List V} {d : List D}, Reps (fun b => Z b ∧ b ≠ a) H v d → noInss d = true → Reps Z H v d
  | _, _, .nil, _ => .nil
  | _, _, .cons r t, q => by
    rw [noInss, Bool.and_eq_true] at q
    exact .cons (Rep.back ha r q.1) (Reps.back ha t q.2)
theorem RepT.back {Z : Addr → Prop} {H : Hp} {a C dx : Addr} {fs : List (Str × V)} (ha : H a = some (.ins C dx fs)) : ∀ {v : List (List Key × V)} {d : List (List Key × D)}, RepT (fun b => Z b ∧ b ≠ a) H v d → noInsT d = true → RepT Z H v d
  | _, _, .nil, _ => .nil
  | _, _, .cons r t, q => by
    rw [noInsT, Bool.and_eq_true] at q
    exact .cons (Rep.back ha r q.1) (RepT.back ha t q.2)
theorem RepK.back {Z : Addr → Prop} {H : Hp} {a C dx : Addr} {fs : List (Str × V)} (ha : H a = some (.ins C dx fs)) : ∀ {v : List (Key × V)} {d : List (Key × D)}, RepK (fun b => Z b ∧ b ≠ a) H v d → noInsK d = true → RepK Z H v d
  | _, _, .nil, _ => .nil
  | _, _, .cons r t, q => by
    rw [noInsK, Bool.and_eq_true] at q
    exact .cons (Rep.back ha r q.1) (RepK.back ha t q.2)
end
end
end Du
namespace Du
open PySem L2 PySem.Spec PyProof.Rows
/-! == of dicts, entry by entry: what each key's look-up finds, and how its values compare -/
section
variable {prog : Program} {w : World} {A : Around} {E : Value → Shared → Prop} {s : Shared}
inductive HitsI (prog : Program) (w : World) (A : Around) (s : Shared) (b : Addr) (e2 : Array DictEntry) : List DictEntry → Bool → Prop
  | nil : HitsI prog w A s b e2 [] true
  | miss {x : DictEntry} {r : List DictEntry} : (∀ (E : Value → Shared → Prop) (Q : Option Nat → Shared → Prop), Q none s → wpAny (model prog w) A (dictFind b x.key x.hash) Q E s) → HitsI prog w A s b e2 (x :: r) false
  | hit {x y : DictEntry} {j : Nat} {r : List DictEntry} {e c : Bool} : (∀ (E : Value → Shared → Prop) (Q : Option Nat → Shared → Prop), Q (some j) s → wpAny (model prog w) A (dictFind b x.key x.hash) Q E s) → e2[j]? = some y → SeqAt.EqP prog w A s x.val y.val e → HitsI prog w A s b e2 r c → HitsI prog w A s b e2 (x :: r) (e && c)
end
end Du
namespace Du
open PySem L2 PySem.Spec PyProof.Rows
/-! == of dicts by texts whose values are plain, or dicts with tuple keys -/
def eqTr (ks ls : List (List Key × V)) (f g : List Key → PyData) : Bool := ks.length == ls.length && ks.all fun p => ls.any (fun q => decide (q.1 = p.1)) && PyData.eqv (f p.1) (g p.1)
inductive EqV (K : PySem.W.Frag) (H : Hp) : V → V → Bool → Prop
  | plain {x y : V} {d e : PyData} : Dp K H x d → Dp K H y e → SeqAt.shaped d = true → SeqAt.shaped e = true → EqV K H x y (PyData.eqv d e)
  | dT {a b : Addr} {ks ls : List (List Key × V)} {f g : List Key → PyData} : Rd H a (.dT ks) → Rd H b (.dT ls) → (∀ p ∈ ks, Dp K H p.2 (f p.1) ∧ SeqAt.shaped (f p.1) = true) → (∀ p ∈ ls, Dp K H p.2 (g p.1) ∧ SeqAt.shaped (g p.1) = true) → EqV K H (.ref a) (.ref b) (eqTr ks ls f g)
section
variable {X : Cx} {pins : List (Addr × Obj)} {σ : L2.St} {H : Hp} {s : Shared} {A : Around}
/-- d == e, their keys texts or numbers -/
def rEqKV (K : PySem.W.Frag) : R2 := fun x y H Q => ∃ (a b : Addr) (ks ls : List (Key × V)) (rr : Key → Bool), x = .ref a ∧ y = .ref b ∧ Rd H a (.dK ks) ∧ Rd H b (.dK ls) ∧ (∀ p ∈ ks, ∀ z, valV ls p.1 = some z → EqV K H p.2 z (rr p.1)) ∧
  Q (.bl (ks.length == ls.length && ks.all fun p => (valV ls p.1).isSome && rr p.1)) H
end
end Du
namespace Du
open PySem L2 PySem.Spec PyProof.Rows
/-! == of dicts whose keys are tuples of tuples, their values plain -/
section
variable {X : Cx}
def rEqN (K : PySem.W.Frag) (w : World) : R2 := fun x y H Q => ∃ (a b : Addr) (es fs : NEs) (f g : NestedKey → PyData), x = .ref a ∧ y = .ref b ∧ (∃ ob, H a = some (NDO (hN w) a es ob)) ∧ (∃ ob, H b = some (NDO (hN w) b fs ob)) ∧ NKeys H es ∧ NKeys H fs ∧
  (∀ p ∈ es, Dp K H p.2.2 (f p.1) ∧ SeqAt.shaped (f p.1) = true) ∧ (∀ p ∈ fs, Dp K H p.2.2 (g p.1) ∧ SeqAt.shaped (g p.1) = true) ∧
  Q (.bl (es.length == fs.length && es.all fun p => (nval fs p.1).isSome && PyData.eqv (f p.1) (g p.1))) H
end
/-! in data -/
theorem RepN.pl {K : PySem.W.Frag} {Z : Addr → Prop} {H : Hp} {f : NestedKey → D} : ∀ {es : NEs} {ds : List (NestedKey × D)}, RepN Z H es ds → (∀ p ∈ ds, p.2 = f p.1 ∧ okE (f p.1)) → ∀ p ∈ es, Dp K H p.2.2 (toP (f p.1)) ∧ SeqAt.shaped (toP (f p.1)) = true
  | _, _, .nil, _, p, hp => nomatch hp
  | _, _, .cons (k := k) (v := v) (d := d) hk hd r t, hf, p, hp => by
    rcases List.mem_cons.mp hp with rfl | hp
    · have := hf _ List.mem_cons_self
      dsimp only at this ⊢
      rw [← this.1]
      have h2 : okE d := this.1 ▸ this.2
      exact ⟨dp_of r h2.1, h2.sh⟩
    · exact RepN.pl t (fun q hq => hf q (List.mem_cons_of_mem _ hq)) p hp
end Du
namespace Du
open PySem L2
/-! the empty tuple of the written part: a default value -/
def KT0 (K : PySem.W.Frag) (p : Addr) : Prop := ∃ (o : Obj) (n : Nat), K.lookup p = some o ∧ o.cls = .type "tuple" ∧ o.data = .seq #[] n
theorem KT0.sq {K : PySem.W.Frag} {p : Addr} (h : KT0 K p) (H : Hp) : SqT K H p [] := by
  obtain ⟨o, n, h1, h2, h3⟩ := h
  exact .inr ⟨o, #[], n, h1, h2, h3, by decide, .nil⟩
/-- things one behind another: a list, a tuple, or that empty tuple -/
def sqP (K : PySem.W.Frag) (e : D) (ds : List D) : Prop := e = .lst ds ∨ e = .tup ds ∨ ∃ p, e = .ptr p ∧ KT0 K p ∧ ds = []
section
variable {K : PySem.W.Frag} {ρ : Rho} {μ : Mu} {te ta tb : TE} {d e z : D} {ds : List D} {Φ : D → Mu → Prop} {N : Rho → Mu → Prop} {R : D → Mu → Prop}
/-! slices -/
/-! a def with defaults -/
theorem FunD.ok0 {P : Program} {w : World} {mg : Str → Option Value} {base : Heap} {x qual : Str} {st : Stmt} {dvs : List V} {kws : List (Str × V)} {f : Addr} {fd : FuncData} {N ps : List Str} {k : Nat} {sp : Sp} (F : FunD K x qual (defArgs st) (defBody st) (defScope st) dvs kws f fd) (S : FnScope N ps (defScope st)) (len : ∀ vs H Q E, sp vs H Q E → vs.length = ps.length)
    (hbody : ∀ (cdv : Value) (A : Around) (outer : List Env) (s : Shared) (H : Hp) (vs : List V) (Q : VK) (E : XK), Room k (A.deeper (PyProof.Rows.envOfC qual (defScope st) s.heap.objs.size f cdv)) → sp vs H Q E →
      ∃ t, PSs (cxOf CX0 P w K mg base N qual (defScope st) f cdv A outer s H E).nox (defBody st) t ∧ t { nx := fun _ H' => Q .non H', rt := Q } (start N vs) H) : FnOk P w K mg base CX0 (k + 1) f fd ps sp :=
  FunD.ok F S len fun cdv A outer s H vs Q E hr hsp => by
    obtain ⟨t, h, q⟩ := hbody cdv A outer s H vs Q E hr hsp
    exact ⟨t, h.nox, q⟩
end
end Du
namespace Du
open PySem L2
/-! unpacking a list or a tuple -/
def gTL (K : PySem.W.Frag) (n : Nat) (t : TGs) : TG := fun v σ H Q => gTup K n t v σ H Q ∨ gUnl K n t v σ H Q
section
variable {K : PySem.W.Frag} {ρ : Rho} {ds : List D}
end
end Du
namespace Du
open PySem L2 PySem.Spec PyProof.Rows
/-! d.items() where the keys are tuples -/
def Itit (d : Addr) (o : Obj) (kvs : List (List Key × V)) : It :=
  ⟨fun i H => H d = some (.frz o (.dT kvs)) ∧ i < kvs.length, fun i H x H' => ∃ (T : Addr) (k : List Key) (v : V) (q : Addr), kvs[i]? = some (k, v) ∧ x = .ref T ∧ H T = none ∧ H q = some (.tup (k.map kV)) ∧ H' = upd H T (.tup [.ref q, v]), fun i H => H d = some (.frz o (.dT kvs)) ∧ kvs.length ≤ i⟩
section
variable {X : Cx} {pins : List (Addr × Obj)} {σ : L2.St} {H : Hp} {s : Shared} {d : Addr} {o : Obj}
end
section
variable {P : Program} {w : World} {K : PySem.W.Frag} {d : Addr} {o : Obj} {es : Array DictEntry} {ep : Nat}
end
def iItT (td : TE) : TI := fun σ H R => td σ H fun x H1 => ∃ d o kvs, x = .ref d ∧ H1 d = some (.frz o (.dT kvs)) ∧ R (Itit d o kvs) H1
def iItA (td : TE) : TI := fun σ H R => iItems td σ H R ∨ iItT td σ H R
section
variable {X : Cx} {e : Expr} {td : TE} {apos cpos : Pos}
end
/-! what is read without a change, whatever is locked -/
def EvX (te : TE) (ρ : Rho) (d : D) : Prop := ∀ (Z : Addr → Prop) (σ : L2.St) (H : Hp), okZ Z H → SRep Z H σ ρ → ∃ v, Rep Z H v d ∧ ∀ (H' : Hp) (Q : VK), ExtW Z H H' → okZ Z H' → Q v H' → te σ H' Q
section
variable {K : PySem.W.Frag} {ρ : Rho} {μ : Mu} {te ta tb td ty : TE} {tt : TT} {d e z : D} {ds : List D} {ts : TS} {Φ : D → Mu → Prop} {N : Rho → Mu → Prop} {R : D → Mu → Prop}
theorem ExtW.rf {Z : Addr → Prop} (H : Hp) : ExtW Z H H := fun a o _ h => ⟨o, h, rfl⟩
theorem EvX.ev (h : EvX te ρ d) : Ev te ρ d := fun Z σ H Q k s q => by
  obtain ⟨v, r, f⟩ := h Z σ H k s
  exact f H Q (ExtW.rf H) k (q v H (Ex.rf H) r)
/-! a source that is a dict, locked while it is walked -/
def LkI (wi : TI) (ρ : Rho) (ds : List D) : Prop := ∀ (Z : Addr → Prop) (σ : L2.St) (H : Hp), okZ Z H → SRep Z H σ ρ → ∃ (d : Addr) (u : HO), ¬ Z d ∧ dictO u = true ∧ Mut (some u) ∧ Rd H d u ∧
  ∀ (Hl : Hp) (od : Obj) (Rr : It → Hp → Prop), ExtW Z H Hl → okZ Z Hl → Hl d = some (.frz od u) → (∀ J, DW Z J Hl ds → Rr J Hl) → wi σ Hl Rr
theorem RepT.getV {Z : Addr → Prop} {H : Hp} : ∀ {kvs : List (List Key × V)} {ds : List (List Key × D)} {i : Nat} {k : List Key} {v : V}, RepT Z H kvs ds → kvs[i]? = some (k, v) → ∃ d, ds[i]? = some (k, d) ∧ Rep Z H v d
  | _, _, _, _, _, .nil, e => by simp at e
  | _, _, 0, _, _, .cons r _, e => by simp at e; obtain ⟨rfl, rfl⟩ := e; exact ⟨_, rfl, r⟩
  | _, _, i + 1, k, v, .cons _ t, e => by
    obtain ⟨d, h1, h2⟩ := RepT.getV (i := i) (k := k) (v := v) t (by simpa using e)
    exact ⟨d, by simpa using h1, h2⟩
theorem RepK.getV {Z : Addr → Prop} {H : Hp} : ∀ {kvs : List (Key × V)} {ds : List (Key × D)} {i : Nat} {k : Key} {v : V}, RepK Z H kvs ds → kvs[i]? = some (k, v) → ∃ d, ds[i]? = some (k, d) ∧ Rep Z H v d
  | _, _, _, _, _, .nil, e => by simp at e
  | _, _, 0, _, _, .cons r _, e => by simp at e; obtain ⟨rfl, rfl⟩ := e; exact ⟨_, rfl, r⟩
  | _, _, i + 1, k, v, .cons _ t, e => by
    obtain ⟨d, h1, h2⟩ := RepK.getV (i := i) (k := k) (v := v) t (by simpa using e)
    exact ⟨d, by simpa using h1, h2⟩
end
end Du
namespace Du
open PySem L2 PySem.Spec PyProof.Rows
/-! != of dicts whose keys are tuples of tuples -/
section
variable {κ : Type} [DecidableEq κ] {prog : Program} {w : World} {kd : HeapKind prog w κ} {A : Around} {s : Shared}
end
section
variable {X : Cx}
def rNeN (K : PySem.W.Frag) (w : World) : R2 := fun x y H Q => rEqN K w x y H fun v H' => ∃ b, v = .bl b ∧ Q (.bl (!b)) H'
end
/-! a comprehension with two sources -/
section
variable {ρ : Rho} {te : TE} {tt tt1 : TT}
end
end Du
namespace Du
open PySem L2
section
variable {K : PySem.W.Frag} {ρ : Rho} {μ : Mu} {te ta : TE} {tt : TT} {ts : TS} {g : TG} {Φ : D → Mu → Prop} {N : Rho → Mu → Prop} {R : D → Mu → Prop}
/-- a loop whose source is known as a walk behind something that changes what is owned -/
theorem forW {J : It} {ds : List D} {Z : Addr → Prop} {H H1 : Hp} {μ1 : Mu} {σ : L2.St} {E : Ends} (n1 : Nxt Z H μ H1 μ1) (k : okZ Z H) (m : Mem Z H μ) (s : SRep Z H σ ρ) (W : Walk J ds.length (WG Z H1) (WY Z ds)) (I : Nat → Rho → Mu → Prop) {ρ0 : Rho} (hl : Lq ρ0 ρ) (h0 : I 0 ρ0 μ1)
    (hb : ∀ i d ρi μi, ds[i]? = some d → I i ρi μi → ∃ ρ', GA g d ρi ρ' ∧ GS ts ρ' μi (fun ρ'' μ'' => ∃ ρ1, Lq ρ1 ρ'' ∧ I (i + 1) ρ1 μ'') R) (hn : ∀ ρ' μ', I ds.length ρ' μ' → N ρ' μ')
    (n : ∀ σ' H' ρ' μ' Z', N ρ' μ' → Nz Z H μ Z' H' μ' → SRep Z' H' σ' ρ' → E.nx σ' H') (r : ∀ v H' d μ' Z', R d μ' → Nz Z H μ Z' H' μ' → Rep Z' H' v d → E.rt v H') : tFor (fun _ H R => R J H) g ts E σ H1 := by
  have m1 := n1.mem
  have k1 := n1.ok k
  have s1 := s.mono (n1.to m)
  refine for_it W (fun i σ Hc => ∃ ρi μi Zi, I i ρi μi ∧ Nz Z H1 μ1 Zi Hc μi ∧ SRep Zi Hc σ ρi) ⟨ρ0, μ1, Z, h0, (Nxt.rf m1).nz k1, s1.lq hl⟩ (fun i σ Hc _ ⟨ρi, μi, Zi, _, z, _⟩ => ⟨z.to m1, z.ok0⟩) ?_ fun σ Hc ⟨ρi, μi, Zi, hI, z, si⟩ => n σ Hc ρi μi Zi (hn _ _ hI) ((n1.nz k).tr z) si
  rintro i x σ Hc H' hi ⟨ρi, μi, Zi, hI, z, si⟩ ⟨y1, d, y2, y3⟩
  obtain ⟨ρ', g1, g2⟩ := hb i d ρi μi y2 hI
  have z' : Nz Z H1 μ1 Zi H' μi := z.tr ((Nxt.exs z.mem y1).nz z.ok)
  refine g1 Zi σ H' x _ z'.ok (si.mono y1.to) (y3.zs fun a h => .inl (z.zs a h)) fun σ' s' => ?_
  refine g2 Zi σ' H' _ z'.ok s' z'.mem (fun σ2 H2 ρ2 μ2 Z2 q z2 s2 => ?_) fun v H2 d μ2 Z2 q z2 r2 => r v H2 d μ2 Z2 q ((n1.nz k).tr (z'.tr z2)) r2
  obtain ⟨ρ1, l1, q⟩ := q
  exact ⟨ρ1, μ2, Z2, q, z'.tr z2, s2.lq l1⟩
/-- for i in range(n), n by something that changes what is owned -/
theorem gsE_range {ta : TA} (h : GEA ta ρ μ fun es μ1 => ∃ (c : Nat) (I : Nat → Rho → Mu → Prop) (ρ0 : Rho), es = [.int c] ∧ c < 100000 ∧ Lq ρ0 ρ ∧ I 0 ρ0 μ1 ∧
    (∀ i d ρi μi, ((List.range c).map fun (i : Nat) => D.int i)[i]? = some d → I i ρi μi → ∃ ρ', GA g d ρi ρ' ∧ GS ts ρ' μi (fun ρ'' μ'' => ∃ ρ1, Lq ρ1 ρ'' ∧ I (i + 1) ρ1 μ'') R) ∧ ∀ ρ' μ', I c ρ' μ' → N ρ' μ') : GS (tFor (iRng1 ta) g ts) ρ μ N R := fun Z σ H E k s m n r =>
  h Z σ H _ k s m fun us H1 es μ1 f n1 r0 => by
    obtain ⟨c, I, ρ0, rfl, hc, hl, h0, hb, hn⟩ := f
    cases r0 with
    | cons rr r1 =>
    cases rr; cases r1
    refine ⟨c, rfl, by omega, by omega, ?_⟩
    have W : Walk (Itr 0 c) ((List.range c).map fun (i : Nat) => D.int i).length (WG Z H1) (WY Z ((List.range c).map fun (i : Nat) => D.int i)) := by
      rw [List.length_map, List.length_range]
      refine walk_range.mono (fun _ _ => trivial) fun i Hc x H' hi g y => ?_
      obtain ⟨rfl, rfl⟩ := y
      have hi' : i < c := by simpa using hi
      refine ⟨Ex.rf _, .int i, ?_, by show Rep Z _ (V.int (0 + (i : Int))) _; rw [Int.zero_add]; exact .int i⟩
      rw [List.getElem?_map, List.getElem?_range hi']; rfl
    exact forW n1 k m s W I hl h0 hb (fun ρ' μ' hI => hn ρ' μ' (by simpa using hI)) n r
end
end Du
namespace Du
open PySem L2
section
variable {ρ : Rho} {μ : Mu} {ts us : TS} {N : Rho → Mu → Prop} {R : D → Mu → Prop}
end
end Du
namespace Du
open PySem L2
/-! statements behind which more may be owned than before -/
structure Nw (Z : Addr → Prop) (H : Hp) (μ : Mu) (Z' : Addr → Prop) (H' : Hp) (μ' : Mu) : Prop where
  ext : Ext (dom μ) H H'
  nw : ∀ a, dom μ' a → dom μ a ∨ H a = none
  mem : Mem Z' H' μ'
  ok : okZ Z' H'
  ok0 : okZ Z H'
  zs : ∀ a, Z' a → Z a ∨ H a = none
  zk : ∀ a, Z a → Z' a ∨ (dom μ a ∧ ¬ dom μ' a)
theorem Nz.nw {Z Z' : Addr → Prop} {H H' : Hp} {μ μ' : Mu} (z : Nz Z H μ Z' H' μ') : Nw Z H μ Z' H' μ' := ⟨z.ext, fun a h => .inl (z.dm a h), z.mem, z.ok, z.ok0, fun a h => .inl (z.zs a h), z.zk⟩
theorem Nw.live {Z Z' : Addr → Prop} {H H' : Hp} {μ μ' : Mu} (z : Nw Z H μ Z' H' μ') (m : Mem Z H μ) {a : Addr} (h : H' a = none) : H a = none := by
  cases q : H a with
  | none => rfl
  | some o =>
    by_cases hd : dom μ a
    · obtain ⟨o', e, _⟩ := z.ok0 a (m.dz hd)
      rw [h] at e; cases e
    · have := z.ext a o hd q
      rw [h] at this; cases this
theorem Nw.tr {Z Z1 Z' : Addr → Prop} {H H1 H' : Hp} {μ μ1 μ' : Mu} (k : okZ Z H) (m : Mem Z H μ) (x : Nw Z H μ Z1 H1 μ1) (y : Nw Z1 H1 μ1 Z' H' μ') : Nw Z H μ Z' H' μ' := by
  have back : ∀ a, H1 a = none → H a = none := fun a h => x.live m h
  refine ⟨fun a o hn ho => y.ext a o (fun h => ?_) (x.ext a o hn ho), fun a h => ?_, y.mem, y.ok, fun a z => ?_, fun a h => ?_, fun a z => ?_⟩
  · rcases x.nw a h with h | h
    · exact hn h
    · rw [h] at ho; cases ho
  · rcases y.nw a h with h | h
    · exact x.nw a h
    · exact .inr (back a h)
  · rcases x.zk a z with h | ⟨h1, h2⟩
    · exact y.ok0 a h
    · obtain ⟨o, ho, hi⟩ := x.ok0 a z
      exact ⟨o, y.ext a o h2 ho, hi⟩
  · rcases y.zs a h with h | h
    · exact x.zs a h
    · exact .inr (back a h)
  · rcases x.zk a z with h | ⟨h1, h2⟩
    · rcases y.zk a h with h | ⟨h1, h2⟩
      · exact .inl h
      · rcases x.nw a h1 with h3 | h3
        · exact .inr ⟨h3, h2⟩
        · obtain ⟨o, ho, _⟩ := k a z
          rw [h3] at ho; cases ho
    · refine .inr ⟨h1, fun h => h2 ?_⟩
      rcases y.nw a h with h | h
      · exact h
      · obtain ⟨o, ho, _⟩ := x.ok0 a z
        rw [h] at ho; cases ho
theorem Nw.to {Z Z' : Addr → Prop} {H H' : Hp} {μ μ' : Mu} (n : Nw Z H μ Z' H' μ') (m : Mem Z H μ) : Ext Z H H' := n.ext.wk fun a h => m.dz h
theorem Nw.rep {Z Z' : Addr → Prop} {H H' : Hp} {μ μ' : Mu} (n : Nw Z H μ Z' H' μ') (m : Mem Z H μ) {v : V} {d : D} (r : Rep Z H v d) : Rep Z' H' v d :=
  ((r.zs (Z' := fun a => Z a ∨ Z' a) fun a h => h.elim .inl (n.zs a)).mono fun a o hn ho => n.ext a o (fun h => hn (.inl (m.dz h))) ho).zs fun a z => .inl (.inr z)
theorem Nw.reps {Z Z' : Addr → Prop} {H H' : Hp} {μ μ' : Mu} (n : Nw Z H μ Z' H' μ') (m : Mem Z H μ) {v : List V} {d : List D} (r : Reps Z H v d) : Reps Z' H' v d := r.byRep fun _ _ h => n.rep m h
theorem Nw.srep {Z Z' : Addr → Prop} {H H' : Hp} {μ μ' : Mu} {σ : L2.St} {ρ : Rho} (n : Nw Z H μ Z' H' μ') (m : Mem Z H μ) (s : SRep Z H σ ρ) : SRep Z' H' σ ρ := s.byRep fun _ _ h => n.rep m h
def GN (ts : TS) (ρ : Rho) (μ : Mu) (N : Rho → Mu → Prop) (R : D → Mu → Prop) : Prop := ∀ (Z : Addr → Prop) (σ : L2.St) (H : Hp) (E : Ends), okZ Z H → SRep Z H σ ρ → Mem Z H μ →
  (∀ σ' H' ρ' μ' Z', N ρ' μ' → Nw Z H μ Z' H' μ' → SRep Z' H' σ' ρ' → E.nx σ' H') → (∀ v H' d μ' Z', R d μ' → Nw Z H μ Z' H' μ' → Rep Z' H' v d → E.rt v H') → ts E σ H
section
variable {K : PySem.W.Frag} {ρ : Rho} {μ : Mu} {te ta : TE} {ts us : TS} {g : TG} {c : D} {Φ : D → Mu → Prop} {N N' : Rho → Mu → Prop} {R R' : D → Mu → Prop}
theorem gn_gs (h : GS ts ρ μ N R) : GN ts ρ μ N R := fun Z σ H E k s m n r => h Z σ H E k s m (fun σ' H' ρ' μ' Z' q z => n σ' H' ρ' μ' Z' q z.nw) fun v H' d μ' Z' q z => r v H' d μ' Z' q z.nw
theorem gn_seq (h : GN ts ρ μ (fun ρ' μ' => GN us ρ' μ' N R) R) : GN (tSeq ts us) ρ μ N R := fun Z σ H E k s m n r =>
  h Z σ H _ k s m (fun σ' H' ρ' μ' Z' f z s' => f Z' σ' H' E z.ok s' z.mem (fun σ2 H2 ρ2 μ2 Z2 q z2 s2 => n σ2 H2 ρ2 μ2 Z2 q (z.tr k m z2) s2) fun v H2 d μ2 Z2 q z2 r2 => r v H2 d μ2 Z2 q (z.tr k m z2) r2) r
/-- a statement of the older kind, then one of this kind -/
theorem gn_sq (h : GS ts ρ μ (fun ρ' μ' => GN us ρ' μ' N R) R) : GN (tSeq ts us) ρ μ N R := gn_seq (gn_gs h)
theorem GN.mono (h : GN ts ρ μ N R) (hn : ∀ ρ μ, N ρ μ → N' ρ μ) (hr : ∀ d μ, R d μ → R' d μ) : GN ts ρ μ N' R' := fun Z σ H E k s m n r => h Z σ H E k s m (fun σ' H' ρ' μ' Z' q => n σ' H' ρ' μ' Z' (hn _ _ q)) fun v H' d μ' Z' q => r v H' d μ' Z' (hr _ _ q)
theorem gn_mid (M : Rho → Mu → Prop) (h : GN ts ρ μ M R) (f : ∀ ρ' μ', M ρ' μ' → GN us ρ' μ' N R) : GN (tSeq ts us) ρ μ N R := gn_seq (h.mono f fun _ _ h => h)
theorem gn_lq {ρ' : Rho} (l : Lq ρ' ρ) (h : GN ts ρ' μ N R) : GN ts ρ μ N R := fun Z σ H E k s m n r => h Z σ H E k (s.lq l) m n r
theorem Nw.own {Z : Addr → Prop} {H1 : Hp} {a : Addr} {o : HO} (k1 : okZ Z H1) (m1 : Mem Z H1 μ) (ha : H1 a = none) (ho : isTup o = false) (hc : Cont (fun b => Z b ∨ b = a) (upd H1 a o) a c) : Nw Z H1 μ (fun b => Z b ∨ b = a) (upd H1 a o) ((a, c) :: μ) := by
  refine ⟨Ext.new ha, fun b h => ?_, m1.ownC ha hc, k1.add ho, k1.new ha, fun b h => h.imp id fun (e : b = a) => by rw [e]; exact ha, fun b h => .inl (.inl h)⟩
  rcases List.mem_cons.mp h with h | h
  · exact .inr (by rw [show b = a from h]; exact ha)
  · exact .inl h
/-- x = something new: it is owned from now on -/
theorem gn_own {i : Nat} (h : EvF te ρ c) (hs : ∀ a, ¬ dom μ a → GN us (ρ.set i (some (.ptr a))) ((a, c) :: μ) N R) : GN (tSeq (tAsg te (gName i)) us) ρ μ N R := fun Z σ H E k s m n r =>
  h Z σ H _ k s fun a H1 o x1 ha ho hc => by
    have k1 := k.ex x1
    have m1 := m.ex x1
    have z0 := ((Nxt.exs m x1).nz k).nw
    have z1 := z0.tr k m (Nw.own k1 m1 ha ho hc)
    refine hs a (fun h => k1.no ha (m1.dz h)) _ _ _ E z1.ok ((z1.srep m s).set i (.ptr a)) z1.mem (fun σ' H' ρ' μ' Z' q z s' => n σ' H' ρ' μ' Z' q (z1.tr k m z) s') fun v H' d μ' Z' q z r' => r v H' d μ' Z' q (z1.tr k m z) r'
/-- a walk, whatever is owned meanwhile -/
theorem walkN {J : It} {ds : List D} {Z : Addr → Prop} {H1 : Hp} (w1 : DW Z J H1 ds) : Walk J ds.length (fun H => ∃ Zi : Addr → Prop, (∀ a, Zi a → Z a ∨ H1 a = none) ∧ WG Zi H1 H) (fun i H x H' => ∀ Zi : Addr → Prop, (∀ a, Zi a → Z a ∨ H1 a = none) → WG Zi H1 H → WY Zi ds i H x H') :=
  ⟨fun i H hi ⟨Zi, hz, g⟩ => (w1 Zi hz).goes i H hi g, fun H ⟨Zi, hz, g⟩ => (w1 Zi hz).stops H g, fun i H x H' hi _ y Zi hz g => (w1 Zi hz).yields i H x H' hi g y⟩
theorem Nw.wg {Z Zi : Addr → Prop} {H1 Hc : Hp} {μi : Mu} (m1 : Mem Z H1 μ) (z : Nw Z H1 μ Zi Hc μi) : WG (fun a => Z a ∨ Zi a) H1 Hc := ⟨fun a o hn ho => z.ext a o (fun h => hn (.inl (m1.dz h))) ho, fun a h => h.elim (z.ok0 a) (z.ok a)⟩
theorem forN {J : It} {ds : List D} {Z : Addr → Prop} {H H1 : Hp} {μ1 : Mu} {σ : L2.St} {E : Ends} (n1 : Nw Z H μ Z H1 μ1) (k : okZ Z H) (m : Mem Z H μ) (s : SRep Z H σ ρ) (w1 : DW Z J H1 ds) (I : Nat → Rho → Mu → Prop) {ρ0 : Rho} (hl : Lq ρ0 ρ) (h0 : I 0 ρ0 μ1)
    (hb : ∀ i d ρi μi, ds[i]? = some d → I i ρi μi → ∃ ρ', GA g d ρi ρ' ∧ GN ts ρ' μi (fun ρ'' μ'' => ∃ ρ1, Lq ρ1 ρ'' ∧ I (i + 1) ρ1 μ'') R) (hn : ∀ ρ' μ', I ds.length ρ' μ' → N ρ' μ')
    (n : ∀ σ' H' ρ' μ' Z', N ρ' μ' → Nw Z H μ Z' H' μ' → SRep Z' H' σ' ρ' → E.nx σ' H') (r : ∀ v H' d μ' Z', R d μ' → Nw Z H μ Z' H' μ' → Rep Z' H' v d → E.rt v H') : tFor (fun _ H R => R J H) g ts E σ H1 := by
  have m1 := n1.mem
  have k1 := n1.ok
  have hzz : ∀ {Zi : Addr → Prop} {Hc : Hp} {μi : Mu}, Nw Z H1 μ1 Zi Hc μi → ∀ a, (Z a ∨ Zi a) → Z a ∨ H1 a = none := fun z a h => h.elim .inl (z.zs a)
  refine for_it (walkN w1) (fun i σ Hc => ∃ ρi μi Zi, I i ρi μi ∧ Nw Z H1 μ1 Zi Hc μi ∧ SRep Zi Hc σ ρi) ⟨ρ0, μ1, Z, h0, ((Nxt.rf m1).nz k1).nw, (n1.srep m s).lq hl⟩ (fun i σ Hc _ ⟨ρi, μi, Zi, _, z, _⟩ => ⟨_, hzz z, z.wg m1⟩) ?_ fun σ Hc ⟨ρi, μi, Zi, hI, z, si⟩ => n σ Hc ρi μi Zi (hn _ _ hI) (n1.tr k m z) si
  rintro i x σ Hc H' hi ⟨ρi, μi, Zi, hI, z, si⟩ y
  obtain ⟨y1, d, y2, y3⟩ := y _ (hzz z) (z.wg m1)
  obtain ⟨ρ', g1, g2⟩ := hb i d ρi μi y2 hI
  have z' : Nw Z H1 μ1 Zi H' μi := z.tr k1 m1 ((Nxt.exs z.mem y1).nz z.ok).nw
  refine g1 Zi σ H' x _ z'.ok (si.mono y1.to) (y3.zs fun a h => .inl (.inr h)) fun σ' s' => ?_
  refine g2 Zi σ' H' _ z'.ok s' z'.mem (fun σ2 H2 ρ2 μ2 Z2 q z2 s2 => ?_) fun v H2 d μ2 Z2 q z2 r2 => r v H2 d μ2 Z2 q (n1.tr k m (z'.tr k1 m1 z2)) r2
  obtain ⟨ρ1, l1, q⟩ := q
  exact ⟨ρ1, μ2, Z2, q, z'.tr k1 m1 z2, s2.lq l1⟩
theorem gn_for {wi : TI} {ds : List D} (I : Nat → Rho → Mu → Prop) (hi : EvI wi ρ ds) {ρ0 : Rho} (hl : Lq ρ0 ρ) (h0 : I 0 ρ0 μ)
    (hb : ∀ i d ρi μi, ds[i]? = some d → I i ρi μi → ∃ ρ', GA g d ρi ρ' ∧ GN ts ρ' μi (fun ρ'' μ'' => ∃ ρ1, Lq ρ1 ρ'' ∧ I (i + 1) ρ1 μ'') R) (hn : ∀ ρ' μ', I ds.length ρ' μ' → N ρ' μ') : GN (tFor wi g ts) ρ μ N R := fun Z σ H E k s m n r =>
  hi Z σ H _ k s fun J H1 x1 w1 => forN ((Nxt.exs m x1).nz k).nw k m s w1 I hl h0 hb hn n r
/-- an owned thing is data from now on -/
theorem Nw.frz {Z : Addr → Prop} {H : Hp} {a : Addr} {μ1 μ2 : Mu} (k : okZ Z H) (m : Mem Z H (μ1 ++ (a, c) :: μ2)) (ht : isTab c = false := by rfl) : Nw Z H (μ1 ++ (a, c) :: μ2) (fun b => Z b ∧ b ≠ a) H (μ1 ++ μ2) ∧ Rep (fun b => Z b ∧ b ≠ a) H (.ref a) c := by
  have hmem : (a, c) ∈ μ1 ++ (a, c) :: μ2 := List.mem_append_right _ List.mem_cons_self
  have nd0 := m.nd
  rw [List.map_append, List.map_cons] at nd0
  have nd : ¬ dom (μ1 ++ μ2) a := fun hd => by
    unfold dom at hd
    rw [List.map_append, List.mem_append] at hd
    rcases hd with hd | hd
    · exact (List.nodup_append.mp nd0).2.2 a hd a List.mem_cons_self rfl
    · exact (List.nodup_cons.mp (List.nodup_append.mp nd0).2.1).1 hd
  obtain ⟨za, hc⟩ := m.cs _ hmem
  have sub : ∀ p ∈ μ1 ++ μ2, p ∈ μ1 ++ (a, c) :: μ2 := fun p hp => by
    rcases List.mem_append.mp hp with h | h
    · exact List.mem_append_left _ h
    · exact List.mem_append_right _ (List.mem_cons_of_mem _ h)
  have subd : ∀ b, dom (μ1 ++ μ2) b → dom (μ1 ++ (a, c) :: μ2) b := fun b hb => by
    obtain ⟨p, hp, rfl⟩ := List.mem_map.mp hb
    exact List.mem_map.mpr ⟨p, sub p hp, rfl⟩
  refine ⟨⟨Ext.rf H, fun b h => .inl (subd b h), ⟨fun p hp => ?_, ?_⟩, fun b h => k b h.1, k, fun b h => .inl h.1, fun b h => ?_⟩, hc.rep ht (fun h => h.2 rfl) fun b h => h.1⟩
  · obtain ⟨z1, c1⟩ := m.cs p (sub p hp)
    exact ⟨⟨z1, fun e => nd (e ▸ List.mem_map.mpr ⟨p, hp, rfl⟩)⟩, c1.zs fun b h => h.1⟩
  · rw [List.map_append]
    obtain ⟨q1, q2, q3⟩ := List.nodup_append.mp nd0
    exact List.nodup_append.mpr ⟨q1, (List.nodup_cons.mp q2).2, fun x hx y hy => q3 x hx y (List.mem_cons_of_mem _ hy)⟩
  · by_cases e : b = a
    · subst e; exact .inr ⟨List.mem_map.mpr ⟨_, hmem, rfl⟩, nd⟩
    · exact .inl ⟨h, e⟩
theorem set_slot {σ : L2.St} {i : Nat} {v : V} (hs : σ[i]? = some (some v)) : σ.set i (some v) = σ := by
  apply List.ext_getElem?
  intro j
  rw [List.getElem?_set]
  by_cases hj : i = j
  · subst hj
    rw [if_pos rfl, hs, if_pos (List.getElem?_eq_some_iff.mp hs).1]
  · rw [if_neg hj]
theorem gn_freeze {i : Nat} {a : Addr} {μ1 μ2 : Mu} (hi : ρ[i]? = some (some (.ptr a))) (h : GN ts (ρ.set i (some c)) (μ1 ++ μ2) N R) (ht : isTab c = false := by rfl) : GN ts ρ (μ1 ++ (a, c) :: μ2) N R := fun Z σ H E k s m n r => by
  obtain ⟨z, ra⟩ := Nw.frz k m ht
  obtain ⟨v, hs, hr⟩ := s.2 i _ hi
  cases hr
  have s' := (z.srep m s).set i ra
  rw [set_slot hs] at s'
  exact h _ σ H E z.ok s' z.mem (fun σ' H' ρ' μ' Z' q z2 s2 => n σ' H' ρ' μ' Z' q (z.tr k m z2) s2) fun v H' d μ' Z' q z2 r2 => r v H' d μ' Z' q (z.tr k m z2) r2
theorem RepF.byRep {Z Z1 : Addr → Prop} {H H1 : Hp} (h : ∀ v d, Rep Z H v d → Rep Z1 H1 v d) : ∀ {vs : List (Str × V)} {ds : List (Str × D)}, RepF Z H vs ds → RepF Z1 H1 vs ds
  | _, _, .nil => .nil
  | _, _, .cons r rs => .cons (h _ _ r) (rs.byRep h)
theorem RepK.byRep {Z Z1 : Addr → Prop} {H H1 : Hp} (h : ∀ v d, Rep Z H v d → Rep Z1 H1 v d) : ∀ {vs : List (Key × V)} {ds : List (Key × D)}, RepK Z H vs ds → RepK Z1 H1 vs ds
  | _, _, .nil => .nil
  | _, _, .cons r rs => .cons (h _ _ r) (rs.byRep h)
theorem RepT.byRep {Z Z1 : Addr → Prop} {H H1 : Hp} (h : ∀ v d, Rep Z H v d → Rep Z1 H1 v d) : ∀ {vs : List (List Key × V)} {ds : List (List Key × D)}, RepT Z H vs ds → RepT Z1 H1 vs ds
  | _, _, .nil => .nil
  | _, _, .cons r rs => .cons (h _ _ r) (rs.byRep h)
theorem RepN.byRep {Z Z1 : Addr → Prop} {H H1 : Hp} (h : ∀ v d, Rep Z H v d → Rep Z1 H1 v d) : ∀ {vs : NEs} {ds : List (NestedKey × D)}, RepN Z H vs ds → RepN Z1 H1 vs ds
  | _, _, .nil => .nil
  | _, _, .cons k hk r rs => .cons (h _ _ k) hk (h _ _ r) (rs.byRep h)
theorem Cont.byRep {Z Z1 : Addr → Prop} {H H1 : Hp} {a : Addr} {d : D} (h : ∀ v d, Rep Z H v d → Rep Z1 H1 v d) (e : H1 a = H a) (hc : ∀ c o, ¬ Z c → H c = some o → ¬ Z1 c ∧ H1 c = some o) (k : Cont Z H a d) : Cont Z1 H1 a d := by
  cases k with
  | lst q r => exact .lst (e.trans q) (r.byRep h)
  | ins q r => exact .ins (e.trans q) (r.byRep h)
  | dK q r => exact .dK (e.trans q) (r.byRep h)
  | dT q r => exact .dT (e.trans q) (r.byRep h)
  | dN q r => exact .dN (e.trans q) (r.byRep h)
  | tbl h0 t r => exact .tbl (e.trans h0) t fun p v hv => let ⟨c, e1, n, e2⟩ := r p v hv; ⟨c, e1, hc c _ n e2⟩
/-! calls of defs that hand back what is new and owned -/
def spN (Rn : List D → Mu → (D → Mu → Prop) → Prop) : Sp := fun vs H Q _ => ∃ (Z : Addr → Prop) (ds : List D) (μ : Mu) (Φ : D → Mu → Prop), okZ Z H ∧ Reps Z H vs ds ∧ Mem Z H μ ∧ Rn ds μ Φ ∧ ∀ v H' d μ' Z', Φ d μ' → Nw Z H μ Z' H' μ' → Rep Z' H' v d → Q v H'
theorem Nw.frameL {Z Z' : Addr → Prop} {H H' : Hp} {μ ν μ' : Mu} (k : okZ Z H) (m : Mem Z H (ν ++ μ)) (n : Nw Z H μ Z' H' μ') : Nw Z H (ν ++ μ) Z' H' (ν ++ μ') := by
  have nd := m.nd
  rw [List.map_append] at nd
  have hd : ∀ a, dom ν a → ¬ dom μ a := fun a h1 h2 => (List.nodup_append.mp nd).2.2 a h1 a h2 rfl
  have hz : ∀ a, dom ν a → Z a := fun a h => m.dz (by unfold dom at h ⊢; rw [List.map_append]; exact List.mem_append_left _ h)
  have hz' : ∀ a, dom ν a → Z' a := fun a h => (n.zk a (hz a h)).resolve_right fun g => hd a h g.1
  have hn' : ∀ a, dom ν a → ¬ dom μ' a := fun a h1 h2 => by
    rcases n.nw a h2 with h | h
    · exact hd a h1 h
    · obtain ⟨o, ho, _⟩ := k a (hz a h1)
      rw [h] at ho; cases ho
  refine ⟨n.ext.wk fun a h => by unfold dom at h ⊢; rw [List.map_append]; exact List.mem_append_right _ h, fun a h => ?_, ⟨fun p hp => ?_, ?_⟩, n.ok, n.ok0, n.zs, fun a h => ?_⟩
  · unfold dom at h ⊢
    rw [List.map_append, List.mem_append] at h ⊢
    rcases h with h | h
    · exact .inl (.inl h)
    · exact (n.nw a h).imp .inr id
  · obtain ⟨p1, p2⟩ := p
    rcases List.mem_append.mp hp with h | h
    · obtain ⟨z1, c1⟩ := m.cs (p1, p2) (List.mem_append_left _ h)
      have hdn : dom ν p1 := List.mem_map.mpr ⟨_, h, rfl⟩
      refine ⟨hz' _ hdn, ?_⟩
      have mr := m.right
      dsimp only at c1 z1 ⊢
      have one : H' p1 = H p1 := by
        obtain ⟨o, ho, _⟩ := c1.is
        rw [ho]; exact n.ext _ _ (hd _ hdn) ho
      exact c1.byRep (fun v d r => n.rep mr r) one fun c o hz ho => ⟨fun z => (n.zs c z).elim hz fun e => (by rw [ho] at e; cases e), n.ext c o (fun d => hz (mr.dz d)) ho⟩
    · exact n.mem.cs _ h
  · rw [List.map_append]
    exact List.nodup_append.mpr ⟨(List.nodup_append.mp nd).1, n.mem.nd, fun x hx y hy e => hn' x hx (e ▸ hy)⟩
  · rcases n.zk a h with h | ⟨h1, h2⟩
    · exact .inl h
    · refine .inr ⟨by unfold dom at h1 ⊢; rw [List.map_append]; exact List.mem_append_right _ h1, fun h3 => ?_⟩
      unfold dom at h3
      rw [List.map_append, List.mem_append] at h3
      rcases h3 with h3 | h3
      · exact hd a h3 h1
      · exact h2 h3
/-- a def that hands back what is new -/
theorem eff_okN {P : Program} {w : World} {mg : Str → Option Value} {base : Heap} {x qual : Str} {stm : Stmt} {fa : Addr} {fd : FuncData} {N0 ps : List Str} {k : Nat} {Rn : List D → Mu → (D → Mu → Prop) → Prop} (F : Fun K x qual stm fa fd) (S : FnScope N0 ps (defScope stm)) (len : ∀ ds μ Φ, Rn ds μ Φ → ds.length = ps.length)
    (hb : ∀ (cdv : Value) (A : Around) (outer : List Env) (s : Shared) (H : Hp) (E : XK), Room k (A.deeper (PyProof.Rows.envOfC qual (defScope stm) s.heap.objs.size fa cdv)) →
      ∃ t, PSs (cxOf CX0 P w K mg base N0 qual (defScope stm) fa cdv A outer s H E).nox (defBody stm) t ∧ ∀ ds μ Φ, Rn ds μ Φ → GN t (rho0 N0 ds) μ (fun _ μ' => Φ .non μ') Φ) : FnOk P w K mg base CX0 (k + 1) fa fd ps (spN Rn) := by
  refine F.ok S (fun vs H Q E h => ?_) (fun cdv A outer s H vs Q E hr h => ?_)
  · obtain ⟨Z, ds, μ, Φ, _, r, _, hR, _⟩ := h
    exact r.len.trans (len ds μ Φ hR)
  · obtain ⟨Z, ds, μ, Φ, ok, r, m, hR, q⟩ := h
    obtain ⟨t, ht, hs⟩ := hb cdv A outer s H E hr
    refine ⟨t, ht, ?_⟩
    have s0 : SRep Z H (L2.start N0 vs) (rho0 N0 ds) := by
      unfold L2.start rho0
      rw [r.len]
      exact SRep.start r _
    exact hs ds μ Φ hR Z _ H _ ok s0 m (fun σ' H' ρ' μ' Z' p z s' => q _ H' _ μ' Z' p z .non) fun v H' d μ' Z' p z r' => q v H' d μ' Z' p z r'
/-- a def that owns more on its way, and hands back data -/
theorem eff_okM {P : Program} {w : World} {mg : Str → Option Value} {base : Heap} {x qual : Str} {stm : Stmt} {fa : Addr} {fd : FuncData} {N0 ps : List Str} {k : Nat} {Rn : List D → Mu → (D → Mu → Prop) → Prop} (F : Fun K x qual stm fa fd) (S : FnScope N0 ps (defScope stm)) (len : ∀ ds μ Φ, Rn ds μ Φ → ds.length = ps.length)
    (hb : ∀ (cdv : Value) (A : Around) (outer : List Env) (s : Shared) (H : Hp) (E : XK), Room k (A.deeper (PyProof.Rows.envOfC qual (defScope stm) s.heap.objs.size fa cdv)) →
      ∃ t, PSs (cxOf CX0 P w K mg base N0 qual (defScope stm) fa cdv A outer s H E).nox (defBody stm) t ∧ ∀ ds μ Φ, Rn ds μ Φ → GN t (rho0 N0 ds) μ (fun _ μ' => ∃ ν μ'', μ' = ν ++ μ'' ∧ μ''.map (·.1) = μ.map (·.1) ∧ Φ .non μ'') (fun d μ' => ∃ ν μ'', μ' = ν ++ μ'' ∧ μ''.map (·.1) = μ.map (·.1) ∧ Φ d μ'')) : FnOk P w K mg base CX0 (k + 1) fa fd ps (spM Rn) := by
  have fin : ∀ {Z Z' : Addr → Prop} {H H' : Hp} {μ μ' ν : Mu}, Mem Z H μ → μ'.map (·.1) = μ.map (·.1) → Nw Z H μ Z' H' (ν ++ μ') → Nxt Z H μ H' μ' ∧ ∀ a, Z a → Z' a := fun {Z Z' H H' μ μ' ν} m e z => by
    have zz : ∀ a, Z a → Z' a := fun a h => (z.zk a h).resolve_right fun h => h.2 (by have := h.1; unfold dom at this ⊢; rw [List.map_append, e]; exact List.mem_append_right _ this)
    refine ⟨⟨z.ext, e, ⟨fun p hp => ?_, by have := z.mem.right.nd; exact this⟩⟩, zz⟩
    obtain ⟨z1, c1⟩ := z.mem.cs p (List.mem_append_right _ hp)
    exact ⟨m.dz (by unfold dom; rw [← e]; exact List.mem_map.mpr ⟨p, hp, rfl⟩), c1.zs zz⟩
  refine F.ok S (fun vs H Q E h => ?_) (fun cdv A outer s H vs Q E hr h => ?_)
  · obtain ⟨Z, ds, μ, Φ, _, r, _, hR, _⟩ := h
    exact r.len.trans (len ds μ Φ hR)
  · obtain ⟨Z, ds, μ, Φ, ok, r, m, hR, q⟩ := h
    obtain ⟨t, ht, hs⟩ := hb cdv A outer s H E hr
    refine ⟨t, ht, ?_⟩
    have s0 : SRep Z H (L2.start N0 vs) (rho0 N0 ds) := by
      unfold L2.start rho0
      rw [r.len]
      exact SRep.start r _
    refine hs ds μ Φ hR Z _ H _ ok s0 m (fun σ' H' ρ' μ' Z' p z s' => ?_) fun v H' d μ' Z' p z r' => ?_
    · obtain ⟨ν, μ'', rfl, e, p⟩ := p
      exact q _ H' _ μ'' p (fin m e z).1 .non
    · obtain ⟨ν, μ'', rfl, e, p⟩ := p
      exact q _ H' _ μ'' p (fin m e z).1 (r'.zs fun a h => .inl ((fin m e z).2 a h))
end
end Du
namespace Du
open PySem L2
section
variable {ρ : Rho} {μ : Mu} {te td ty tk tv : TE} {tt : TT} {Φ : D → Mu → Prop} {N : Rho → Mu → Prop} {R : D → Mu → Prop}
/-! d[k] = v of an owned dict with texts as keys -/
end
end Du
namespace Du
open PySem L2
section
variable {K : PySem.W.Frag} {ρ : Rho} {μ : Mu} {te ta tb : TE} {ts us : TS} {c c1 c2 : D} {Φ : D → Mu → Prop} {N : Rho → Mu → Prop} {R : D → Mu → Prop}
/-- xs.pop() of an owned list -/
theorem ge_pop0 (h : GE te ρ μ fun d μ1 => ∃ (a : Addr) (k : Nat) (ds : List D) (z : D), d = .ptr a ∧ μ1[k]? = some (a, .lst (ds ++ [z])) ∧ Φ z (μ1.set k (a, .lst ds))) : GE (tBM0 K "list" rPop te) ρ μ Φ := fun Z σ H Q k s m q =>
  h Z σ H _ k s m fun x H1 d μ1 g n1 r1 => by
    obtain ⟨a, kk, ds, z, rfl, hk, f⟩ := g
    cases r1
    obtain ⟨za, vs, hv, rs⟩ := n1.mem.lst hk
    obtain ⟨ws, v, rfl, rw1, rv⟩ : ∃ ws v, vs = ws ++ [v] ∧ Reps Z H1 ws ds ∧ Rep Z H1 v z := by
      have hl := rs.len
      rw [List.length_append] at hl
      simp only [List.length_cons, List.length_nil] at hl
      have h1 := rs.take ds.length
      have h2 := rs.drop ds.length
      rw [List.take_left' rfl] at h1
      rw [List.drop_left' rfl] at h2
      cases hd : vs.drop ds.length with
      | nil => rw [hd] at h2; cases h2
      | cons v t =>
        rw [hd] at h2
        cases h2 with
        | cons r t' =>
          cases t'
          exact ⟨vs.take ds.length, v, by rw [← hd, List.take_append_drop], h1, r⟩
    have n2 : Nxt Z H1 μ1 (upd H1 a (.lst ws)) (μ1.set kk (a, .lst ds)) := .put n1.mem hk rw1
    refine ⟨.inl ⟨rfl, _, .inl (.inl hv)⟩, a, _, v, rfl, rfl, hv, by simp, ?_⟩
    rw [List.dropLast_concat]
    exact q v _ z _ f (n1.tr n2) (rv.mono (n2.to n1.mem))
end
end Du
namespace Du
open PySem L2
/-! owned lists and instances, read as data for a while, one within another -/
mutual
inductive Unf (μ : Mu) : D → D → Prop
  | rf (d : D) : Unf μ d d
  | ptr {a : Addr} {ds es : List D} : (a, .lst ds) ∈ μ → Unfs μ ds es → Unf μ (.ptr a) (.lst es)
  | ins {a C : Addr} {fs : List (Str × D)} : (a, .ins C fs) ∈ μ → Unf μ (.ptr a) (.ins C fs)
  | lst {ds es : List D} : Unfs μ ds es → Unf μ (.lst ds) (.lst es)
  | tup {ds es : List D} : Unfs μ ds es → Unf μ (.tup ds) (.tup es)
inductive Unfs (μ : Mu) : List D → List D → Prop
  | nil : Unfs μ [] []
  | cons {d e : D} {ds es : List D} : Unf μ d e → Unfs μ ds es → Unfs μ (d :: ds) (e :: es)
end
theorem Unfs.rfs {μ : Mu} : ∀ ds : List D, Unfs μ ds ds
  | [] => .nil
  | d :: ds => .cons (.rf d) (Unfs.rfs ds)
mutual
theorem Unf.mono {μ ν : Mu} (h : ∀ p ∈ μ, p ∈ ν) : ∀ {d e : D}, Unf μ d e → Unf ν d e
  | _, _, .rf d => .rf d
  | _, _, .ptr m u => .ptr (h _ m) (Unfs.mono h u)
  | _, _, .ins m => .ins (h _ m)
  | _, _, .lst u => .lst (Unfs.mono h u)
  | _, _, .tup u => .tup (Unfs.mono h u)
theorem Unfs.mono {μ ν : Mu} (h : ∀ p ∈ μ, p ∈ ν) : ∀ {ds es : List D}, Unfs μ ds es → Unfs ν ds es
  | _, _, .nil => .nil
  | _, _, .cons u us => .cons (Unf.mono h u) (Unfs.mono h us)
end
theorem Unfs.app {μ : Mu} : ∀ {ds es ds' es' : List D}, Unfs μ ds es → Unfs μ ds' es' → Unfs μ (ds ++ ds') (es ++ es')
  | _, _, _, _, .nil, h => h
  | _, _, _, _, .cons u us, h => .cons u (Unfs.app us h)
theorem Unfs.len {μ : Mu} : ∀ {ds es : List D}, Unfs μ ds es → ds.length = es.length
  | _, _, .nil => rfl
  | _, _, .cons _ us => by simp [Unfs.len us]
mutual
theorem Unf.rep {Z : Addr → Prop} {H : Hp} {μ : Mu} (m : ∀ p ∈ μ, Z p.1 ∧ Cont Z H p.1 p.2) : ∀ {d e : D}, Unf μ d e → ∀ {v : V}, Rep Z H v d → Rep (fun b => Z b ∧ ¬ dom μ b) H v e
  | _, _, .rf d, _, r => r.zs fun b h => .inl h.1
  | _, _, .ptr hm us, _, r => by
    cases r
    obtain ⟨z, c⟩ := m _ hm
    cases c with
    | lst h rs => exact .lst (fun q => q.2 (List.mem_map.mpr ⟨_, hm, rfl⟩)) h (Unfs.reps m us rs)
  | _, _, .ins hm, _, r => by
    cases r
    obtain ⟨z, c⟩ := m _ hm
    cases c with
    | ins h rs => exact .ins (fun q => q.2 (List.mem_map.mpr ⟨_, hm, rfl⟩)) h (rs.zs fun b h => .inl h.1)
  | _, _, .lst us, _, r => by
    cases r with
    | lst n h rs => exact .lst (fun q => n q.1) h (Unfs.reps m us rs)
  | _, _, .tup us, _, r => by
    cases r with
    | tup n h rs => exact .tup (fun q => n q.1) h (Unfs.reps m us rs)
theorem Unfs.reps {Z : Addr → Prop} {H : Hp} {μ : Mu} (m : ∀ p ∈ μ, Z p.1 ∧ Cont Z H p.1 p.2) : ∀ {ds es : List D}, Unfs μ ds es → ∀ {vs : List V}, Reps Z H vs ds → Reps (fun b => Z b ∧ ¬ dom μ b) H vs es
  | _, _, .nil, _, r => by cases r; exact .nil
  | _, _, .cons u us, _, r => by
    cases r with
    | cons r rs => exact .cons (Unf.rep m u r) (Unfs.reps m us rs)
end
/-- slots, read so -/
inductive UR (μ : Mu) : Rho → Rho → Prop
  | nil : UR μ [] []
  | no {o : Option D} {r r' : Rho} : UR μ r r' → UR μ (o :: r) (none :: r')
  | yes {d e : D} {r r' : Rho} : Unf μ d e → UR μ r r' → UR μ (some d :: r) (some e :: r')
theorem UR.len {μ : Mu} : ∀ {r r' : Rho}, UR μ r r' → r.length = r'.length
  | _, _, .nil => rfl
  | _, _, .no u => by simp [UR.len u]
  | _, _, .yes _ u => by simp [UR.len u]
theorem UR.get {μ : Mu} : ∀ {r r' : Rho} {i : Nat} {e : D}, UR μ r r' → r'[i]? = some (some e) → ∃ d, r[i]? = some (some d) ∧ Unf μ d e
  | _, _, _, _, .nil, h => by simp at h
  | _, _, 0, _, .no _, h => by simp at h
  | _, _, i + 1, _, .no u, h => by simpa using UR.get u (by simpa using h)
  | _, _, 0, _, .yes (d := d) f _, h => by simp at h; subst h; exact ⟨d, rfl, f⟩
  | _, _, i + 1, _, .yes _ u, h => by simpa using UR.get u (by simpa using h)
theorem UR.rf {μ : Mu} : ∀ r : Rho, UR μ r r
  | [] => .nil
  | none :: r => .no (UR.rf r)
  | some d :: r => .yes (.rf d) (UR.rf r)
theorem SRep.unf {Z : Addr → Prop} {H : Hp} {μ : Mu} {σ : L2.St} {ρ ρ' : Rho} (m : ∀ p ∈ μ, Z p.1 ∧ Cont Z H p.1 p.2) (s : SRep Z H σ ρ) (u : UR μ ρ ρ') : SRep (fun b => Z b ∧ ¬ dom μ b) H σ ρ' := ⟨s.1.trans u.len, fun i e h => by
  obtain ⟨d, h1, h2⟩ := u.get h
  obtain ⟨v, h3, h4⟩ := s.2 i d h1
  exact ⟨v, h3, h2.rep m h4⟩⟩
/-! neither lists nor instances in it: what comes of a reading cannot be what was lent -/
mutual
def noLI (l : Bool) : D → Bool
  | .ins _ fs => !l && noLIF l fs
  | .lst _ => false
  | .tup xs => noLIs l xs
  | .dT kvs => noLIT l kvs
  | .dK kvs => noLIK l kvs
  | .dN _ _ => false
  | _ => true
def noLIs (l : Bool) : List D → Bool
  | [] => true
  | x :: xs => noLI l x && noLIs l xs
def noLIT (l : Bool) : List (List Key × D) → Bool
  | [] => true
  | (_, x) :: xs => noLI l x && noLIT l xs
def noLIK (l : Bool) : List (Key × D) → Bool
  | [] => true
  | (_, x) :: xs => noLI l x && noLIK l xs
def noLIF (l : Bool) : List (Str × D) → Bool
  | [] => true
  | (_, x) :: xs => noLI l x && noLIF l xs
end
def LIat (l : Bool) (H : Hp) (a : Addr) : Prop := (∃ vs, H a = some (.lst vs)) ∨ (l = true ∧ ∃ C dx fs, H a = some (.ins C dx fs))
mutual
theorem Rep.backU {Z Z' : Addr → Prop} {H : Hp} {l : Bool} (hm : ∀ a, Z a → ¬ Z' a → LIat l H a) : ∀ {v : V} {d : D}, Rep Z' H v d → noLI l d = true → Rep Z H v d
  | _, _, .non, _ => .non
  | _, _, .bl b, _ => .bl b
  | _, _, .int i, _ => .int i
  | _, _, .str s, _ => .str s
  | _, _, .lst n h r, q => by simp [noLI] at q
  | _, _, .tup n h r, q => .tup (fun z => by rcases hm _ z n with ⟨vs, e⟩ | ⟨_, C, dx, fs, e⟩ <;> (rw [h] at e; cases e)) h (Reps.backU hm r (by simpa [noLI] using q))
  | _, _, .dT n h r, q => .dT (fun z => by rcases hm _ z n with ⟨vs, e⟩ | ⟨_, C, dx, fs, e⟩ <;> (rcases h with h | ⟨o, h⟩ <;> (rw [h] at e; cases e))) h (RepT.backU hm r (by simpa [noLI] using q))
  | _, _, .dK n h r, q => .dK (fun z => by rcases hm _ z n with ⟨vs, e⟩ | ⟨_, C, dx, fs, e⟩ <;> (rcases h with h | ⟨o, h⟩ <;> (rw [h] at e; cases e))) h (RepK.backU hm r (by simpa [noLI] using q))
  | _, _, .dN n h r, q => by simp [noLI] at q
  | _, _, .ins n h r, q => by
    rw [noLI, Bool.and_eq_true, Bool.not_eq_true'] at q
    exact .ins (fun z => by rcases hm _ z n with ⟨vs, e⟩ | ⟨el, C, dx, fs, e⟩; (rw [h] at e; cases e); (rw [q.1] at el; cases el)) h (RepF.backU hm r q.2)
  | _, _, .ptr b, _ => .ptr b
  | _, _, .ty n, _ => .ty n
theorem Reps.backU {Z Z' : Addr → Prop} {H : Hp} {l : Bool} (hm : ∀ a, Z a → ¬ Z' a → LIat l H a) : ∀ {v : List V} {d : List D}, Reps Z' H v d → noLIs l d = true → Reps Z H v d
  | _, _, .nil, _ => .nil
  | _, _, .cons r t, q => by
    rw [noLIs, Bool.and_eq_true] at q
    exact .cons (Rep.backU hm r q.1) (Reps.backU hm t q.2)
theorem RepT.backU {Z Z' : Addr → Prop} {H : Hp} {l : Bool} (hm : ∀ a, Z a → ¬ Z' a → LIat l H a) : ∀ {v : List (List Key × V)} {d : List (List Key × D)}, RepT Z' H v d → noLIT l d = true → RepT Z H v d
  | _, _, .nil, _ => .nil
  | _, _, .cons r t, q => by
    rw [noLIT, Bool.and_eq_true] at q
    exact .cons (Rep.backU hm r q.1) (RepT.backU hm t q.2)
theorem RepK.backU {Z Z' : Addr → Prop} {H : Hp} {l : Bool} (hm : ∀ a, Z a → ¬ Z' a → LIat l H a) : ∀ {v : List (Key × V)} {d : List (Key × D)}, RepK Z' H v d → noLIK l d = true → RepK Z H v d
  | _, _, .nil, _ => .nil
  | _, _, .cons r t, q => by
    rw [noLIK, Bool.and_eq_true] at q
    exact .cons (Rep.backU hm r q.1) (RepK.backU hm t q.2)
theorem RepF.backU {Z Z' : Addr → Prop} {H : Hp} {l : Bool} (hm : ∀ a, Z a → ¬ Z' a → LIat l H a) : ∀ {v : List (Str × V)} {d : List (Str × D)}, RepF Z' H v d → noLIF l d = true → RepF Z H v d
  | _, _, .nil, _ => .nil
  | _, _, .cons r t, q => by
    rw [noLIF, Bool.and_eq_true] at q
    exact .cons (Rep.backU hm r q.1) (RepF.backU hm t q.2)
end
def isLI (l : Bool) : D → Bool
  | .lst _ => true
  | .ins _ _ => l
  | _ => false
section
variable {K : PySem.W.Frag} {ρ ρ' : Rho} {μ : Mu} {te ta : TE} {tt : TT} {ts us : TS} {d c : D} {b l : Bool} {Φ : D → Mu → Prop} {ΦT : Bool → Mu → Prop} {N : Rho → Mu → Prop} {R : D → Mu → Prop}
/-- the cells that are lent -/
def Lent (l : Bool) (μL μ : Mu) : Prop := ∀ p ∈ μL, p ∈ μ ∧ isLI l p.2 = true
theorem Lent.cs {Z : Addr → Prop} {H : Hp} {μL : Mu} (h : Lent l μL μ) (m : Mem Z H μ) : ∀ p ∈ μL, Z p.1 ∧ Cont Z H p.1 p.2 := fun p hp => m.cs p (h p hp).1
theorem Lent.at' {Z : Addr → Prop} {H H' : Hp} {μL : Mu} (h : Lent l μL μ) (m : Mem Z H μ) (x : Ex H H') : ∀ a, Z a → ¬ (Z a ∧ ¬ dom μL a) → LIat l H' a := fun a z n => by
  have hd : dom μL a := Classical.byContradiction fun q => n ⟨z, q⟩
  obtain ⟨p, hp, rfl⟩ := List.mem_map.mp hd
  obtain ⟨z1, c1⟩ := h.cs m p hp
  have hl := (h p hp).2
  obtain ⟨p1, p2⟩ := p
  dsimp only at c1 hl ⊢
  cases c1 with
  | lst e r => exact .inl ⟨_, x _ _ e⟩
  | ins e r => exact .inr ⟨hl, _, _, _, x _ _ e⟩
  | _ => cases hl
theorem okZ.lent {Z : Addr → Prop} {H : Hp} {μL : Mu} (k : okZ Z H) : okZ (fun b => Z b ∧ ¬ dom μL b) H := fun a h => k a h.1
theorem ge_lendU (μL : Mu) (hs : Lent l μL μ) (u : UR μL ρ ρ') (h : Ev te ρ' d) (hn : noLI l d = true) (q : Φ d μ) : GE te ρ μ Φ := fun Z σ H Q k s m f =>
  h _ σ H Q k.lent (s.unf (hs.cs m) u) fun v H' x r => f v H' d μ q (.exs m x) (r.backU (hs.at' m x) hn)
/-! readings behind which more is owned -/
def GX (te : TE) (ρ : Rho) (μ : Mu) (Φ : D → Mu → Prop) : Prop := ∀ (Z : Addr → Prop) (σ : L2.St) (H : Hp) (Q : VK), okZ Z H → SRep Z H σ ρ → Mem Z H μ → (∀ v H' d μ' Z', Φ d μ' → Nw Z H μ Z' H' μ' → Rep Z' H' v d → Q v H') → te σ H Q
def GXA (ta : TA) (ρ : Rho) (μ : Mu) (Φ : List D → Mu → Prop) : Prop := ∀ (Z : Addr → Prop) (σ : L2.St) (H : Hp) (Q : List V → Hp → Prop), okZ Z H → SRep Z H σ ρ → Mem Z H μ → (∀ vs H' ds μ' Z', Φ ds μ' → Nw Z H μ Z' H' μ' → Reps Z' H' vs ds → Q vs H') → ta σ H Q
theorem Nw.fresh {Z : Addr → Prop} {H1 H2 : Hp} {μ1 : Mu} {a : Addr} {xs : List V} {es : List D} (k1 : okZ Z H1) (m1 : Mem Z H1 μ1) (ha : H1 a = none) (x2 : Ex H1 H2) (hv : H2 a = some (.lst xs)) (r2 : Reps Z H2 xs es) (hne : noLIs false es = true) : Nw Z H1 μ1 (fun b => Z b ∨ b = a) H2 ((a, .lst es) :: μ1) := by
  have m2 := m1.ex x2
  have nza : ¬ Z a := k1.no ha
  have hd : ∀ {c : Addr} {o : HO}, H1 c = some o → c ≠ a := fun h e => by rw [e, ha] at h; cases h
  have up : ∀ v d, Rep Z H1 v d → Rep (fun b => Z b ∨ b = a) H2 v d := fun v d r => (r.zs (Z' := fun b => Z b ∨ b = a) fun b z => z.imp id fun (e : b = a) => by rw [e]; exact ha).mono x2.to
  refine ⟨x2.to, fun b h => ?_, ⟨fun p hp => ?_, ?_⟩, fun b h => ?_, k1.ex x2, fun b h => h.imp id fun (e : b = a) => by rw [e]; exact ha, fun b h => .inl (.inl h)⟩
  · rcases List.mem_cons.mp h with h | h
    · exact .inr (by rw [show b = a from h]; exact ha)
    · exact .inl h
  · rcases List.mem_cons.mp hp with rfl | hp
    · exact ⟨.inr rfl, .lst hv (r2.backU (fun b zb nb => by
        rcases zb with zb | zb
        · exact absurd zb nb
        · rw [zb]; exact .inl ⟨_, hv⟩) hne)⟩
    · obtain ⟨z1, c1⟩ := m1.cs p hp
      obtain ⟨o, ho, _⟩ := c1.is
      exact ⟨.inl z1, c1.byRep up (by rw [ho]; exact x2 _ _ ho) fun c o nc hc => ⟨fun z => z.elim nc (hd hc), x2 _ _ hc⟩⟩
  · rw [List.map_cons]
    exact List.nodup_cons.mpr ⟨fun h => nza (m1.dz h), m1.nd⟩
  · rcases h with h | h
    · obtain ⟨o, ho, hi⟩ := k1 b h
      exact ⟨o, x2 _ _ ho, hi⟩
    · rw [h]; exact ⟨_, hv, rfl⟩
theorem gx_ge (h : GE te ρ μ Φ) : GX te ρ μ Φ := fun Z σ H Q k s m f => h Z σ H Q k s m fun v H' d μ' q n r => f v H' d μ' Z q (n.nz k).nw r
theorem gxa_nil {ΦA : List D → Mu → Prop} (q : ΦA [] μ) : GXA tNil ρ μ ΦA := fun Z σ H Q k s m f => f _ H [] μ Z q ((Nxt.rf m).nz k).nw .nil
theorem gxa_cons {tr : TA} {ΦA : List D → Mu → Prop} (h : GX te ρ μ fun d μ1 => GXA tr ρ μ1 fun ds μ2 => ΦA (d :: ds) μ2) : GXA (tCons te tr) ρ μ ΦA := fun Z σ H Q k s m f =>
  h Z σ H _ k s m fun x H1 d μ1 Z1 g n1 r1 => g Z1 σ H1 _ n1.ok (n1.srep m s) n1.mem fun xs H2 ds μ2 Z2 q n2 r2 => f _ H2 _ μ2 Z2 q (n1.tr k m n2) (.cons (n2.rep n1.mem r1) r2)
/-! statements -/
theorem gn_ret (h : GX te ρ μ R) : GN (tRet te) ρ μ N R := fun Z σ H E k s m n r => h Z σ H _ k s m fun v H' d μ' Z' q z rd => r v H' d μ' Z' q z rd
theorem gn_asg {i : Nat} (h : GX te ρ μ fun d μ' => N (ρ.set i (some d)) μ') : GN (tAsg te (gName i)) ρ μ N R := fun Z σ H E k s m n r => h Z σ H _ k s m fun v H' d μ' Z' q z rd => n _ H' _ μ' Z' q z ((z.srep m s).set i rd)
/-- a new thing -/
theorem gx_new (h : EvF te ρ c) (q : ∀ a, ¬ dom μ a → Φ (.ptr a) ((a, c) :: μ)) : GX te ρ μ Φ := fun Z σ H Q k s m f =>
  h Z σ H _ k s fun a H1 o x1 ha ho hc => by
    have k1 := k.ex x1
    have m1 := m.ex x1
    exact f _ _ _ _ _ (q a fun h => k1.no ha (m1.dz h)) (((Nxt.exs m x1).nz k).nw.tr k m (Nw.own k1 m1 ha ho hc)) (.ptr a)
end
end Du
namespace Du
open PySem L2
section
variable {K : PySem.W.Frag} {ρ ρ' : Rho} {μ : Mu} {te ta tb : TE} {tt : TT} {ts us : TS} {d c : D} {b l : Bool} {Φ : D → Mu → Prop} {N : Rho → Mu → Prop} {R : D → Mu → Prop}
end
end Du
namespace Du
open PySem L2
section
variable {K : PySem.W.Frag} {ρ ρ' : Rho} {μ ν μ' : Mu} {te ta tb : TE} {tt : TT} {ts us : TS} {d c : D} {b l : Bool} {Φ : D → Mu → Prop} {N : Rho → Mu → Prop} {R : D → Mu → Prop}
/-! in which order the cells are told does not matter -/
theorem dom_perm {a : Addr} (hp : ν.Perm μ) : dom ν a ↔ dom μ a := (hp.map _).mem_iff
theorem Mem.perm {Z : Addr → Prop} {H : Hp} (m : Mem Z H μ) (hp : ν.Perm μ) : Mem Z H ν := ⟨fun p h => m.cs p (hp.mem_iff.mp h), (hp.map _).nodup_iff.mpr m.nd⟩
theorem Nw.permR {Z Z' : Addr → Prop} {H H' : Hp} (z : Nw Z H μ Z' H' μ') (hp : ν.Perm μ') : Nw Z H μ Z' H' ν := ⟨z.ext, fun a h => z.nw a ((dom_perm hp).mp h), z.mem.perm hp, z.ok, z.ok0, z.zs, fun a h => (z.zk a h).imp id fun q => ⟨q.1, fun g => q.2 ((dom_perm hp).mp g)⟩⟩
theorem gn_pm (h : GN ts ρ μ (fun ρ' μ' => ∃ ν, ν.Perm μ' ∧ N ρ' ν) R) : GN ts ρ μ N R := fun Z σ H E k s m n r => h Z σ H E k s m (fun σ' H' ρ' μ' Z' ⟨ν, hp, q⟩ z => n σ' H' ρ' ν Z' q (z.permR hp)) r
end
end Du
/-! == and != of lists and tuples by an own ==, whatever the answer -/
namespace Du
open PySem PySem.SeqAt
open AutoSeq1 (wpAny_loadPart')
open MeetsSeq MeetsSeq2 MeetsSeq3 SeqRoads2
section
variable {prog : Program} {w : World} {A : Around} {R : Result → Shared → Prop}
/-- two lists of N items each can be read -/
def TwoL (l b : Addr) (N : Nat) (s : Shared) : Prop := ∃ (items items2 : Array Value) (n n2 : Nat), s.heap.get? l = some { cls := .type "list", data := .seq items n } ∧ s.heap.get? b = some { cls := .type "list", data := .seq items2 n2 } ∧ items.size = N ∧ items2.size = N
def ListJ (prog : Program) (w : World) (A : Around) (E : Value → Shared → Prop) (l b : Addr) (N : Nat) (I : Nat → Shared → Prop) (F : Shared → Prop) : Prop :=
  ∀ i s, I i s → ∃ (items items2 : Array Value) (n n2 : Nat), s.heap.get? l = some { cls := .type "list", data := .seq items n } ∧ s.heap.get? b = some { cls := .type "list", data := .seq items2 n2 } ∧ items.size = N ∧ items2.size = N ∧
    ∀ (h1 : i < items.size) (h2 : i < items2.size), wpAny (model prog w) A.in1 (eqBool items[i] items2[i]) (fun r s' => if r = true then I (i + 1) s' else F s' ∧ TwoL l b N s') E s
end
section
variable {prog : Program} {w : World} {A : Around} {E : Value → Shared → Prop} {s : Shared}
end
end Du
namespace Du
open PySem L2 PySem.Spec PyProof.Rows
abbrev EqvB := V → V → Hp → Bool → Prop
def MonB (D : EqvB) : Prop := ∀ x y H H' b, L2.Ext H H' → D x y H b → D x y H' b
/-- == gives the answer that D says, and only makes objects -/
def EqB (X : Cx) (n : Nat) (D : EqvB) : Prop :=
  ∀ (A : Around) (pins : List (Addr × Obj)) (s : Shared) (σ : L2.St) (H : Hp) (x y : V) (u v : Value) (b : Bool), Sub X n A → Inv X pins σ H s → RelV x u → RelV y v → D x y H b →
    wpAny (model X.prog X.w) A (eqBool u v) (fun r s' => r = b ∧ ∃ H', Inv X pins σ H' s' ∧ L2.Ext H H') X.xe s
def RcB (X : Cx) (n : Nat) (D : EqvB) : Prop :=
  ∀ (A : Around) (pins : List (Addr × Obj)) (s : Shared) (σ : L2.St) (H : Hp) (x y : V) (u v : Value) (b : Bool), Sub X n A → Inv X pins σ H s → RelV x u → RelV y v → D x y H b →
    wpAny (model X.prog X.w) A (richCompare .Eq u v) (fun r s' => r = .bool b ∧ ∃ H', Inv X pins σ H' s' ∧ L2.Ext H H') X.xe s
def RnB (X : Cx) (n : Nat) (D : EqvB) : Prop :=
  ∀ (A : Around) (pins : List (Addr × Obj)) (s : Shared) (σ : L2.St) (H : Hp) (x y : V) (u v : Value) (b : Bool), Sub X n A → Inv X pins σ H s → RelV x u → RelV y v → D x y H b →
    wpAny (model X.prog X.w) A (richCompare .NotEq u v) (fun r s' => r = .bool (!b) ∧ ∃ H', Inv X pins σ H' s' ∧ L2.Ext H H') X.xe s
/-- item by item, up to the first two that differ -/
inductive PrsB (D : EqvB) (H : Hp) : List V → List V → Bool → Prop
  | nil : PrsB D H [] [] true
  | left {y : V} {ys : List V} : PrsB D H [] (y :: ys) false
  | right {x : V} {xs : List V} : PrsB D H (x :: xs) [] false
  | ne {x y : V} {xs ys : List V} : D x y H false → PrsB D H (x :: xs) (y :: ys) false
  | cons {x y : V} {xs ys : List V} {b : Bool} : D x y H true → PrsB D H xs ys b → PrsB D H (x :: xs) (y :: ys) b
section
variable {X : Cx} {n m : Nat} {D D' : EqvB}
theorem EqB.mono (h : EqB X n D) (hn : n ≤ m) : EqB X m D := fun A pins s σ H x y u v b sb => h A pins s σ H x y u v b (sb.mono hn)
theorem EqB.or (h : EqB X n D) (h' : EqB X n D') : EqB X n (fun x y H b => D x y H b ∨ D' x y H b) := fun A pins s σ H x y u v b sb I rx ry d => by
  rcases d with d | d
  · exact h A pins s σ H x y u v b sb I rx ry d
  · exact h' A pins s σ H x y u v b sb I rx ry d
theorem MonB.or (h : MonB D) (h' : MonB D') : MonB (fun x y H b => D x y H b ∨ D' x y H b) := fun x y H H' b e d => d.elim (fun d => .inl (h x y H H' b e d)) fun d => .inr (h' x y H H' b e d)
def FlatB : EqvB := fun x y _ b => flatV x = true ∧ flatV y = true ∧ eqV x y = b
theorem PrsB.min {H : Hp} : ∀ {xs ys : List V} {b : Bool}, PrsB D H xs ys b → (xs = [] ∨ ys = []) → b = (xs.length == ys.length)
  | _, _, _, .nil, _ => rfl
  | _, _, _, .left, _ => by simp
  | _, _, _, .right, _ => by simp
  | _, _, _, .ne h, e => by rcases e with e | e <;> cases e
  | _, _, _, .cons h p, e => by rcases e with e | e <;> cases e
theorem PrsB.len {H : Hp} : ∀ {xs ys : List V} {b : Bool}, PrsB D H xs ys b → xs.length ≠ ys.length → b = false
  | _, _, _, .nil, h => absurd rfl h
  | _, _, _, .left, _ => rfl
  | _, _, _, .right, _ => rfl
  | _, _, _, .ne h, _ => rfl
  | _, _, _, .cons h p, e => p.len fun z => e (by simp [z])
/-- what the loop over the items keeps -/
def LoopB (X : Cx) (pins : List (Addr × Obj)) (σ : L2.St) (H : Hp) (D : EqvB) (xs ys : List V) (b : Bool) (i : Nat) (s' : Shared) : Prop := ∃ H', Inv X pins σ H' s' ∧ L2.Ext H H' ∧ PrsB D H' (xs.drop i) (ys.drop i) b
def EndB (X : Cx) (pins : List (Addr × Obj)) (σ : L2.St) (H : Hp) (b : Bool) (s' : Shared) : Prop := b = false ∧ ∃ H', Inv X pins σ H' s' ∧ L2.Ext H H'
def DListB (D : EqvB) : EqvB := fun x y H r => ∃ a b xs ys, x = .ref a ∧ y = .ref b ∧ H a = some (.lst xs) ∧ H b = some (.lst ys) ∧ (a = b → r = true) ∧ PrsB D H xs ys r
def DTupB (K : PySem.W.Frag) (D : EqvB) : EqvB := fun x y H r => ∃ a b xs ys, x = .ref a ∧ y = .ref b ∧ SqT K H a xs ∧ SqT K H b ys ∧ (a = b → r = true) ∧ PrsB D H xs ys r
/-- instances of the class at C with the text's own == -/
def DInsB (C : Addr) (R : Addr → Addr → Hp → Bool → Prop) : EqvB := fun x y H r => ∃ a b dx dy fs gs, x = .ref a ∧ y = .ref b ∧ H a = some (.ins C dx fs) ∧ H b = some (.ins C dy gs) ∧ (a = b → r = true) ∧ R a b H r
def spEqB (R : Addr → Addr → Hp → Bool → Prop) : Sp := fun vs H Q _ => ∃ a b r, vs = [.ref a, .ref b] ∧ R a b H r ∧ ∀ H', L2.Ext H H' → Q (.bl r) H'
/-- x == y, x != y as expressions -/
def rEqB (D : EqvB) : R2 := fun x y H Q => ∃ r, D x y H r ∧ ∀ H', L2.Ext H H' → Q (.bl r) H'
def rNeB (D : EqvB) : R2 := fun x y H Q => ∃ r, D x y H r ∧ ∀ H', L2.Ext H H' → Q (.bl (!r)) H'
/-! len of an own instance -/
structure OLen (P : Program) (w : World) (K : PySem.W.Frag) (mg : Str → Option Value) (base : Heap) (k : Nat) (C : Addr) (sp : Sp) : Prop where
  ex : ∃ g, PySem.W.findIn K (.ref C) "__len__" = some (some (.ref g)) ∧ PySem.W.isFn K (.ref g) = true ∧ FnR P w K mg base CX0 k g sp
def rLenO (C : Addr) (sp : Sp) (E : XK) : List V → Hp → VK → Prop := fun xs H Q => ∃ (a dx : Addr) (fs : List (Str × V)), xs = [.ref a] ∧ H a = some (.ins C dx fs) ∧ sp [.ref a] H (fun v H' => ∃ i : Int, v = .int i ∧ 0 ≤ i ∧ i < 2 ^ 63 ∧ Q (.int i) H') E
/-! plain data is told by its value -/
mutual
def plainD : Du.D → Bool
  | .non => true
  | .bl _ => true
  | .int _ => true
  | .str _ => true
  | .lst xs => plainDs xs
  | .tup xs => plainDs xs
  | .ins _ fs => plainDF fs
  | _ => false
def plainDs : List Du.D → Bool
  | [] => true
  | x :: xs => plainD x && plainDs xs
def plainDF : List (Str × Du.D) → Bool
  | [] => true
  | x :: xs => plainD x.2 && plainDF xs
end
mutual
theorem Rep.inj {Z : Addr → Prop} {H : Hp} : ∀ {v : V} {d e : Du.D}, Rep Z H v d → Rep Z H v e → plainD d = true → plainD e = true → d = e
  | _, _, _, .non, .non, _, _ => rfl
  | _, _, _, .bl _, .bl _, _, _ => rfl
  | _, _, _, .int _, .int _, _, _ => rfl
  | _, _, _, .str _, .str _, _, _ => rfl
  | _, _, _, .lst n h r, q, p1, p2 => by
    cases q with
    | lst n' h' r' => rw [h] at h'; cases h'; rw [Reps.inj r r' (by simpa [plainD] using p1) (by simpa [plainD] using p2)]
    | tup n' h' r' => rw [h] at h'; cases h'
    | dT n' h' r' => cases p2
    | dK n' h' r' => cases p2
    | dN n' h' r' => cases p2
    | ins n' h' r' => rw [h] at h'; cases h'
    | ptr => cases p2
  | _, _, _, .tup n h r, q, p1, p2 => by
    cases q with
    | lst n' h' r' => rw [h] at h'; cases h'
    | tup n' h' r' => rw [h] at h'; cases h'; rw [Reps.inj r r' (by simpa [plainD] using p1) (by simpa [plainD] using p2)]
    | dT n' h' r' => cases p2
    | dK n' h' r' => cases p2
    | dN n' h' r' => cases p2
    | ins n' h' r' => rw [h] at h'; cases h'
    | ptr => cases p2
  | _, _, _, .ins n h r, q, p1, p2 => by
    cases q with
    | lst n' h' r' => rw [h] at h'; cases h'
    | tup n' h' r' => rw [h] at h'; cases h'
    | dT n' h' r' => cases p2
    | dK n' h' r' => cases p2
    | dN n' h' r' => cases p2
    | ins n' h' r' => rw [h] at h'; cases h'; rw [RepF.inj r r' (by simpa [plainD] using p1) (by simpa [plainD] using p2)]
    | ptr => cases p2
  | _, _, _, .dT n h r, _, p1, _ => by cases p1
  | _, _, _, .dK n h r, _, p1, _ => by cases p1
  | _, _, _, .dN n h r, _, p1, _ => by cases p1
  | _, _, _, .ptr _, _, p1, _ => by cases p1
  | _, _, _, .ty _, _, p1, _ => by cases p1
theorem Reps.inj {Z : Addr → Prop} {H : Hp} : ∀ {v : List V} {d e : List Du.D}, Reps Z H v d → Reps Z H v e → plainDs d = true → plainDs e = true → d = e
  | _, _, _, .nil, .nil, _, _ => rfl
  | _, _, _, .cons r t, .cons r' t', p1, p2 => by
    simp only [plainDs, Bool.and_eq_true] at p1 p2
    rw [Rep.inj r r' p1.1 p2.1, Reps.inj t t' p1.2 p2.2]
theorem RepF.inj {Z : Addr → Prop} {H : Hp} : ∀ {v : List (Str × V)} {d e : List (Str × Du.D)}, RepF Z H v d → RepF Z H v e → plainDF d = true → plainDF e = true → d = e
  | _, _, _, .nil, .nil, _, _ => rfl
  | _, _, _, .cons r t, .cons r' t', p1, p2 => by
    simp only [plainDF, Bool.and_eq_true] at p1 p2
    rw [Rep.inj r r' p1.1 p2.1, RepF.inj t t' p1.2 p2.2]
end
end
end Du
namespace Du
open PySem L2
section
variable {K : PySem.W.Frag} {ρ ρ' : Rho} {μ μ' : Mu} {te ta tb tl : TE} {tt : TT} {ts us : TS} {g : TG} {Φ : D → Mu → Prop} {ΦA : List D → Mu → Prop} {N : Rho → Mu → Prop} {R : D → Mu → Prop} {c : D}
theorem GX.mono {Φ' : D → Mu → Prop} (h : GX te ρ μ Φ) (g : ∀ d μ', Φ d μ' → Φ' d μ') : GX te ρ μ Φ' := fun Z σ H Q k s m f => h Z σ H Q k s m fun v H' d μ' Z' q n r => f v H' d μ' Z' (g d μ' q) n r
end
end Du
namespace Du
open PySem L2 PySem.Spec PyProof.Rows LamX
/-- a table of code objects, all of them where A holds -/
def TabA (A : Addr → Prop) (H : Hp) (P : Addr) (q : Str) : Prop := ∃ ps : Array Value, H P = some (.tbl ps) ∧ TriplesOk ps.toList ∧ ∀ (pos : Pos) (cv : Value), codeAmong pos ps.toList = some cv → ∃ c, cv = .ref c ∧ A c ∧ H c = some (CodeO c q)
section
variable {X : Cx} {pins : List (Addr × Obj)} {σ : L2.St} {H : Hp} {s : Shared}
/-- x(lambda: body): the table at P is read at the place A, what the def makes of it is TT -/
def tLamA (P : Addr) (q : Str) (TT : (XK → Hp → VK → Prop) → Hp → VK → Prop) (t : XK → TE) : TE := fun σ H Q => ∃ A : Addr → Prop, (∀ b, H b = none → A b) ∧ TabA A H P q ∧ ∀ H1, (∀ b o, b ≠ P → H b = some o → H1 b = some o) → TabA A H1 P q → TT (fun E H' Q' => t E σ H' Q') H1 Q
end
section
variable {ρ : Rho} {μ : Mu} {Φ : D → Mu → Prop}
end
end Du
namespace Du
open PySem L2 PySem.Spec PyProof.Rows
section
variable {X : Cx}
/-! errors whose __init__ calls the base's and stores no field, or some -/
/-- D.__init__(self, ..), D a class of the program that has ValueError's -/
def tDeI (K : PySem.W.Frag) (B : Addr) (to : TE) (ta : TA) : TE := fun σ H Q => to σ H fun x H1 => x = .ref B ∧ tVeI K ta σ H1 Q
theorem pe_deinit {B : Addr} {mc : Value} {o e : Expr} {es : List Expr} {to : TE} {ta : TA} {p2 pos : Pos} {pl : Sem Bool} (ho : PE X o to) (r : ClX.CRead X.K B mc) (fc : PySem.W.findCls X.K (.ref B) mc "__init__" = some (.val (.builtin "ValueError.__init__"))) (ha : PA X (e :: es) ta)
    (hc : eval (.Call (.Attribute o "__init__" p2) (e :: es) [] pos) X.env = (do
      let ov ← eval o X.env
      standAt p2.atName
      let (f, first) ← holding [ov] (getMethod ov "__init__" pl)
      callWith pos f first (backTo pos (starEach (e :: es) X.env)) (backToKw pos (keywordEach [] X.env))) := by rfl)
    (he : starEach (e :: es) X.env = (false, eval e X.env) :: starEach es X.env := by rfl) (hpl : (backTo pos (starEach es X.env)).any (·.1) = false := by rfl) :
    PE X (.Call (.Attribute o "__init__" p2) (e :: es) [] pos) (tDeI X.K B to ta) := by
  refine ⟨fun pins s σ H Q I h => ?_⟩
  refine PySem.W.methodCall_KW (pl := pl) (thn (ho.run pins s σ H _ I h) fun u s1 ⟨x, H1, I1, rx, ex, q⟩ => ?_) hc
  subst ex
  obtain rfl : u = Value.ref B := rx
  refine PySem.W.method_cls I1.kIn r.ga (PySem.W.cls_value I1.kIn r.rd fc rfl ?_)
  show wpAny _ _ (callWith pos (Value.builtin "ValueError.__init__") [] (backTo pos (starEach (e :: es) X.env)) []) _ _ _
  refine PyProof.Rows.callWith_method1 (thn (ha.run pos pins _ σ H1 _ (I1.tok _) q) fun us s2 ⟨vs, H2, I2, r1, a, C, ws, ev, hl, T, ea, q2⟩ => ?_) he hpl
  subst ev
  cases r1 with
  | @cons _ u0 _ ur ra rw' =>
    obtain rfl : u0 = Value.ref a := ra
    have hlen : ur.length ≤ sizeLine := by
      rw [← Paired.length rw', sizeLine_eq]
      omega
    exact oinit_ok T I2 ea hlen fun s' J => ⟨.non, H2, J, rfl, q2⟩
/-- an error that bears no field is made -/
theorem mk_endN {pins : List (Addr × Obj)} {σ : L2.St} {H1 H2 : Hp} {Q : XK} {hp hp2 h2 : Heap} {g1 g2 : Array GenState} {d1 d2 : Drawn} {t1 t2 : Nat} {os1 os2 : OsState} {a C : Addr} (T : Raises X (.ref C)) (I1 : Inv X pins σ H1 ⟨hp, g1, d1, t1, os1⟩)
    (ha : hp.objs.size ≤ a) (k : ∀ b o, hp.get? b = some o → hp2.get? b = some o) (un : Un (frs X.stack) [] (upd H1 a (exo a C none)) H2 hp2 h2) (hok : HOk X.prog X.w H2 h2) (ho : os2 = os1) (hb : AllBare g2)
    (ea : H2 a = some (exo a C none)) (q : Q (.ref C) none (del H2 a)) : MkP X pins σ Q (.ref a) ⟨h2, g2, d2, t2, os2⟩ := by
  obtain ⟨t0, hoe⟩ := exo_at hok ea
  have hn : H1 a = none := I1.hok.fresh ha
  obtain ⟨G, g1', g2'⟩ := restrict h2 fun b => decide (b ≠ a)
  have gk : ∀ b, b ≠ a → G.get? b = h2.get? b := fun b hb => g1' b (decide_eq_true hb)
  have ge : G.get? a = none := g2' a (by simp)
  have nha : ∀ {b : Addr} {o : Obj}, hp.get? b = some o → b ≠ a := fun {b o} z => Nat.ne_of_lt (Nat.lt_of_lt_of_le (Heap.lt_size z) ha)
  have up : ∀ {b : Addr}, b ≠ a → H1 b = none → upd H1 a (exo a C none) b = none := fun {b} hb n => by rw [upd_ne hb]; exact n
  have U : Un (frs X.stack) [] H1 (del H2 a) hp G := {
    keep := fun b o z n hf hx => by
      rw [gk b (nha z)]
      exact un.keep b o (k b o z) (up (nha z) n) hf hx
    slot := fun b o z n hf hx => by
      rw [gk b (nha z)]
      exact un.slot b o (k b o z) (up (nha z) n) hf hx
    free := fun b o z n hx => by
      rw [del_ne (nha z)]
      exact un.free b o (k b o z) (up (nha z) n) hx
    there := fun b o z hx => by
      rw [gk b (nha z)]
      exact un.there b o (k b o z) hx
    tups := fun b xs z => by
      rw [del_ne (ne_of_none z hn)]
      exact un.tups b xs (by rw [upd_ne (ne_of_none z hn)]; exact z)
    frzs := fun b o v z => by
      rw [del_ne (ne_of_none z hn)]
      exact un.frzs b o v (by rw [upd_ne (ne_of_none z hn)]; exact z)
    tbls := fun b ps z => by
      rw [del_ne (ne_of_none z hn)]
      exact un.tbls b ps (by rw [upd_ne (ne_of_none z hn)]; exact z) }
  have hok3 : HOk X.prog X.w (del H2 a) G := fun b o z => by
    have hba : b ≠ a := fun e => by
      rw [e, del_same] at z
      cases z
    rw [del_ne hba] at z
    have noa : ∀ {c : Addr}, H2 c = some (.own b) → c ≠ a := fun {c} hc => at_ne ea hc exo_own
    exact (hok b o z).stay (fun c v hc y => by
        have hca : c ≠ a := by
          rcases hc with hc | hc
          · rw [hc]
            exact hba
          · exact noa hc
        rw [gk c hca]
        exact y)
      (fun c hc => by rw [del_ne (noa hc)]; exact hc) (fun c xs hc => by rw [del_ne (at_ne ea hc exo_tup)]; exact hc)
  have J : Inv X pins σ (del H2 a) ⟨G, g2, d2, t2, os2⟩ := I1.call' (ch := []) ho U hok3 hb (fun b z => absurd z (by simp))
  refine ⟨a, _, _, ⟨G, g2, d2, t2, os2⟩, _, .ref C, none, rfl, J, fun b o z => ?_, ge, hoe, ⟨rfl, rfl⟩, rfl, rfl, del_same, rfl, hb, T, q⟩
  by_cases hba : b = a
  · rw [hba, ge] at z
    cases z
  · exact (gk b hba).symm.trans z
/-- C(), an error of the program without fields, its own __init__ keeping sp -/
def tMkN (C : Addr) (sp : Sp) : L2.St → Hp → XK → Prop := fun σ H Q => ∀ a, H a = none → sp [.ref a] (upd H a (exo a C none)) (fun v H2 => v = .non ∧ H2 a = some (exo a C none) ∧ Q (.ref C) none (del H2 a)) (fun _ _ _ => False)
theorem pmk_oexN {CX : CXT} {x : Str} {C fI : Addr} {k : Nat} {fd : FuncData} {ps : List Str} {sp : Sp} {p pos : Pos} (T : OexC X.K C) (iC : PySem.W.findIn X.K (.ref C) "__init__" = some (some (.ref fI))) (tI : PySem.W.typeIn X.K (.ref fI) = some (.type "function"))
    (F1 : FnOk X.prog X.w X.K X.mg X.base CX k fI fd ps sp) (hr : Room (k + 1) X.A) (hb : L2.Binds X.K fd ps []) (hx : Passes CX X (fun _ _ _ => False)) (hg : Gl X x) (hm : X.mg x = some (.ref C))
    (hdb : (x == ("__debug__" : Str)) = false := by decide) : PMk X (.Call (.Name x p) [] [] pos) (tMkN C sp) := by
  intro pins s σ H Q I h
  obtain ⟨nm, q, N, bs, bm, sn, sub, ab, col, dd, k0, k1, k2, k3, k5, hC, hbm⟩ := T.cls
  refine wpAny_Call_Name_kw (ld_glob I hg hm ?_ hdb)
  refine PySem.W.callWith_K0 I.kIn T.kC ?_
  show wpAny _ _ (call (.ref C) []) _ _ _
  obtain ⟨hp, g, dr, tk, os⟩ := s
  have hsz : hp.objs.size ≤ hp.objs.size + 1 := Nat.le_succ _
  have hn : H (hp.objs.size + 1) = none := I.hok.fresh hsz
  have hq := h (hp.objs.size + 1) hn
  have kk : ∀ b o, hp.get? b = some o → ((hp.push (PySem.W.kdv_tup [])).push (PySem.HandSPX.excO C hp.objs.size)).get? b = some o := fun b o e => Heap.get?_push_of_some _ (Heap.get?_push_of_some _ e)
  have hget : ((hp.push (PySem.W.kdv_tup [])).push (PySem.HandSPX.excO C hp.objs.size)).get? (hp.objs.size + 1) = some (PySem.HandSPX.excO C hp.objs.size) := by heap_get
  have I2 : Inv X pins σ (upd H (hp.objs.size + 1) (exo (hp.objs.size + 1) C none)) ⟨(hp.push (PySem.W.kdv_tup [])).push (PySem.HandSPX.excO C hp.objs.size), g, dr, tk, os⟩ :=
    I.laid (t' := tk) (a := hp.objs.size + 1) (o := exo (hp.objs.size + 1) C none) (h' := (hp.push (PySem.W.kdv_tup [])).push (PySem.HandSPX.excO C hp.objs.size)) kk hsz (exo_ok hget)
  have r2 : Vals [V.ref (hp.objs.size + 1)] [Value.ref (hp.objs.size + 1)] := .cons rfl .nil
  have hl : ([Value.ref (hp.objs.size + 1)] ++ ([] : List Value)).length = ps.length := by
    have e := r2.length
    rw [F1.len _ _ _ _ hq] at e
    exact e.symm
  refine wpAny_call (PySem.HandSPX.call_own F.excBase_ValueError (fun Y => PySem.HandSPX.refsVE_contains Y bm hbm) (I.kIn _ _ hC) (PySem.W.looks_findIn I.kIn iC) (fun self => PySem.W.bind_fn I.kIn self tI) (Nat.zero_le _)
    (codeAny_mono (F1.run _ X.stack _ _ ⟨[Value.ref (hp.objs.size + 1)], []⟩ [Value.ref (hp.objs.size + 1)] _ _ (fun _ _ _ => False) (hr.make C [] []) (I2.env0.make C [] []) (hb _ [Value.ref (hp.objs.size + 1)] I2.kIn hl) r2 hq) fun r s' hq' => ?_))
  cases r with
  | error er => exact hx pins σ _ _ er s' I2 hq'
  | ok fl =>
    cases fl with
    | ret u =>
      obtain ⟨v, H2, os2, bare2, un2, hok2, rv, ev, ea, q2⟩ := hq'
      subst ev
      obtain ⟨h2, g2, d2, t2, os'⟩ := s'
      exact ⟨rv, mk_endN (raises_own T.exC T.tyC) I hsz kk un2 hok2 os2 bare2 ea q2⟩
    | next => exact False.elim hq'
    | brk => exact False.elim hq'
    | cont => exact False.elim hq'
end
end Du
namespace Du
open PySem L2 PySem.Spec PyProof.Rows LamX
/-- try: ask() / except e: return True / behind it: return False -/
def TRef (K : PySem.W.Frag) (CS : Addr) : (XK → Hp → VK → Prop) → Hp → VK → Prop := fun tl H Q =>
  tl (fun cls _ H' => ∃ b, PySem.W.exmOne K cls (.ref CS) = some b ∧ (b = true → Q (.bl true) H') ∧ (b = false → False)) H fun _ H' => Q (.bl false) H'
end Du
namespace Du
open PySem L2 PySem.Spec PyProof.Rows
/-! the keys of a dict whose keys are tuples of tuples, walked -/
def Itn (hf : NestedKey → Int) (d : Addr) (o : Obj) (es : NEs) : It :=
  ⟨fun i H => H d = some (NDO hf d es o) ∧ i < es.length, fun i H x H' => H' = H ∧ ∃ e, es[i]? = some e ∧ x = .ref e.2.1, fun i H => H d = some (NDO hf d es o) ∧ es.length ≤ i⟩
theorem NPr.at' {es : NEs} {xs : List (NestedKey × Addr × Value)} (r : NPr es xs) : ∀ {i : Nat} {e : NestedKey × Addr × V}, es[i]? = some e → ∃ x, xs[i]? = some x ∧ e.2.1 = x.2.1 := by
  unfold NPr at r
  induction r with
  | nil => intro i e h; simp at h
  | @cons e x es xs hx t ih =>
    intro i e' h
    cases i with
    | zero =>
      have h' : e = e' := by simpa using h
      subst h'; exact ⟨x, rfl, hx.2.1⟩
    | succ i => obtain ⟨y, h1, h2⟩ := ih (by simpa using h); exact ⟨y, by simpa using h1, h2⟩
section
variable {X : Cx} {pins : List (Addr × Obj)} {σ : L2.St} {H : Hp} {s : Shared} {d : Addr} {o : Obj} {hf : NestedKey → Int} {es : NEs}
end
section
variable {P : Program} {w : World} {K : PySem.W.Frag} {tg : Expr} {d : Addr} {o : Obj} {ee : Array DictEntry} {ep : Nat} {hf : NestedKey → Int} {es : NEs}
end
def iKeysN (w : World) (td : TE) : TI := fun σ H R => td σ H fun x H1 => ∃ d o es, x = .ref d ∧ H1 d = some (NDO (fun k => k.hash w) d es o) ∧ R (Itn (fun k => k.hash w) d o es) H1
section
variable {ρ : Rho} {w : World} {te : TE} {kvs : List (NestedKey × D)}
end
/-! dict(xs), xs a list of pairs whose first parts are unlike tuples of tuples -/
def rDictPN (K : PySem.W.Frag) (w : World) : List V → Hp → VK → Prop := fun xs H Q => ∃ (a : Addr) (ps : List Addr) (es : NEs), xs = [.ref a] ∧ SqL K H a (ps.map V.ref) ∧
  Paired (fun p e => SqT K H p [.ref e.2.1, e.2.2] ∧ NkV H e.1 (.ref e.2.1) ∧ e.1.depth ≤ 8) ps es ∧ (es.map (·.1)).Nodup ∧ ∀ p o, H p = none → Q (.ref p) (upd H p (NDO (fun k => k.hash w) p es o))
section
variable {X : Cx}
end
end Du
namespace Du
open PySem L2 PySem.Spec PyProof.Rows
/-! a dict of the written part, by texts -/
section
variable {X : Cx} {K : PySem.W.Frag} {w : World} {d : Addr} {es : Array DictEntry} {n : Nat}
def rInKd (K : PySem.W.Frag) (d : Addr) : R2 := fun x y H Q => ∃ (z : Str) (r : Option Value), x = .str z ∧ y = .ref d ∧ PySem.W.nsIn K d z = some r ∧ Q (.bl r.isSome) H
def rNotInKd (K : PySem.W.Frag) (d : Addr) : R2 := fun x y H Q => ∃ (z : Str) (r : Option Value), x = .str z ∧ y = .ref d ∧ PySem.W.nsIn K d z = some r ∧ Q (.bl (!r.isSome)) H
end
/-! the last item -/
theorem atI_last {α : Type} {xs : List α} {x : α} : atI (xs ++ [x]) (-1) = some x := by
  unfold atI ixN
  have h1 : ((-1 : Int) + ((xs ++ [x]).length : Nat)).toNat = xs.length := by rw [List.length_append]; simp only [List.length_singleton]; omega
  rw [if_neg (by decide), if_pos (by rw [List.length_append]; simp only [List.length_singleton]; omega), Option.bind_some, h1]
  simp
section
variable {K : PySem.W.Frag} {ρ ρ' : Rho} {μ μ' : Mu} {te ta tb tl : TE} {ts us : TS} {Φ : D → Mu → Prop} {N : Rho → Mu → Prop} {R : D → Mu → Prop} {c : D}
theorem Reps.last {Z : Addr → Prop} {H : Hp} : ∀ {vs : List V} {ds : List D} {d : D}, Reps Z H vs (ds ++ [d]) → ∃ ws v, vs = ws ++ [v] ∧ Rep Z H v d
  | _, [], _, .cons r .nil => ⟨[], _, rfl, r⟩
  | _, _ :: _, _, .cons r t => by
    obtain ⟨ws, v, rfl, h⟩ := Reps.last t
    exact ⟨_ :: ws, v, rfl, h⟩
theorem rd_lastL {ds : List D} {d : D} : R2D (rIx K) (.lst (ds ++ [d])) (.int (-1)) d := fun Z H x y Q k r1 r2 q => by
  cases r2
  cases r1 with
  | lst n h1 r =>
    obtain ⟨ws, v, rfl, e⟩ := Reps.last r
    exact .inl ⟨_, _, _, v, rfl, rfl, .inl (.inl h1), atI_last, q v H (Ex.rf H) e⟩
/-! two names at once, where more is owned -/
theorem gn_parX {i j : Nat} {t : TA} (h : GXA t ρ μ fun ds μ' => ∃ d e, ds = [d, e] ∧ N ((ρ.set i (some d)).set j (some e)) μ') : GN (tPar i j t) ρ μ N R := fun Z σ H E k s m n r =>
  h Z σ H _ k s m fun vs H' ds μ' Z' q z rd => by
    obtain ⟨d, e, rfl, q⟩ := q
    cases rd with
    | cons r1 rd => cases rd with
      | cons r2 rd =>
        cases rd
        exact ⟨_, _, rfl, n _ H' _ μ' Z' q z (((z.srep m s).set i r1).set j r2)⟩
/-! a call that hands back a new list -/
/-! a comprehension's list is new -/
/-! small rules with effects -/
theorem gs_parE {i j : Nat} {t : TA} (h : GEA t ρ μ fun ds μ' => ∃ d e, ds = [d, e] ∧ N ((ρ.set i (some d)).set j (some e)) μ') : GS (tPar i j t) ρ μ N R := fun Z σ H E k s m n r =>
  h Z σ H _ k s m fun vs H' ds μ' q z rd => by
    obtain ⟨d, e, rfl, q⟩ := q
    cases rd with
    | cons r1 rd => cases rd with
      | cons r2 rd =>
        cases rd
        exact ⟨_, _, rfl, n _ H' _ μ' Z q (z.nz k) (((s.mono (z.to m)).set i r1).set j r2)⟩
theorem ge_ifE {c : TT} (h : GT c ρ μ fun b μ1 => if b = true then GE ta ρ μ1 Φ else GE tb ρ μ1 Φ) : GE (tIf c ta tb) ρ μ Φ := fun Z σ H Q k s m f =>
  h Z σ H _ k s m fun b H1 μ1 g n1 => by
    have k1 := n1.ok k
    have s1 := s.mono (n1.to m)
    cases b with
    | true =>
      rw [if_pos rfl] at g
      exact iteT (g Z σ H1 Q k1 s1 n1.mem fun v H' d μ' q n r => f v H' d μ' q (n1.tr n) r)
    | false =>
      rw [if_neg (by simp)] at g
      exact iteF (g Z σ H1 Q k1 s1 n1.mem fun v H' d μ' q n r => f v H' d μ' q (n1.tr n) r)
/-! a slice of a tuple -/
/-! things of another class -/
structure InsT (K : PySem.W.Frag) (B : Addr) : Prop where
  cl : Cls K B
  ic : PySem.W.findIn K (.ref B) "__class__" = some (some (.builtin "object.__class__"))
  sg : PySem.W.specialIn K (.builtin "object.__class__") "__get__" = some (some (.builtin "getset_descriptor.__get__"))
  tk : PySem.W.takesIn K (.builtin "object.__class__") = some true
  mr : PySem.W.mroIn K B (.type "object") = some true
end
end Du
namespace Du
open PySem L2
def top (i : Nat) : Stmt := PySem.Challenge.pw_deedmeanings_k57_texts_of_says_refused.main.body.getD i (.Pass ⟨0, 0, 0, 0⟩)
/-- what the top leaves unbound -/
structure Bn (mg : Str → Option Value) : Prop where
  len : mg "len" = none
  sorted : mg "sorted" = none
  set : mg "set" = none
  str : mg "str" = none
  int : mg "int" = none
  tuple : mg "tuple" = none
  list : mg "list" = none
  any : mg "any" = none
  all : mg "all" = none
  isinstance : mg "isinstance" = none
  range : mg "range" = none
  zip : mg "zip" = none
  bool : mg "bool" = none
  dict : mg "dict" = none
  enumerate : mg "enumerate" = none
  repr : mg "repr" = none
/-! the sets of some names -/
def choices : List Str → List (List Str)
  | [] => [[]]
  | n :: ns => [[]] ++ (choices ns).map (n :: ·) ++ (choices ns).drop 1
theorem choices_len : ∀ ns : List Str, (choices ns).length = 2 ^ ns.length
  | [] => rfl
  | n :: ns => by
    have ih := choices_len ns
    have hp : 0 < 2 ^ ns.length := Nat.pow_pos (by decide)
    simp only [choices, List.length_append, List.length_map, List.length_drop, List.length_cons, List.length_nil, ih, Nat.pow_succ]
    omega
theorem choices_pos (ns : List Str) : 0 < (choices ns).length := by rw [choices_len]; exact Nat.pow_pos (by decide)
theorem choices_le {ns : List Str} (h : ns.length ≤ 12) : (choices ns).length ≤ 4096 := by rw [choices_len]; exact Nat.pow_le_pow_right (n := 2) (by decide) h
theorem choices_sub : ∀ {ns r : List Str}, r ∈ choices ns → r.Sublist ns
  | [], r, h => by simp [choices] at h; subst h; exact .slnil
  | n :: ns, r, h => by
    simp only [choices, List.mem_append, List.mem_singleton, List.mem_map] at h
    rcases h with (rfl | ⟨q, hq, rfl⟩) | h
    · exact List.nil_sublist _
    · exact (choices_sub hq).cons_cons n
    · exact (choices_sub (List.mem_of_mem_drop h)).cons n
theorem choices_mem_len {ns r : List Str} (h : r ∈ choices ns) : r.length ≤ ns.length := (choices_sub h).length_le
abbrev lS (ss : List Str) : D := .lst (ss.map D.str)
abbrev lR (rs : List (List Str)) : D := .lst (rs.map tS)
def RChoices (ds : List D) (d : D) : Prop := ∃ ns : List Str, (ds = [lS ns] ∨ ds = [tS ns]) ∧ ns.length ≤ 12 ∧ d = lR (choices ns)
section
variable {P : Program} {w : World} {K : PySem.W.Frag} {mg : Str → Option Value} {base : Heap}
abbrev s_choices_of : Stmt := top 5
abbrev n_choices_of : List Str := ["names", "found", "name", "some"]
theorem sc_choices_of : FnScope n_choices_of ["names"] (defScope s_choices_of) := ⟨rfl, rfl, rfl, by decide +kernel, rfl, by decide +kernel, by decide +kernel⟩

theorem ok_choices_of {f : Addr} {fd : FuncData} (F : Fun K "choices_of" "choices_of" s_choices_of f fd) (T : Bn mg) : FnOk P w K mg base CX0 1 f fd ["names"] (spP RChoices) := by
  refine pure_ok F sc_choices_of (fun ds d h => ?_) (fun cdv A outer s H E hr => ?_)
  · obtain ⟨ns, rfl | rfl, _⟩ := h <;> rfl
  · refine ⟨_, (pss_cons (ps_set (i := 1) sc_choices_of.nd rfl (by first | exact Or.inl rfl | exact Or.inr rfl) (pe_lst (pa_cons (pe_tup pa_nil) pa_nil))) (pss_cons (ps_for PassesOwn.never rfl (k_seq (K := K) rfl (k_rev (K := K) rfl (pv 0))) (pg_name (i := 2) sc_choices_of.nd rfl (by first | exact Or.inl rfl | exact Or.inr rfl)) (pss_one (ps_set (i := 1) sc_choices_of.nd rfl (by first | exact Or.inl rfl | exact Or.inr rfl) (pe_op (k_addU (K := K) rfl) (pe_op (k_addU (K := K) rfl) (pe_lst (pa_cons (pe_tup pa_nil) pa_nil)) (pe_lc (own := [("some", 3)]) rfl sc_choices_of.nd (k_seq (K := K) rfl (pv 1)) (blkOk_by (own := [("some", 3)]) (N := n_choices_of) (sc := defScope s_choices_of) (by decide +kernel)) (fun _ _ _ _ _ => (pg_name (i := 3) sc_choices_of.nd rfl (by first | exact Or.inl rfl | exact Or.inr rfl))) (fun _ _ _ _ _ => pts_nil) (fun _ _ _ _ _ => (pe_tup (pa_cons (pv 2) (k_star (K := K) rfl (pv 3) pa_nil)))))) (pe_slice (k_sl (K := K) rfl) (pv 1) (po_some pe_int) po_none))))) (pss_one (ps_ret (pv 1))))), ?_⟩
    intro ds d h
    obtain ⟨ns, hds, hn, rfl⟩ := h
    obtain ⟨d0, rfl, hI⟩ : ∃ d0, ds = [d0] ∧ EvI (iSeq K (tRev K (tVar 0))) [some d0, some (lR [[]]), none, none] (ns.map D.str).reverse := by
      rcases hds with rfl | rfl
      · exact ⟨_, rfl, ei_seqL (ev_revL (ev_var rfl))⟩
      · exact ⟨_, rfl, ei_seqT (ev_revT (ev_var rfl))⟩
    · refine .inl (st_seq (st_asg (d := lR [[]]) (ev_lst (ev_cons (ev_tup ev_nil (by decide)) ev_nil) (by decide)) ga_name) (st_seq
        (st_for (fun i => [some d0, some (lR (choices (ns.drop (ns.length - i)))), none, none]) hI ?_ ?_) (st_ret (ev_var ?_))))
      · simp only [Nat.sub_zero, List.drop_length]; exact Lq.rf _
      · intro i d hd
        have hi : i < ns.length := by
          have := (List.getElem?_eq_some_iff.mp hd).1
          simpa using this
        have hj : ns.length - (i + 1) < ns.length := by omega
        have hx : d = .str ns[ns.length - (i + 1)] := by
          have : (ns.map D.str).reverse[i]? = some (D.str ns[ns.length - (i + 1)]) := by
            rw [List.getElem?_reverse (by simpa using hi), List.length_map, List.getElem?_map, show ns.length - 1 - i = ns.length - (i + 1) from by omega, List.getElem?_eq_getElem hj]; rfl
          rw [this] at hd; exact (Option.some.inj hd).symm
        have hdr : ns.drop (ns.length - (i + 1)) = ns[ns.length - (i + 1)] :: ns.drop (ns.length - i) := by
          rw [List.drop_eq_getElem_cons hj, show ns.length - (i + 1) + 1 = ns.length - i from by omega]
        generalize ns[ns.length - (i + 1)] = n at hx hdr
        subst hx
        have hl : (ns.drop (ns.length - i)).length ≤ 12 := by rw [List.length_drop]; omega
        rw [hdr]
        generalize ns.drop (ns.length - i) = rest at hl
        have hc := choices_le hl
        refine ⟨_, _, ga_name, st_asg (d := lR (choices (n :: rest))) ?_ ga_name, ?_⟩
        · have e : lR (choices (n :: rest)) = .lst (([.tup []] ++ (choices rest).map fun r => .tup (.str n :: (r.map D.str ++ []))) ++ ((choices rest).map tS).drop 1) := by
            simp [choices, lR, tS, List.map_drop]
          rw [e]
          refine ev_op (ev_op (ev_lst (ev_cons (ev_tup ev_nil (by decide)) ev_nil) (by decide)) (ev_lc1 (φ := tS) (ei_seqL (ev_var rfl)) (by omega) fun r hr => ⟨_, gw_name (by simp), ev_tup (ev_cons (ev_var rfl) (ev_starT (ev_var rfl) ev_nil)) ?_⟩) (rd_addL ?_)) (ev_cut1 (n := 1) (ev_var rfl) (eo_some ev_int) eo_none ?_) (rd_addL ?_)
          · have := choices_mem_len hr; simp; omega
          · simp; omega
          · have := choices_pos rest; simp; omega
          · simp; omega
        · exact .keep (.keep (.skip (.skip .nil)))
      · simp
end
end Du
namespace Du
open PySem L2
/-! the box of the later laws -/
theorem int_at {cs : List Int} {i : Nat} {x : V} (h : (cs.map V.int)[i]? = some x) : ∃ k : Int, cs[i]? = some k ∧ x = .int k := by
  rw [List.getElem?_map] at h
  obtain ⟨k, hk, rfl⟩ := Option.map_eq_some_iff.mp h
  exact ⟨k, hk, rfl⟩
/-- the script is walked through -/
theorem dw_sq {K : PySem.W.Frag} {Z : Addr → Prop} {H : Hp} {p : Addr} {cs : List Int} (h : SqL K H p (cs.map V.int)) (hp : ¬ Z p) : DW Z (Itl K p) H (cs.map D.int) := fun Z' hz => by
  have sq : ∀ H', Ext Z' H H' → SqL K H' p (cs.map V.int) := fun H' x => by
    rcases h with h | h
    · have nz : ¬ Z' p := fun z => (hz _ z).elim hp fun e => by rcases h with h | ⟨_, h⟩ <;> rw [e] at h <;> cases h
      exact .inl (h.imp (fun h => x _ _ nz h) fun ⟨o, h⟩ => ⟨o, x _ _ nz h⟩)
    · exact .inr h
  have e : (cs.map D.int).length = (cs.map V.int).length := by simp
  rw [e]
  refine walk_list.mono (fun H g => sq H g.1) fun i Hc x H' hi g y => ?_
  obtain ⟨rfl, y⟩ := y
  obtain ⟨k, hk, rfl⟩ := int_at y
  exact ⟨Ex.rf _, .int k, by rw [List.getElem?_map, hk]; rfl, .int k⟩
section
variable {P : Program} {w : World} {K : PySem.W.Frag} {mg : Str → Option Value} {base : Heap}
abbrev s_law_box : Stmt := top 25
abbrev n_law_box : List Str := ["_law_script", "_law_cell"]
theorem sc_law_box : FnScope n_law_box ["_law_script"] (defScope s_law_box) := ⟨rfl, rfl, rfl, by decide +kernel, rfl, by decide +kernel, by decide +kernel⟩

abbrev s_law_take : Stmt := top 26
abbrev n_law_take : List Str := ["_law_box_here", "_law_size", "_law_cell", "_law_whole", "_law_mixed", "_law_digit"]
theorem sc_law_take : FnScope n_law_take ["_law_box_here", "_law_size"] (defScope s_law_take) := ⟨rfl, rfl, rfl, by decide +kernel, rfl, by decide +kernel, by decide +kernel⟩

def bxr (a c : Addr) (gs xs : List Int) (d n : Int) : Mu := [(a, .lst [.ptr c, .int d, .lst (xs.map D.int), .int n]), (c, .lst (gs.map D.int))]
def BxS (a c : Addr) (N : Nat) (μ : Mu) : Prop := ∃ (gs xs : List Int) (d n : Int), μ = bxr a c gs xs d n ∧ 0 ≤ d ∧ 0 ≤ n ∧ n ≤ N ∧ (∀ g ∈ gs, 0 ≤ g) ∧ xs.length ≤ 100
theorem BxS.up {a c : Addr} {N M : Nat} {μ : Mu} (h : BxS a c N μ) (hn : N ≤ M) : BxS a c M μ := by
  obtain ⟨gs, xs, d, n, e, h1, h2, h3, h4⟩ := h
  exact ⟨gs, xs, d, n, e, h1, h2, by omega, h4⟩
theorem BxS.fst {a c : Addr} {N : Nat} {μ : Mu} (h : BxS a c N μ) : μ.map (·.1) = [a, c] := by
  obtain ⟨gs, xs, d, n, rfl, _⟩ := h; rfl
def RTake (ds : List D) (μ : Mu) (Φ : D → Mu → Prop) : Prop := ∃ (a c : Addr) (N k : Nat), ds = [.ptr a, .int k] ∧ BxS a c N μ ∧ N < 100000 ∧ 0 < k ∧ k < 100000 ∧
  ∀ (μ' : Mu) (d : Nat), BxS a c (N + 1) μ' → d < k → Φ (.int d) μ'
theorem bx_rd {ρ : Rho} {K : PySem.W.Frag} {a c : Addr} {gs xs : List Int} {d n : Int} {Φ : D → Mu → Prop} (j : Nat) {z : D} (h0 : ρ[0]? = some (some (.ptr a))) (hz : [D.ptr c, .int d, .lst (xs.map D.int), .int n][j]? = some z) (q : Φ z (bxr a c gs xs d n)) : GE (tOp (rIx K) (tVar 0) (tC (.int (j : Int)))) ρ (bxr a c gs xs d n) Φ :=
  ge_ixO (ge_ev (ev_var h0) (ge_ev ev_int ⟨a, 0, _, j, z, rfl, rfl, rfl, hz, q⟩))
theorem bx_wr {ρ : Rho} {a c : Addr} {te : TE} {μ : Mu} {N : Rho → Mu → Prop} {R : D → Mu → Prop} (j : Nat) (h0 : ρ[0]? = some (some (.ptr a))) (hj : j < 4) (h : GE te ρ μ fun v μ1 => ∃ gs xs d n, μ1 = bxr a c gs xs d n ∧ N ρ [(a, .lst ([D.ptr c, .int d, .lst (xs.map D.int), .int n].set j v)), (c, .lst (gs.map D.int))]) : GS (tAsg te (gSub (tVar 0) (tC (.int (j : Int))) rSetL)) ρ μ N R :=
  gs_setO (h.mono fun v μ1 ⟨gs, xs, d, n, e, q⟩ => by subst e; exact ge_ev (ev_var h0) (ge_ev ev_int ⟨a, 0, _, j, rfl, rfl, rfl, hj, q⟩))
theorem bx_pow {i j : Int} (h : CPow i j) : R2D (rI CPow fun i j => .int (i ^ j.toNat)) (.int i) (.int j) (.int (i ^ j.toNat)) := fun Z H x y Q k r1 r2 q => by
  cases r1; cases r2; exact ⟨i, j, rfl, rfl, h, q _ H (Ex.rf H) (.int _)⟩
theorem bx_div {i j : Int} (h : CDiv i j) : R2D (rI CDiv fun i j => .int (i / j)) (.int i) (.int j) (.int (i / j)) := fun Z H x y Q k r1 r2 q => by
  cases r1; cases r2; exact ⟨i, j, rfl, rfl, h, q _ H (Ex.rf H) (.int _)⟩
theorem bx_gt {i j : Int} : R2D (rI0 fun i j => .bl (decide (j < i))) (.int i) (.int j) (.bl (decide (j < i))) := rd_I0 (z := fun i j => .bl (decide (j < i))) fun _ _ => .bl _
theorem bx_ge {i j : Int} : R2D (rI0 fun i j => .bl (decide (j ≤ i))) (.int i) (.int j) (.bl (decide (j ≤ i))) := rd_I0 (z := fun i j => .bl (decide (j ≤ i))) fun _ _ => .bl _
theorem okI (cs : List Int) : okE (.lst (cs.map D.int)) := (okN_lst (n := 0) fun d hd => by obtain ⟨i, _, rfl⟩ := List.mem_map.mp hd; exact okN_int).e (by decide)
theorem eqI0 (cs : List Int) : eqD (.lst (cs.map D.int)) (.lst []) = decide (cs = []) := by
  rw [eqD_lst0]
  cases cs <;> rfl
theorem ok_law_take {f : Addr} {fd : FuncData} (F : Fun K "_law_take" "_law_take" s_law_take f fd) (T : Bn mg) : FnOk P w K mg base CX0 1 f fd ["_law_box_here", "_law_size"] (spM RTake) := by
  refine eff_ok F sc_law_take (fun ds μ Φ h => ?_) (fun cdv A outer s H E hr => ?_)
  · obtain ⟨a, c, N, k, rfl, _⟩ := h; rfl
  · refine ⟨_, (pss_cons (ps_asg (pe_op (k_addU (K := K) rfl) (pe_ix (k_ix (K := K) rfl) (pv 0) pe_int (fun _ _ => rfl)) pe_int) (pg_sub (pv 0) pe_int set_list)) (pss_cons (ps_if (PW.pt (pw_and (pt_cmpR (k_eq (K := K) rfl hr) (pe_ix (k_ix (K := K) rfl) (pv 0) pe_int (fun _ _ => rfl)) pe_int (nomark _)) (pw_and1 (pt_cmpR op_gt (pe_callB (k_len (K := K) rfl) (by rfl) T.len (by decide +kernel) (pa_cons (pe_ix (k_ix (K := K) rfl) (pv 0) pe_int (fun _ _ => rfl)) pa_nil)) pe_int (nomark _))))) (pss_one (ps_asg (k_bm (K := K) rfl PySem.F.plainAttrs_list PySem.F.slot_list_pop PySem.F.type_list_pop mt_popAt (pe_ix (k_ix (K := K) rfl) (pv 0) pe_int (fun _ _ => rfl)) (pa_cons pe_int pa_nil)) (pg_sub (pv 0) pe_int set_list))) pss_nil) (pss_cons (ps_if (pt_cmpR op_gt (pe_ix (k_ix (K := K) rfl) (pv 0) pe_int (fun _ _ => rfl)) pe_int (nomark _)) (pss_cons (ps_set (i := 5) sc_law_take.nd rfl (by first | exact Or.inl rfl | exact Or.inr rfl) (pe_op op_mod (pe_callTy call_int1 (by rfl) T.int (by decide +kernel) (pa_cons (pe_ix (k_ix (K := K) rfl) (pv 0) pe_int (fun _ _ => rfl)) pa_nil)) (pv 1))) (pss_cons (ps_asg (pe_op op_fdiv (pe_ix (k_ix (K := K) rfl) (pv 0) pe_int (fun _ _ => rfl)) (pv 1)) (pg_sub (pv 0) pe_int set_list)) (pss_one (ps_ret (pv 5))))) pss_nil) (pss_cons (ps_set (i := 2) sc_law_take.nd rfl (by first | exact Or.inl rfl | exact Or.inr rfl) (pe_ifExp (pt_cmpR (k_eq (K := K) rfl hr) (pe_ix (k_ix (K := K) rfl) (pv 0) pe_int (fun _ _ => rfl)) (pe_lst pa_nil) (nomark _)) (pe_op op_mulU pe_int (pe_ix (k_ix (K := K) rfl) (pv 0) pe_int (fun _ _ => rfl))) (pe_ix (k_ix (K := K) rfl) (pe_ix (k_ix (K := K) rfl) (pv 0) pe_int (fun _ _ => rfl)) (pe_op op_mod (pe_callTy call_int1 (by rfl) T.int (by decide +kernel) (pa_cons (pe_ix (k_ix (K := K) rfl) (pv 0) pe_int (fun _ _ => rfl)) pa_nil)) (pe_callB (k_len (K := K) rfl) (by rfl) T.len (by decide +kernel) (pa_cons (pe_ix (k_ix (K := K) rfl) (pv 0) pe_int (fun _ _ => rfl)) pa_nil))) (fun _ _ => rfl)))) (pss_cons (ps_set (i := 3) sc_law_take.nd rfl (by first | exact Or.inl rfl | exact Or.inr rfl) (pe_op (k_addU (K := K) rfl) (pe_op op_mod (pe_callTy call_int1 (by rfl) T.int (by decide +kernel) (pa_cons (pv 2) pa_nil)) pe_int) (pe_op op_mulU (pe_op op_mulU pe_int (pe_ix (k_ix (K := K) rfl) (pv 0) pe_int (fun _ _ => rfl))) (pe_ix (k_ix (K := K) rfl) (pv 0) pe_int (fun _ _ => rfl))))) (pss_cons (ps_set (i := 4) sc_law_take.nd rfl (by first | exact Or.inl rfl | exact Or.inr rfl) (pe_op op_mod (pe_op op_pow (pe_callTy call_int1 (by rfl) T.int (by decide +kernel) (pa_cons (pe_op (k_addU (K := K) rfl) (pe_op (k_addU (K := K) rfl) (pv 3) (pe_op op_mulU pe_int (pe_ix (k_ix (K := K) rfl) (pv 0) pe_int (fun _ _ => rfl)))) pe_int) pa_nil)) pe_int) pe_int)) (pss_one (ps_ret (pe_op op_mod (pe_op op_fdiv (pe_op op_mod (pe_callTy call_int1 (by rfl) T.int (by decide +kernel) (pa_cons (pe_op (k_addU (K := K) rfl) (pe_op op_mulU (pv 4) pe_int) (pe_op op_mulU pe_int (pe_ix (k_ix (K := K) rfl) (pv 0) pe_int (fun _ _ => rfl)))) pa_nil)) pe_int) pe_int) (pv 1)))))))))), ?_⟩
    intro ds μ Φ h
    obtain ⟨a, c, N, k, rfl, ⟨gs, xs, d, n, rfl, hd0, hn0, hnN, hg, hx⟩, hN, hk0, hk1, q0⟩ := h
    have q : ∀ (gs' : List Int) (d' n' : Int) (e : Nat), 0 ≤ d' → 0 ≤ n' → n' ≤ (N + 1 : Nat) → (∀ g ∈ gs', 0 ≤ g) → e < k → Φ (.int e) (bxr a c gs' xs d' n') := fun gs' d' n' e h1 h2 h3 h4 he => q0 _ e ⟨gs', xs, d', n', rfl, h1, h2, h3, h4, hx⟩ he
    refine gs_seq (bx_wr (a := a) (c := c) 3 rfl (by decide) (ge_op (bx_rd 3 rfl rfl (ge_ev ev_int ⟨_, rd_addI, gs, xs, d, n, rfl, ?_⟩))))
    refine gs_mid (fun ρ' μ' => ∃ gs' d', ρ' = [some (.ptr a), some (.int k), none, none, none, none] ∧ μ' = bxr a c gs' xs d' (n + 1) ∧ 0 ≤ d' ∧ ∀ g ∈ gs', 0 ≤ g) (gs_if ?_) ?_
    · refine gt_and (gt_test (ge_op (bx_rd (gs := gs) (xs := xs) (d := d) (n := n + 1) 1 rfl rfl (ge_ev ev_int ⟨_, rd_eq ok_int ok_int, _, rfl, ?_⟩))))
      rw [eqD_int]
      by_cases h : d = 0
      · rw [if_pos (by simpa using h)]
        refine gt_test (ge_op (ge_lenO (gea_cons (bx_rd 0 rfl rfl (gea_nil ⟨c, 1, _, rfl, rfl, ge_ev ev_int ⟨_, bx_gt, _, rfl, ?_⟩⟩)))))
        cases gs with
        | nil =>
          rw [if_neg (by simp)]
          exact gs_next ⟨[], d, rfl, rfl, hd0, hg⟩
        | cons g gs =>
          rw [if_pos (by simp)]
          exact bx_wr (a := a) (c := c) 1 rfl (by decide) (ge_popO (bx_rd 0 rfl rfl ⟨c, 1, _, rfl, rfl, gea_ev (ev_cons ev_int ev_nil) ⟨_, 0, _, rfl, rfl, by decide, rfl, gs, xs, d, n + 1, rfl, gs, g, rfl, rfl, hg g List.mem_cons_self, fun y hy => hg y (List.mem_cons_of_mem _ hy)⟩⟩))
      · rw [if_neg (by simpa using h)]
        exact gs_next ⟨gs, d, rfl, rfl, hd0, hg⟩
    · rintro ρ' μ' ⟨gs', d', rfl, rfl, hd', hg'⟩
      refine gs_mid (fun ρ' μ' => ρ' = [some (.ptr a), some (.int k), none, none, none, none] ∧ μ' = bxr a c gs' xs d' (n + 1)) (gs_if (gt_test (ge_op (bx_rd 1 rfl rfl (ge_ev ev_int ⟨_, bx_gt, _, rfl, ?_⟩))))) ?_
      · by_cases h : 0 < d'
        · rw [if_pos (by simpa using h)]
          refine gs_seq (gs_asg (ge_op (ge_cb (gea_cons (bx_rd 1 rfl rfl (gea_nil ⟨_, rl_intI, ge_ev (ev_var rfl) ⟨_, rd_mod (by omega), ?_⟩⟩))))))
          refine gs_seq (bx_wr (a := a) (c := c) 1 rfl (by decide) (ge_op (bx_rd 1 rfl rfl (ge_ev (ev_var rfl) ⟨_, bx_div ⟨by omega, by omega⟩, gs', xs, d', n + 1, rfl, ?_⟩))))
          have e : d' % (k : Int) = ((d'.toNat % k : Nat) : Int) := by rw [Int.natCast_emod, Int.toNat_of_nonneg hd']
          have qq := q gs' (d' / k) (n + 1) (d'.toNat % k) (Int.ediv_nonneg hd' (by omega)) (by omega) (by omega) hg' (Nat.mod_lt _ hk0)
          rw [← e] at qq
          exact gs_ret (ge_ev (ev_var rfl) ⟨rfl, qq⟩)
        · rw [if_neg (by simpa using h)]
          exact gs_next ⟨rfl, rfl⟩
      · rintro ρ' μ' ⟨rfl, rfl⟩
        refine gs_mid (fun ρ' μ' => ∃ v : Int, ρ' = [some (.ptr a), some (.int k), some (.int v), none, none, none] ∧ μ' = bxr a c gs' xs d' (n + 1)) (gs_asg (ge_ifE (gt_test (ge_op (bx_rd 2 rfl rfl (ge_ev (ev_lst ev_nil (by decide)) ⟨_, rd_eq (okI xs) (okI []), _, rfl, ?_⟩)))))) ?_
        · rw [eqI0]
          cases hxs : xs with
          | nil =>
            rw [if_pos (by simp)]
            exact ge_op (ge_ev ev_int (bx_rd 3 rfl rfl ⟨_, rd_mulI (.inl ⟨by decide, by decide⟩), _, rfl, rfl⟩))
          | cons x0 xr =>
            rw [if_neg (by simp)]
            have lx : 0 < (x0 :: xr).length := by simp
            obtain ⟨v, hv⟩ : ∃ v, (x0 :: xr)[(n + 1).toNat % (x0 :: xr).length]? = some v := ⟨_, List.getElem?_eq_getElem (Nat.mod_lt _ lx)⟩
            refine ge_op (bx_rd 2 rfl rfl (ge_op (ge_cb (gea_cons (bx_rd 3 rfl rfl (gea_nil ⟨_, rl_intI, ge_cb (gea_cons (bx_rd 2 rfl rfl (gea_nil ⟨_, rl_lenL, _, rd_mod (by rw [List.length_map]; simp), .int v, ?_, v, rfl, rfl⟩)))⟩))))))
            have e : (n + 1) % (((x0 :: xr).map Du.D.int).length : Int) = (((n + 1).toNat % (x0 :: xr).length : Nat) : Int) := by
              rw [List.length_map, Int.natCast_emod, Int.toNat_of_nonneg (by omega)]
            rw [e]
            exact rd_ixL (by rw [List.getElem?_map, hv]; rfl)
        rintro ρ' μ' ⟨v, rfl, rfl⟩
        refine gs_seq (gs_asg (ge_op (ge_ev (ev_op (ev_cb (ev_cons (ev_var rfl) ev_nil) rl_intI) ev_int (rd_mod (by decide))) (ge_op (ge_op (ge_ev ev_int (bx_rd 3 rfl rfl ⟨_, rd_mulI (.inl ⟨by decide, by decide⟩), bx_rd 3 rfl rfl ⟨_, rd_mulI (.inr ⟨by omega, by omega⟩), _, rd_addI, ?_⟩⟩)))))))
        generalize hX : v % 2147483647 = X
        have hX0 : 0 ≤ X := by rw [← hX]; exact Int.emod_nonneg _ (by decide)
        have hX1 : X < 2147483647 := by rw [← hX]; exact Int.emod_lt_of_pos _ (by decide)
        have hnn : 0 ≤ (n + 1) * (n + 1) ∧ (n + 1) * (n + 1) ≤ 100001 * 100001 := ⟨Int.mul_nonneg (by omega) (by omega), Int.mul_le_mul (by omega) (by omega) (by omega) (by omega)⟩
        have hmul : 7919 * (n + 1) * (n + 1) = 7919 * ((n + 1) * (n + 1)) := Int.mul_assoc _ _ _
        have hp : CPow (X + 7919 * (n + 1) * (n + 1) + 104729 * (n + 1) + 5) 5 := ⟨by decide, by decide, by omega⟩
        refine gs_seq (gs_asg (ge_op (ge_op (ge_cb (gea_cons (ge_op (ge_op (ge_ev (ev_var rfl) (ge_op (ge_ev ev_int (bx_rd 3 rfl rfl ⟨_, rd_mulI (.inl ⟨by decide, by decide⟩), _, rd_addI, ge_ev ev_int ⟨_, rd_addI, gea_nil ⟨_, rl_intI, ge_ev ev_int ⟨_, bx_pow hp, ge_ev ev_int ⟨_, rd_mod (by decide), ?_⟩⟩⟩⟩⟩)))))))))))
        generalize hY : (X + 7919 * (n + 1) * (n + 1) + 104729 * (n + 1) + 5) ^ (5 : Int).toNat % 2147483629 = Y
        have hY0 : 0 ≤ Y := by rw [← hY]; exact Int.emod_nonneg _ (by decide)
        have hY1 : Y < 2147483629 := by rw [← hY]; exact Int.emod_lt_of_pos _ (by decide)
        refine gs_ret (ge_op (ge_op (ge_op (ge_cb (gea_cons (ge_op (ge_ev (ev_op (ev_var rfl) ev_int (rd_mulI (.inr ⟨by decide, by decide⟩))) (ge_op (ge_ev ev_int (bx_rd 3 rfl rfl ⟨_, rd_mulI (.inl ⟨by decide, by decide⟩), _, rd_addI, gea_nil ⟨_, rl_intI, ge_ev ev_int ⟨_, rd_mod (by decide), ge_ev ev_int ⟨_, bx_div ⟨by decide, by decide⟩, ge_ev (ev_var rfl) ⟨_, rd_mod (by omega), rfl, ?_⟩⟩⟩⟩⟩))))))))))
        generalize (Y * 40692 + 6151 * (n + 1)) % 1000000007 / 3 = W
        have hk' : (0 : Int) < k := by omega
        have e1 := Int.emod_nonneg W (show (k : Int) ≠ 0 by omega)
        have e2 := Int.emod_lt_of_pos W hk'
        have e : W % (k : Int) = (((W % (k : Int)).toNat : Nat) : Int) := (Int.toNat_of_nonneg e1).symm
        rw [e]
        exact q gs' d' (n + 1) _ hd' (by omega) (by omega) hg' (by omega)
def spBox (K : PySem.W.Frag) : Sp := fun vs H Q _ => ∃ (p : Addr) (cs : List Int), vs = [.ref p] ∧ SqL K H p (cs.map V.int) ∧ cs.length ≤ 100 ∧
  ∀ a c r H', a ≠ c → a ≠ r → c ≠ r → H' a = some (.lst [.ref c, .int 0, .ref r, .int 0]) → H' c = some (.lst ((cs.filter fun k => decide ((10 : Int) ^ 18 ≤ k)).map V.int)) → H' r = some (.lst ((cs.filter fun k => decide (k < (10 : Int) ^ 18)).map V.int)) → Q (.ref a) H'
theorem reps_ints {Z : Addr → Prop} {H : Hp} : ∀ {cs : List Int} {vs : List V}, Reps Z H vs (cs.map D.int) → vs = cs.map V.int
  | [], _, .nil => rfl
  | k :: cs, _, .cons r t => by cases r; rw [reps_ints t]; rfl
theorem ok_law_box {f : Addr} {fd : FuncData} (F : Fun K "_law_box" "_law_box" s_law_box f fd) (T : Bn mg) : FnOk P w K mg base CX0 1 f fd ["_law_script"] (spBox K) := by
  refine F.ok sc_law_box (fun vs H Q E h => ?_) (fun cdv A outer s H vs Q E hr h => ?_)
  · obtain ⟨p, cs, rfl, _⟩ := h; rfl
  · obtain ⟨p, cs, rfl, hp, hl, q⟩ := h
    refine ⟨_, (pss_one (ps_ret (pe_lst (pa_cons (pe_lc (own := [("_law_cell", 1)]) rfl sc_law_box.nd (k_seq (K := K) rfl (pv 0)) (blkOk_by (own := [("_law_cell", 1)]) (N := n_law_box) (sc := defScope s_law_box) (by decide +kernel)) (fun _ _ _ _ _ => (pg_name (i := 1) sc_law_box.nd rfl (by first | exact Or.inl rfl | exact Or.inr rfl))) (fun _ _ _ _ _ => pts_one (pt_cmpR op_ge (pv 1) (pe_op op_pow pe_int pe_int) (nomark _))) (fun _ _ _ _ _ => (pv 1))) (pa_cons pe_int (pa_cons (pe_lc (own := [("_law_cell", 1)]) rfl sc_law_box.nd (k_seq (K := K) rfl (pv 0)) (blkOk_by (own := [("_law_cell", 1)]) (N := n_law_box) (sc := defScope s_law_box) (by decide +kernel)) (fun _ _ _ _ _ => (pg_name (i := 1) sc_law_box.nd rfl (by first | exact Or.inl rfl | exact Or.inr rfl))) (fun _ _ _ _ _ => pts_one (pt_cmpR op_lt (pv 1) (pe_op op_pow pe_int pe_int) (nomark _))) (fun _ _ _ _ _ => (pv 1))) (pa_cons pe_int pa_nil))))))), ?_⟩
    have k0 : ∀ H : Hp, okZ (fun _ => False) H := fun H b h => h.elim
    have s0 : ∀ H : Hp, SRep (fun _ => False) H [some (.ref p), none] [none, none] := fun H => ⟨rfl, fun i d hi => by
      match i, hi with
      | 0, hi => cases hi
      | 1, hi => cases hi⟩
    have lc : ∀ {H : Hp} {tt : TT} {pb : Int → Bool} {Q : VK}, SqL K H p (cs.map V.int) → (∀ x ∈ cs, EvT tt [none, some (.int x)] (pb x)) → (∀ b H' ys, H b = none → Ex H H' → H' b = some (.lst ys) → Reps (fun _ => False) H' ys ((cs.filter pb).map D.int) → Q (.ref b) H') → tLc (iSeq K (tVar 0)) (gName 1) tt (tVar 1) [1] [some (.ref p), none] H Q := fun {H tt pb Q} hp ht q => .inl ⟨_, rfl, p, rfl, ⟨_, hp⟩, fun Dd hD => by
      obtain ⟨W, h0, hs⟩ := lc_main (Q := fun v H' => v = .ref Dd → Q (.ref Dd) H') (k0 H) (s0 H) (dw_sq hp fun h => h) (by omega) (fun x hx => ⟨[none, some (.int x)], gw_name (i := 1) (vs := [1]) (by decide), ht x hx, fun _ => ev_var (i := 1) rfl⟩) (fun v H' x' r' e => by
        subst e
        cases r' with
        | lst n h r => exact q Dd H' _ hD x' h r) Dd hD
      exact ⟨W, h0, fun i m H hW => (hs i m H hW).imp (fun ⟨a, b⟩ => ⟨a, b rfl⟩) id⟩⟩
    have sq : ∀ {H H' : Hp}, Ex H H' → SqL K H p (cs.map V.int) → SqL K H' p (cs.map V.int) := fun x h => h.imp (fun h => h.imp (x _ _) fun ⟨o, h⟩ => ⟨o, x _ _ h⟩) id
    have pw : ∀ {x : Int}, Ev (tOp (rI CPow fun i j => V.int (i ^ j.toNat)) (tC (.int 10)) (tC (.int 18))) [none, some (.int x)] (.int ((10 : Int) ^ 18)) := ev_op ev_int ev_int (bx_pow ⟨by decide, by decide, by decide⟩)
    dsimp only [tRet, tLst, tCons, tC, tNil]
    refine lc hp (pb := fun k => decide ((10 : Int) ^ 18 ≤ k)) (fun x hx => et_test (ev_op (ev_var (i := 1) rfl) pw bx_ge)) fun b H1 ys b0 x1 e1 r1 => ?_
    refine lc (sq x1 hp) (pb := fun k => decide (k < (10 : Int) ^ 18)) (fun x hx => et_test (ev_op (ev_var (i := 1) rfl) pw rd_lt)) fun r H2 zs r0 x2 e2 r2 => ?_
    refine ⟨show (4 : Nat) ≤ sizeLine by decide, fun a ha => ?_⟩
    have x3 : Ex H2 (upd H2 a (.lst [.ref b, .int 0, .ref r, .int 0])) := Ex.new ha
    have hb2 := x2 _ _ e1
    have nbr : b ≠ r := fun e => by rw [← e, e1] at r0; cases r0
    have nab : a ≠ b := fun e => by rw [e, hb2] at ha; cases ha
    have nar : a ≠ r := fun e => by rw [e, e2] at ha; cases ha
    refine q a b r _ nab nar nbr upd_same ?_ ?_
    · rw [x3 _ _ hb2, reps_ints r1]
    · rw [x3 _ _ e2, reps_ints r2]
end
end Du
namespace Du
open PySem L2
section
variable {P : Program} {w : World} {K : PySem.W.Frag} {mg : Str → Option Value} {base : Heap}
def spr (a c : Addr) (cs : List Int) (r n m : Int) : Mu := [(a, .lst [.ptr c, .int r, .int n, .int m]), (c, .lst (cs.map D.int))]
def SprOk (r n m : Int) (N : Nat) : Prop := 0 ≤ r ∧ 0 ≤ n ∧ n ≤ N ∧ 0 ≤ m ∧ m < 2147483647
def SpS (a c : Addr) (N : Nat) (μ : Mu) : Prop := ∃ (cs : List Int) (r n m : Int), μ = spr a c cs r n m ∧ SprOk r n m N
theorem SpS.up {a c : Addr} {N M : Nat} {μ : Mu} (h : SpS a c N μ) (hn : N ≤ M) : SpS a c M μ := by
  obtain ⟨cs, r, n, m, e, h1, h2, h3, h4, h5⟩ := h
  exact ⟨cs, r, n, m, e, h1, h2, by omega, h4, h5⟩
theorem SpS.fst {a c : Addr} {N : Nat} {μ : Mu} (h : SpS a c N μ) : μ.map (·.1) = [a, c] := by
  obtain ⟨cs, r, n, m, rfl, _⟩ := h; rfl
def RDraw (ds : List D) (μ : Mu) (Φ : D → Mu → Prop) : Prop := ∃ (a c : Addr) (N k : Nat), ds = [.ptr a, .int k] ∧ SpS a c N μ ∧ N < 100000 ∧ 0 < k ∧ k < 100000 ∧
  ∀ (μ' : Mu) (d : Nat), SpS a c (N + 1) μ' → d < k → Φ (.int d) μ'
theorem rd_gt {i j : Int} : R2D (rI0 fun i j => .bl (decide (j < i))) (.int i) (.int j) (.bl (decide (j < i))) := rd_I0 (z := fun i j => .bl (decide (j < i))) fun _ _ => .bl _
theorem rd_ge {i j : Int} : R2D (rI0 fun i j => .bl (decide (j ≤ i))) (.int i) (.int j) (.bl (decide (j ≤ i))) := rd_I0 (z := fun i j => .bl (decide (j ≤ i))) fun _ _ => .bl _
end
end Du
namespace Du
open PySem L2
/-! the class Say in data -/
def SayD (C : Addr) (ns : List Str) (ps : List (List Str)) : D := .ins C [("names", tS ns), ("points", .tup (ps.map tS))]
structure Tx (K : PySem.W.Frag) (mg : Str → Option Value) (C : Addr) : Prop extends Bn mg where
  g_Say : mg "Say" = some (.ref C)
  cl : Cls K C
  nN : NoAttr K C "names"
  nP : NoAttr K C "points"
  g_LETTERS : ∃ t, mg "LETTERS" = some (.str "abcdefghijklmnopqrstuvwxyz" t)
  g_LONGEST : ∃ t, mg "LONGEST" = some (.int 8 t)
  ic : PySem.W.findIn K (.ref C) "__class__" = some (some (.builtin "object.__class__"))
  isg : PySem.W.specialIn K (.builtin "object.__class__") "__get__" = some (some (.builtin "getset_descriptor.__get__"))
  itk : PySem.W.takesIn K (.builtin "object.__class__") = some true
  imr : PySem.W.mroIn K C (.type "object") = some true
abbrev okS (ns : List Str) : Prop := ∀ s ∈ ns, PyData.strOk s = true
theorem okE_tS {ns : List Str} (h : okS ns) : okN 1 (tS ns) := okN_tup (n := 0) fun d hd => by obtain ⟨s, hs, rfl⟩ := List.mem_map.mp hd; exact okN_str (h s hs)
theorem okE_lS {ns : List Str} (h : okS ns) : okN 1 (lS ns) := okN_lst (n := 0) fun d hd => by obtain ⟨s, hs, rfl⟩ := List.mem_map.mp hd; exact okN_str (h s hs)
theorem okE_lR {ps : List (List Str)} (h : ∀ p ∈ ps, okS p) : okN 2 (lR ps) := okN_lst (n := 1) fun d hd => by obtain ⟨s, hs, rfl⟩ := List.mem_map.mp hd; exact okE_tS (h s hs)
theorem okE_tR {ps : List (List Str)} (h : ∀ p ∈ ps, okS p) : okN 2 (.tup (ps.map tS)) := okN_tup (n := 1) fun d hd => by obtain ⟨s, hs, rfl⟩ := List.mem_map.mp hd; exact okE_tS (h s hs)
section
variable {P : Program} {w : World} {K : PySem.W.Frag} {mg : Str → Option Value} {base : Heap} {C : Addr}
/-! set_to -/
def setTo (row : List Str) (name : Str) (b : Bool) : List Str := srt (row.filter (fun o => !decide (o = name)) ++ if b then [name] else [])
def RSetTo (ds : List D) (d : D) : Prop := ∃ (row : List Str) (name : Str) (b : Bool), ds = [tS row, .str name, .bl b] ∧ row.length ≤ 20 ∧ okS row ∧ PyData.strOk name = true ∧ d = tS (setTo row name b)
abbrev s_set_to : Stmt := top 13
abbrev n_set_to : List Str := ["row", "name", "truth", "every", "one"]
theorem sc_set_to : FnScope n_set_to ["row", "name", "truth"] (defScope s_set_to) := ⟨rfl, rfl, rfl, by decide +kernel, rfl, by decide +kernel, by decide +kernel⟩

theorem ok_set_to {f : Addr} {fd : FuncData} (F : Fun K "set_to" "set_to" s_set_to f fd) (T : Bn mg) : FnOk P w K mg base CX0 1 f fd ["row", "name", "truth"] (spP RSetTo) := by
  refine pure_ok F sc_set_to (fun ds d h => ?_) (fun cdv A outer s H E hr => ?_)
  · obtain ⟨row, name, b, rfl, _⟩ := h; rfl
  · refine ⟨_, (pss_cons (ps_set (i := 3) sc_set_to.nd rfl (by first | exact Or.inl rfl | exact Or.inr rfl) (pe_op (k_addU (K := K) rfl) (pe_lc (own := [("one", 4)]) rfl sc_set_to.nd (k_seq (K := K) rfl (pv 0)) (blkOk_by (own := [("one", 4)]) (N := n_set_to) (sc := defScope s_set_to) (by decide +kernel)) (fun _ _ _ _ _ => (pg_name (i := 4) sc_set_to.nd rfl (by first | exact Or.inl rfl | exact Or.inr rfl))) (fun _ _ _ _ _ => pts_one (pt_cmpR (k_ne (K := K) rfl hr) (pv 4) (pv 1) (nomark _))) (fun _ _ _ _ _ => (pv 4))) (pe_op op_mulU (pe_lst (pa_cons (pv 1) pa_nil)) (pe_callTy call_int1 (by rfl) T.int (by decide +kernel) (pa_cons (pv 2) pa_nil))))) (pss_one (ps_ret (k_tupleOf (K := K) rfl (by rfl) T.tuple (pe_callB (k_sortedS (K := K) rfl) (by rfl) T.sorted (by decide +kernel) (pa_cons (pe_lc (own := [("one", 4)]) rfl sc_set_to.nd (k_seq (K := K) rfl (pv 3)) (blkOk_by (own := [("one", 4)]) (N := n_set_to) (sc := defScope s_set_to) (by decide +kernel)) (fun _ _ _ _ _ => (pg_name (i := 4) sc_set_to.nd rfl (by first | exact Or.inl rfl | exact Or.inr rfl))) (fun _ _ _ _ _ => pts_nil) (fun _ _ _ _ _ => (pe_callTy SkE.call_str_str (by rfl) T.str (by decide +kernel) (pa_cons (pv 4) pa_nil)))) pa_nil)))))), ?_⟩
    intro ds d h
    obtain ⟨row, name, b, rfl, hl, ho, hn, rfl⟩ := h
    have hfl := List.length_filter_le (fun o => !decide (o = name)) row
    have e : lS (row.filter (fun o => !decide (o = name)) ++ if b then [name] else []) = .lst ((row.filter fun o => !eqD (.str o) (.str name)).map D.str ++ (List.replicate (if b then 1 else 0) [D.str name]).flatten) := by
      have e1 : (fun o : Str => !eqD (.str o) (.str name)) = fun o => !decide (o = name) := by funext o; rw [eqD_str]
      rw [e1]
      cases b <;> simp [lS]
    refine .inl (st_seq (st_asg (d := lS (row.filter (fun o => !decide (o = name)) ++ if b then [name] else [])) (e ▸ ev_op (ev_lc (φ := D.str) (ei_seqT (ev_var rfl)) (by omega) fun r hr => ⟨_, gw_name (by simp), et_test (ev_op (ev_var rfl) (ev_var rfl) (rd_ne (ok_str (ho r hr)) (ok_str hn))), fun _ => ev_var rfl⟩)
      (ev_op (ev_lst (ev_cons (ev_var rfl) ev_nil) (by simp)) (ev_cb (ev_cons (ev_var rfl) ev_nil) rl_intB) (rd_rep (by cases b <;> decide) (by cases b <;> simp))) (rd_addL ?_)) ga_name)
      (st_ret (ev_then (ev_cb (ev_cons (ev_lc1 (φ := D.str) (fe := D.str) (ei_seqL (ev_var rfl)) ?_ fun r hr => ⟨_, gw_name (by simp), ev_cb (ev_cons (ev_var rfl) ev_nil) rl_str⟩) ev_nil) (rl_sorted ?_)) r1_tupL)))
    · have := List.length_filter_le (fun o => !eqD (.str o) (.str name)) row
      cases b <;> simp <;> omega
    · cases b <;> simp <;> omega
    · cases b <;> simp <;> omega
/-! Say.__init__ -/
def RInit (C : Addr) (ds : List D) (μ : Mu) (Φ : D → Mu → Prop) : Prop := ∃ (p : Addr) (ns : List Str) (ps : List (List Str)), ds = [.ptr p, lS ns, lR ps] ∧ μ = [(p, .ins C [])] ∧ Φ .non [(p, SayD C ns ps)]
abbrev s_Say_init : Stmt := inClass (top 16) 0
abbrev n_Say_init : List Str := ["self", "names", "points"]
theorem sc_Say_init : FnScope n_Say_init ["self", "names", "points"] (defScope s_Say_init) := ⟨rfl, rfl, rfl, by decide +kernel, rfl, by decide +kernel, by decide +kernel⟩

theorem ok_Say_init {f : Addr} {fd : FuncData} (F : Fun K "__init__" "Say.__init__" s_Say_init f fd) (T : Tx K mg C) : FnOk P w K mg base CX0 1 f fd ["self", "names", "points"] (spM (RInit C)) := by
  refine eff_ok F sc_Say_init (fun ds μ Φ h => ?_) (fun cdv A outer s H E hr => ?_)
  · obtain ⟨p, ns, ps, rfl, _⟩ := h; rfl
  · refine ⟨_, (pss_cons (ps_fld (pv 0) (k_tupleOf (K := K) rfl (by rfl) T.tuple (pv 1)) rfl) (pss_one (ps_fld (pv 0) (k_tupleOf (K := K) rfl (by rfl) T.tuple (pv 2)) rfl))), ?_⟩
    intro ds μ Φ h
    obtain ⟨p, ns, ps, rfl, rfl, q⟩ := h
    refine gs_seq (gs_fld (ge_ev (ev_then (ev_var rfl) r1_tupL) (ge_ev (ev_var rfl) ⟨p, 0, C, [], rfl, rfl, T.cl, T.nN, by decide, ?_⟩)))
    refine gs_fld (ge_ev (ev_then (ev_var rfl) r1_tupL) (ge_ev (ev_var rfl) ⟨p, 0, C, _, rfl, rfl, T.cl, T.nP, by simp [putD], rfl, ?_⟩))
    have e : putD "points" (.tup (ps.map tS)) [("names", tS ns)] = [(("names" : Str), tS ns), (("points" : Str), D.tup (ps.map tS))] := by
      unfold putD; rw [if_neg (by decide +kernel)]; rfl
    show Φ .non [(p, .ins C (putD "points" (.tup (ps.map tS)) [("names", tS ns)]))]
    rw [e]; exact q
end
end Du
namespace Du
open PySem L2
/-! the sets of some names, plainly -/
theorem choices_cons (ns : List Str) : choices ns = [] :: (choices ns).drop 1 := by
  cases ns with
  | nil => rfl
  | cons n ns => simp [choices]
theorem mem_choices {r : List Str} : ∀ {ns : List Str}, r ∈ choices ns ↔ r.Sublist ns
  | [] => by simp [choices]
  | n :: ns => by
    refine ⟨choices_sub, fun h => ?_⟩
    simp only [choices, List.mem_append, List.mem_singleton, List.mem_map]
    cases h with
    | cons _ h =>
      have := mem_choices.mpr h
      rw [choices_cons] at this
      rcases List.mem_cons.mp this with h | h
      · exact .inl (.inl h)
      · exact .inr h
    | cons_cons _ h => exact .inl (.inr ⟨_, mem_choices.mpr h, rfl⟩)
theorem choices_nodup : ∀ {ns : List Str}, ns.Nodup → (choices ns).Nodup
  | [], _ => by simp [choices]
  | n :: ns, h => by
    have hn := (List.nodup_cons.mp h).1
    have ih := choices_nodup (List.nodup_cons.mp h).2
    have ih' := ih
    rw [choices_cons] at ih'
    have h1 := (List.nodup_cons.mp ih')
    simp only [choices]
    rw [List.append_assoc, List.singleton_append]
    refine List.nodup_cons.mpr ⟨fun z => ?_, List.nodup_append.mpr ⟨?_, h1.2, fun a ha b hb e => ?_⟩⟩
    · rcases List.mem_append.mp z with z | z
      · obtain ⟨q, _, e⟩ := List.mem_map.mp z; cases e
      · exact h1.1 z
    · exact List.pairwise_map.mpr (ih.imp fun {a b} ne e => ne (List.cons.inj e).2)
    · obtain ⟨q, hq, rfl⟩ := List.mem_map.mp ha
      subst e
      have := choices_sub (List.mem_of_mem_drop hb)
      exact hn (this.subset List.mem_cons_self)
/-- sorted, no name twice -/
def SS (ns : List Str) : Prop := ns.Pairwise (fun a b => leS a b = true) ∧ ns.Nodup
theorem SS.sub {r ns : List Str} (h : SS ns) (s : r.Sublist ns) : SS r := ⟨h.1.sublist s, h.2.sublist s⟩
theorem SS.filter {ns : List Str} (h : SS ns) (p : Str → Bool) : SS (ns.filter p) := h.sub List.filter_sublist
theorem SS.uniq (ns : List Str) : SS (uniq ns) := ⟨uniq_sorted ns, uniq_nodup ns⟩
theorem SS.ext {r ns : List Str} (hr : SS r) (hn : SS ns) (h : ∀ x, x ∈ r ↔ x ∈ ns) : r = ns :=
  pw_unique ((List.perm_ext_iff_of_nodup hr.2 hn.2).mpr h) hr.1 hn.1
theorem SS.sublist {r ns : List Str} (hr : SS r) (hn : SS ns) (h : ∀ x ∈ r, x ∈ ns) : r.Sublist ns := by
  have e : r = ns.filter (fun x => decide (x ∈ r)) := hr.ext (hn.filter _) fun x => by
    simp only [List.mem_filter, decide_eq_true_eq]
    exact ⟨fun z => ⟨h x z, z⟩, fun z => z.2⟩
  rw [e]; exact List.filter_sublist
theorem srt_mem {x : Str} {ss : List Str} : x ∈ srt ss ↔ x ∈ ss := (srt_perm ss).mem_iff
theorem srt_SS {ss : List Str} (h : ss.Nodup) : SS (srt ss) := ⟨srt_sorted ss, (srt_perm ss).nodup_iff.mpr h⟩
theorem setTo_mem {row : List Str} {name x : Str} {b : Bool} : x ∈ setTo row name b ↔ (x ∈ row ∧ x ≠ name) ∨ (b = true ∧ x = name) := by
  unfold setTo
  rw [srt_mem, List.mem_append, List.mem_filter]
  cases b <;> simp
theorem setTo_SS {row : List Str} {name : Str} {b : Bool} (h : row.Nodup) : SS (setTo row name b) := by
  refine srt_SS (List.nodup_append.mpr ⟨h.sublist List.filter_sublist, by cases b <;> simp, fun a ha c hc e => ?_⟩)
  subst e
  have h1 := (List.mem_filter.mp ha).2
  cases b with
  | true => simp at hc; subst hc; simp at h1
  | false => simp at hc
theorem setTo_sub {ev row : List Str} {name : Str} (he : SS ev) (hr : row.Sublist ev) (hn : name ∈ ev) (b : Bool) : (setTo row name b).Sublist ev :=
  (setTo_SS (he.2.sublist hr)).sublist he fun x hx => by
    rcases setTo_mem.mp hx with h | h
    · exact hr.subset h.1
    · exact h.2 ▸ hn
/-! what said_at makes -/
def ess (ev : List Str) (pts : List (List Str)) (name : Str) : Bool := (choices ev).any fun row => decide (row ∈ pts) != decide (setTo row name true ∈ pts)
def sN (ns : List Str) (pts : List (List Str)) : List Str := (uniq ns).filter (ess (uniq ns) pts)
def sP (ns : List Str) (pts : List (List Str)) : List (List Str) := (choices (sN ns pts)).filter fun r => decide (r ∈ pts)
theorem sN_sub (ns : List Str) (pts : List (List Str)) : (sN ns pts).Sublist (uniq ns) := List.filter_sublist
theorem okS_sub {r ns : List Str} (h : okS ns) (s : ∀ x ∈ r, x ∈ ns) : okS r := fun x hx => h x (s x hx)
theorem okS_uniq {ns : List Str} (h : okS ns) : okS (uniq ns) := okS_sub h fun x hx => uniq_mem.mp hx
def RSaid (C : Addr) (ds : List D) (d : D) : Prop := ∃ (ns : List Str) (pts : List (List Str)), (ds = [lS ns, lR pts] ∨ ds = [tS ns, lR pts]) ∧ ns.length ≤ 12 ∧ okS ns ∧ (∀ p ∈ pts, okS p) ∧ d = SayD C (sN ns pts) (sP ns pts)
def RSaidG (C : Addr) (ds : List D) (d : D) : Prop := ∃ (ns : List Str) (pts : List (List Str)), (ds = [lS ns, lR pts] ∨ ds = [tS ns, lR pts]) ∧ (uniq ns).length ≤ 12 ∧ ns.length ≤ 4000 ∧ okS ns ∧ (∀ p ∈ pts, okS p) ∧ d = SayD C (sN ns pts) (sP ns pts)
theorem ev_sortedSetG {K : PySem.W.Frag} {w : World} {ρ : Rho} {te : TE} {ss : List Str} (h : Ev te ρ (.lst (ss.map D.str))) (hz : ss.length ≤ 4000) (hu : (uniq ss).length < 64) : Ev (tCB (rSortedTxt w) (tCons (tCB (rSetTxt K w) (tCons te tNil)) tNil)) ρ (.lst ((uniq ss).map D.str)) := fun Z σ H Q k s q =>
  h Z σ H _ k s fun x H1 x1 r1 => by
    cases r1 with
    | lst n h1 r =>
      refine ⟨_, ss, rfl, .inl (.inl (by rw [← r.strs]; exact h1)), Nat.lt_of_le_of_lt (m := 4001) (by omega) (by decide), fun p hp => ?_⟩
      have k1 := (k.ex x1)
      refine ⟨p, addAll [] ss, rfl, upd_same, ?_, fun ys p' hp' hs hn => ?_⟩
      · unfold uniq at hu; rwa [(srt_perm _).length_eq] at hu
      rw [srt_unique hp' hs]
      have x2 := (Ex.new (o := TxtO w p (addAll [] ss)) hp)
      have k2 : okZ Z (upd H1 p (TxtO w p (addAll [] ss))) := k1.ex x2
      exact q _ _ ((x1.tr x2).tr (Ex.new hn)) (.lst (k2.no hn) upd_same (Reps.ofStrs _))
def RSaidH (C : Addr) (ds : List D) (d : D) : Prop := ∃ (ns : List Str) (pts : List (List Str)) (x y : D), ds = [x, y] ∧ (x = lS ns ∨ x = tS ns) ∧ (y = lR pts ∨ y = .tup (pts.map tS)) ∧ (uniq ns).length ≤ 12 ∧ ns.length ≤ 4000 ∧ okS ns ∧ (∀ p ∈ pts, okS p) ∧ d = SayD C (sN ns pts) (sP ns pts)
theorem spP_imp {R R' : List D → D → Prop} (h : ∀ ds d, R' ds d → R ds d) (vs : List V) (H : Hp) (Q : VK) (E : XK) (g : spP R' vs H Q E) : spP R vs H Q E := by
  obtain ⟨Z, ds, d, k, r, hr, q⟩ := g
  exact ⟨Z, ds, d, k, r, h _ _ hr, q⟩
theorem said_imp {C : Addr} {ds : List D} {d : D} (h : RSaid C ds d) : RSaidG C ds d := by
  obtain ⟨ns, pts, h1, h2, h3, h4, h5⟩ := h
  exact ⟨ns, pts, h1, Nat.le_trans (uniq_len ns) h2, by omega, h3, h4, h5⟩
end Du
namespace Du
open PySem L2
abbrev kR (r : List Str) : List Key := r.map Sum.inr
theorem tK_row (r : List Str) : tK (kR r) = tS r := by
  simp only [tK, kR, tS, List.map_map]
  rfl
theorem kR_inj {a b : List Str} (h : kR a = kR b) : a = b := (List.map_inj_right (fun x y e => Sum.inr.inj e)).mp h
def unk (k : List Key) : List Str := k.map fun x => match x with | .inr s => s | .inl _ => Str.empty
theorem unk_kR (r : List Str) : unk (kR r) = r := by
  unfold unk kR
  rw [List.map_map]
  exact List.map_id r
theorem valD_row {f : List Str → D} {r : List Str} : ∀ {rs : List (List Str)}, r ∈ rs → valD (rs.map fun r => (kR r, f r)) (kR r) = some (f r)
  | q :: rs, h => by
    unfold valD
    rw [List.map_cons, List.find?_cons]
    by_cases e : q = r
    · subst e; simp
    · have hk : ¬ kR q = kR r := fun z => e (kR_inj z)
      simp only [decide_eq_false hk]
      exact valD_row (by rcases List.mem_cons.mp h with h | h; exact absurd h.symm e; exact h)
section
variable {P : Program} {w : World} {K : PySem.W.Frag} {mg : Str → Option Value} {base : Heap} {C : Addr}
abbrev s_said_at : Stmt := top 14
abbrev n_said_at : List Str := ["names", "points", "every", "known", "tests", "name", "row"]
theorem sc_said_at : FnScope n_said_at ["names", "points"] (defScope s_said_at) := ⟨rfl, rfl, rfl, by decide +kernel, rfl, by decide +kernel, by decide +kernel⟩

theorem ok_said_atH {f : Addr} {fd : FuncData} (F : Fun K "said_at" "said_at" s_said_at f fd) (T : Tx K mg C)  (c_choices_of : C8.Cal P w K mg base 1 "choices_of" (spP RChoices) []) (c_set_to : C8.Cal P w K mg base 1 "set_to" (spP RSetTo) []) (c_Say : C8.Mak P w K mg base 1 "Say" C (spM (RInit C)) []) : FnOk P w K mg base CX0 3 f fd ["names", "points"] (spP (RSaidH C)) := by
  refine pure_ok F sc_said_at (fun ds d h => ?_) (fun cdv A outer s H E hr => ?_)
  · obtain ⟨ns, pts, x, y, rfl, _⟩ := h; rfl
  · refine ⟨_, (pss_cons (ps_set (i := 2) sc_said_at.nd rfl (by first | exact Or.inl rfl | exact Or.inr rfl) (pe_callB (k_sortedTxt (w := w) rfl rfl) (by rfl) T.sorted (by decide +kernel) (pa_cons (pe_callTy (k_setTxt (K := K) (w := w) rfl rfl rfl) (by rfl) T.set (by decide +kernel) (pa_cons (pe_lc (own := [("name", 5)]) rfl sc_said_at.nd (k_seq (K := K) rfl (pv 0)) (blkOk_by (own := [("name", 5)]) (N := n_said_at) (sc := defScope s_said_at) (by decide +kernel)) (fun _ _ _ _ _ => (pg_name (i := 5) sc_said_at.nd rfl (by first | exact Or.inl rfl | exact Or.inr rfl))) (fun _ _ _ _ _ => pts_nil) (fun _ _ _ _ _ => (pe_callTy SkE.call_str_str (by rfl) T.str (by decide +kernel) (pa_cons (pv 5) pa_nil)))) pa_nil)) pa_nil))) (pss_cons (ps_set (i := 3) sc_said_at.nd rfl (by first | exact Or.inl rfl | exact Or.inr rfl) (pe_dcT (own := [("row", 6)]) hr.units0 rfl sc_said_at.nd (k_seq (K := K) rfl (C8.pe_c c_choices_of hr (by omega) rfl (pa_cons (pv 2) pa_nil))) (blkOk_by (own := [("row", 6)]) (N := n_said_at) (sc := defScope s_said_at) (by decide +kernel)) (fun _ _ _ _ _ => (pg_name (i := 6) sc_said_at.nd rfl (by first | exact Or.inl rfl | exact Or.inr rfl))) (fun _ _ _ _ _ => pts_nil) (fun _ _ _ _ _ => (pv 6)) (fun _ _ _ _ _ => (pe_cmpR (k_inU (K := K) rfl hr) (pv 6) (pv 1) (by rfl))))) (pss_cons (ps_set (i := 4) sc_said_at.nd rfl (by first | exact Or.inl rfl | exact Or.inr rfl) (pe_lst pa_nil)) (pss_cons (ps_for PassesOwn.never rfl (k_seq (K := K) rfl (pv 2)) (pg_name (i := 5) sc_said_at.nd rfl (by first | exact Or.inl rfl | exact Or.inr rfl)) (pss_one (ps_if (pt_val (pe_callB (k_any (K := K) rfl rfl) (by rfl) T.any (by decide +kernel) (pa_cons (pe_lk (pe_lc (own := [("row", 6)]) rfl sc_said_at.nd (pi_keys (pv 3)) (blkOk_by (own := [("row", 6)]) (N := n_said_at) (sc := defScope s_said_at) (by decide +kernel)) (fun _ _ _ _ _ => (pg_name (i := 6) sc_said_at.nd rfl (by first | exact Or.inl rfl | exact Or.inr rfl))) (fun _ _ _ _ _ => pts_nil) (fun _ _ _ _ _ => (pe_cmpR (k_ne (K := K) rfl hr) (pe_dget (hu_of hr) (pv 3) (pv 6) (fun _ _ => rfl)) (pe_dget (hu_of hr) (pv 3) (C8.pe_c c_set_to hr (by omega) rfl (pa_cons (pv 6) (pa_cons (pv 5) (pa_cons pe_bl pa_nil)))) (fun _ _ => rfl)) (nomark _))))) pa_nil))) (pss_one (ps_expr (k_bm (K := K) rfl PySem.F.plainAttrs_list PySem.F.slot_list_append PySem.F.type_list_append mt_append (pv 4) (pa_cons (pv 5) pa_nil)))) pss_nil))) (pss_one (ps_ret (C8.pe_mk c_Say hr (by omega) rfl (pa_cons (pv 4) (pa_cons (pe_lc (own := [("row", 6)]) rfl sc_said_at.nd (k_seq (K := K) rfl (C8.pe_c c_choices_of hr (by omega) rfl (pa_cons (pv 4) pa_nil))) (blkOk_by (own := [("row", 6)]) (N := n_said_at) (sc := defScope s_said_at) (by decide +kernel)) (fun _ _ _ _ _ => (pg_name (i := 6) sc_said_at.nd rfl (by first | exact Or.inl rfl | exact Or.inr rfl))) (fun _ _ _ _ _ => pts_one (pt_val (pe_dget (hu_of hr) (pv 3) (pv 6) (fun _ _ => rfl)))) (fun _ _ _ _ _ => (pv 6))) pa_nil))))))))), ?_⟩
    intro ds d h
    obtain ⟨ns, pts, d0, d1, rfl, hx, hy, hl, hl2, hns, hps, rfl⟩ := h
    have hI : ∀ r, EvI (iSeq K (tVar 0)) (some d0 :: r) (ns.map D.str) := fun r => by
      rcases hx with rfl | rfl
      · exact ei_seqL (ev_var rfl)
      · exact ei_seqT (ev_var rfl)
    have hin : ∀ r, okS r → R2D (rInU K) (tS r) d1 (.bl (inD (tS r) (pts.map tS))) := fun r hr => by
      rcases hy with rfl | rfl
      · exact rd_inL ((okE_tS hr).e (by decide)) ((okE_lR hps).e (by decide))
      · exact rd_inT ((okE_tS hr).e (by decide)) ((okE_tR hps).e (by decide))
    have hu := uniq_len ns
    have sev := SS.uniq ns
    have oev := okS_uniq hns
    generalize hev : uniq ns = ev at *
    have hlen : ev.length ≤ 12 := by omega
    have hcl := choices_le hlen
    have okr : ∀ r ∈ choices ev, okS r := fun r hr => okS_sub oev fun x hx => (mem_choices.mp hr).subset hx
    let kvs : List (List Key × D) := (choices ev).map fun r => (kR r, .bl (decide (r ∈ pts)))
    have hval : ∀ {r : List Str}, r.Sublist ev → valD kvs (kR r) = some (.bl (decide (r ∈ pts))) := fun h => valD_row (mem_choices.mpr h)
    refine .inl (st_seq (st_asg (d := lS ev) (hev ▸ ev_sortedSetG (ev_lc1 (φ := D.str) (fe := D.str) (hI _) (by omega) fun r hr => ⟨_, gw_name (by simp), ev_cb (ev_cons (ev_var rfl) ev_nil) rl_str⟩) hl2 (by rw [hev]; omega)) ga_name) (st_seq (st_asg (d := .dT kvs) ?_ ga_name) (st_gs ?_)))
    · refine ev_dcT (φ := tS) (kf := kR) (vf := fun r => .bl (decide (r ∈ pts))) (ei_seqL (ev_call (ev_cons (ev_var rfl) ev_nil) ⟨ev, .inl rfl, hlen, rfl⟩)) (by omega) ?_ fun r hr => ⟨_, gw_name (by simp), by rw [tK_row]; exact ev_var rfl, ?_⟩
      · exact List.pairwise_map.mpr ((choices_nodup sev.2).imp fun {a b} ne e => ne (kR_inj e))
      · rw [← inD_tS]
        exact ev_op (ev_var rfl) (ev_var rfl) (hin r (okr r hr))
    · refine gs_own (gea_nil ⟨by decide, fun a _ => ?_⟩)
      have hk : kvs.length ≤ 100000 := by simp [kvs]; omega
      refine gs_seq (gs_for (fun i ρ' μ' => ρ' = [some d0, some d1, some (lS ev), some (.dT kvs), some (.ptr a), none, none] ∧ μ' = [(a, lS ((ev.take i).filter (ess ev pts)))]) (ei_seqL (ev_var rfl)) (Lq.rf _) ⟨rfl, rfl⟩ ?_ ?_)
      · rintro i d ρi μi hd ⟨rfl, rfl⟩
        rw [List.getElem?_map] at hd
        obtain ⟨name, hname, rfl⟩ := Option.map_eq_some_iff.mp hd
        have hmem : name ∈ ev := List.mem_of_getElem? hname
        have het : ev.take (i + 1) = ev.take i ++ [name] := by rw [List.take_add_one, hname]; rfl
        refine ⟨_, ga_name, gs_if (gt_B (ge_ev (d := .bl (ess ev pts name)) ?_ ⟨_, rfl, ?_⟩))⟩
        · have e : ess ev pts name = (((choices ev).map fun row => decide (row ∈ pts) != decide (setTo row name true ∈ pts)).any id) := by
            unfold ess; rw [List.any_map]; rfl
          rw [e]
          refine ev_cb (ev_cons (d := .lst (((choices ev).map fun row => decide (row ∈ pts) != decide (setTo row name true ∈ pts)).map D.bl)) ?_ ev_nil) rl_any
          have e2 : D.lst (((choices ev).map fun row => decide (row ∈ pts) != decide (setTo row name true ∈ pts)).map D.bl) = .lst ((kvs.filter fun _ => true).map fun e => .bl (decide (unk e.1 ∈ pts) != decide (setTo (unk e.1) name true ∈ pts))) := by
            rw [List.filter_eq_self.mpr (fun _ _ => rfl)]
            simp only [kvs, List.map_map]
            congr 1
            refine List.map_congr_left fun r _ => ?_
            simp only [Function.comp, unk_kR]
          rw [e2]
          refine ev_lcKeys (i := 3) (pb := fun _ => true) rfl hk fun e he => ?_
          obtain ⟨r, hr, rfl⟩ := List.mem_map.mp he
          have hrs := choices_sub hr
          have hrl := hrs.length_le
          rw [unk_kR]
          refine ⟨_, gw_name (by simp), et_yes, fun _ => ?_⟩
          have e3 : (decide (r ∈ pts) != decide (setTo r name true ∈ pts)) = !eqD (.bl (decide (r ∈ pts))) (.bl (decide (setTo r name true ∈ pts))) := by
            rw [eqD_bl]; cases decide (r ∈ pts) <;> cases decide (setTo r name true ∈ pts) <;> rfl
          rw [e3]
          refine ev_op (ev_dget (ev_var rfl) (ev_var rfl) (hval hrs)) (ev_dget (k := kR (setTo r name true)) (ev_var rfl) ?_ (hval (setTo_sub sev hrs hmem true))) (rd_ne ok_bl ok_bl)
          rw [tK_row, tK_row]
          exact ev_call (ev_cons (d := tS r) (ev_var rfl) (ev_cons (ev_var rfl) (ev_cons ev_bl ev_nil))) ⟨r, name, true, rfl, by omega, okr r hr, oev name hmem, rfl⟩
        · cases he : ess ev pts name with
          | true =>
            rw [if_pos rfl]
            refine gs_drop (ge_append (ge_ev (ev_var rfl) ⟨a, 0, _, rfl, rfl, gea_ev (ev_cons (ev_var rfl) ev_nil) ⟨_, _, rfl, rfl, ?_, _, .keep (.keep (.keep (.keep (.keep (.skip (.skip .nil)))))), rfl, ?_⟩⟩))
            · have := List.length_filter_le (ess ev pts) (ev.take i)
              simp; simp at this; omega
            · simp [het, he, lS]
          | false =>
            rw [if_neg (by simp)]
            refine gs_next ⟨_, .keep (.keep (.keep (.keep (.keep (.skip (.skip .nil)))))), rfl, ?_⟩
            simp [het, he]
      · rintro ρ' μ' ⟨rfl, rfl⟩
        rw [List.length_map, List.take_length]
        refine gs_freeze (i := 4) rfl ?_
        have e1 : ev.filter (ess ev pts) = sN ns pts := by unfold sN; rw [hev]
        rw [e1]
        have hsl : (sN ns pts).Sublist ev := by rw [← hev]; exact sN_sub ns pts
        have hsn : (sN ns pts).length ≤ 12 := Nat.le_trans hsl.length_le hlen
        have hcs := choices_le hsn
        refine gs_ret (ge_ev (ev_make (ds := [lS (sN ns pts), lR (sP ns pts)]) (ev_cons (ev_var rfl) (ev_cons (ev_lc (φ := tS) (pb := fun r => decide (r ∈ pts)) (ei_seqL (ev_call (ev_cons (ev_var rfl) ev_nil) ⟨sN ns pts, .inl rfl, hsn, rfl⟩)) (by omega) fun r hr => ⟨_, gw_name (by simp), et_B (ev_dget (k := kR r) (ev_var rfl) (by rw [tK_row]; exact ev_var rfl) (hval ((choices_sub hr).trans hsl))), fun _ => ev_var rfl⟩) ev_nil)) fun p => ⟨p, _, _, rfl, rfl, rfl, rfl⟩) ⟨[], .inl ⟨rfl, by simp [dom]⟩, rfl⟩)
theorem ok_said_atG {f : Addr} {fd : FuncData} (F : Fun K "said_at" "said_at" s_said_at f fd) (T : Tx K mg C)  (c_choices_of : C8.Cal P w K mg base 1 "choices_of" (spP RChoices) []) (c_set_to : C8.Cal P w K mg base 1 "set_to" (spP RSetTo) []) (c_Say : C8.Mak P w K mg base 1 "Say" C (spM (RInit C)) []) : FnOk P w K mg base CX0 3 f fd ["names", "points"] (spP (RSaidG C)) :=
  (ok_said_atH F T c_choices_of c_set_to c_Say).imp (spP_imp fun _ _ h => by
    obtain ⟨ns, pts, h1, h2⟩ := h
    rcases h1 with rfl | rfl
    · exact ⟨ns, pts, _, _, rfl, .inl rfl, .inl rfl, h2⟩
    · exact ⟨ns, pts, _, _, rfl, .inr rfl, .inl rfl, h2⟩)
theorem ok_said_at {f : Addr} {fd : FuncData} (F : Fun K "said_at" "said_at" s_said_at f fd) (T : Tx K mg C)  (c_choices_of : C8.Cal P w K mg base 1 "choices_of" (spP RChoices) []) (c_set_to : C8.Cal P w K mg base 1 "set_to" (spP RSetTo) []) (c_Say : C8.Mak P w K mg base 1 "Say" C (spM (RInit C)) []) : FnOk P w K mg base CX0 3 f fd ["names", "points"] (spP (RSaid C)) :=
  (ok_said_atG F T c_choices_of c_set_to c_Say).imp (spP_imp fun _ _ => said_imp)
end
end Du
namespace Du
open PySem L2
def letters : Str := "abcdefghijklmnopqrstuvwxyz"
def nmOk (s : Str) : Bool := (decide ((1 : Int) ≤ s.length) && decide ((s.length : Int) ≤ 8)) && (s.cps.toList.map fun c => decide (c ∈ letters.cps.toList)).all id
section
variable {P : Program} {w : World} {K : PySem.W.Frag} {mg : Str → Option Value} {base : Heap} {C : Addr}
def RIsName (ds : List D) (d : D) : Prop := ∃ s : Str, ds = [.str s] ∧ s.length ≤ 100000 ∧ d = .bl (nmOk s)
abbrev s_is_name : Stmt := top 4
abbrev n_is_name : List Str := ["thing", "sign"]
theorem sc_is_name : FnScope n_is_name ["thing"] (defScope s_is_name) := ⟨rfl, rfl, rfl, by decide +kernel, rfl, by decide +kernel, by decide +kernel⟩

theorem ok_is_name {f : Addr} {fd : FuncData} (F : Fun K "is_name" "is_name" s_is_name f fd) (T : Tx K mg C) : FnOk P w K mg base CX0 1 f fd ["thing"] (spP RIsName) := by
  refine pure_ok F sc_is_name (fun ds d h => ?_) (fun cdv A outer s H E hr => ?_)
  · obtain ⟨s, rfl, _⟩ := h; rfl
  · refine ⟨_, (pss_one (ps_ret (pe_and (pe_callB (k_isi (K := K) rfl) (by rfl) T.isinstance (by decide +kernel) (pa_cons (pv 0) (pa_cons (pe_bltn (v := .ty "str") (by rfl) T.str (by decide +kernel) rfl) pa_nil))) (pe_and (pe_chain op_le op_le pe_int (pe_callB (k_len (K := K) rfl) (by rfl) T.len (by decide +kernel) (pa_cons (pv 0) pa_nil)) (k_globI rfl T.g_LONGEST)) (pe_one (pe_callB (k_all (K := K) rfl rfl) (by rfl) T.all (by decide +kernel) (pa_cons (pe_lc (own := [("sign", 1)]) rfl sc_is_name.nd (pi_str (pv 0)) (blkOk_by (own := [("sign", 1)]) (N := n_is_name) (sc := defScope s_is_name) (by decide +kernel)) (fun _ _ _ _ _ => (pg_name (i := 1) sc_is_name.nd rfl (by first | exact Or.inl rfl | exact Or.inr rfl))) (fun _ _ _ _ _ => pts_nil) (fun _ _ _ _ _ => (pe_cmpR op_in_sign (pv 1) (k_globS rfl T.g_LETTERS) rfl))) pa_nil))))))), ?_⟩
    intro ds d h
    obtain ⟨s, rfl, hl, rfl⟩ := h
    have e : nmOk s = (true && ((decide ((1 : Int) ≤ s.length) && decide ((s.length : Int) ≤ 8)) && (s.cps.toList.map fun c => decide (c ∈ letters.cps.toList)).all id)) := by rw [Bool.true_and]; rfl
    rw [e]
    refine .inl (st_ret (ev_andV (ev_cb (ev_cons (ev_var rfl) (ev_cons (fun _ _ H _ _ _ q => q _ H (Ex.rf H) (.ty "str")) ev_nil)) (rl_isi rfl (isi_same "str"))) fun _ => ev_andV (ev_chain ev_int (ev_cb (ev_cons (ev_var rfl) ev_nil) (rl_lenS hl)) rd_le (fun _ => ev_int) (fun _ => rd_le)) fun hb => ?_))
    have hs : s.length ≤ 8 := by simp at hb; omega
    refine ev_cb (ev_cons (d := .lst ((s.cps.toList.map fun c => decide (c ∈ letters.cps.toList)).map D.bl)) ?_ ev_nil) rl_all
    rw [List.map_map]
    exact ev_lc1 (fe := D.bl ∘ fun c => decide (c ∈ letters.cps.toList)) (ei_str (ev_var rfl)) (by rw [Array.length_toList]; exact Nat.le_trans hs (by decide)) fun c hc => ⟨_, gw_name (by simp), ev_op (ev_var rfl) ev_str rd_inSign⟩
def RCheck (ds : List D) (d : D) : Prop := ∃ s : Str, ds = [.str s] ∧ nmOk s = true ∧ d = .non
theorem nmOk_len {s : Str} (h : nmOk s = true) : s.length ≤ 8 := by
  unfold nmOk at h
  simp at h; omega
abbrev s_check_name : Stmt := top 12
abbrev n_check_name : List Str := ["name"]
theorem sc_check_name : FnScope n_check_name ["name"] (defScope s_check_name) := ⟨rfl, rfl, rfl, by decide +kernel, rfl, by decide +kernel, by decide +kernel⟩

theorem ok_check_name {f : Addr} {fd : FuncData} (F : Fun K "check_name" "check_name" s_check_name f fd) (T : Tx K mg C) (c_is_name : C8.Cal P w K mg base 1 "is_name" (spP RIsName) []) : FnOk P w K mg base CX0 2 f fd ["name"] (spP RCheck) := by
  refine pure_ok F sc_check_name (fun ds d h => ?_) (fun cdv A outer s H E hr => ?_)
  · obtain ⟨s, rfl, _⟩ := h; rfl
  · refine ⟨_, (pss_one (ps_if (pt_not (pt_val (C8.pe_c c_is_name hr (by omega) rfl (pa_cons (pv 0) pa_nil)))) (pss_one ps_never) pss_nil)), ?_⟩
    intro ds d h
    obtain ⟨s, rfl, hn, rfl⟩ := h
    have hl := nmOk_len hn
    refine .inr ⟨rfl, _, st_if (et_not (et_B (ev_call (ev_cons (ev_var rfl) ev_nil) ⟨s, rfl, by omega, rfl⟩))) (fun h => ?_) fun _ => st_next⟩
    rw [hn] at h; cases h
def ROver (ds : List D) (d : D) : Prop := ∃ ns : List Str, ds = [lS ns] ∧ ns.length ≤ 12 ∧ d = lR (choices (uniq ns))
abbrev s_choices_over : Stmt := top 15
abbrev n_choices_over : List Str := ["names", "name"]
theorem sc_choices_over : FnScope n_choices_over ["names"] (defScope s_choices_over) := ⟨rfl, rfl, rfl, by decide +kernel, rfl, by decide +kernel, by decide +kernel⟩

def ROverG (ds : List D) (d : D) : Prop := ∃ ns : List Str, ds = [lS ns] ∧ (uniq ns).length ≤ 12 ∧ ns.length ≤ 4000 ∧ d = lR (choices (uniq ns))
theorem ok_choices_overG {f : Addr} {fd : FuncData} (F : Fun K "choices_over" "choices_over" s_choices_over f fd) (T : Tx K mg C) (c_choices_of : C8.Cal P w K mg base 1 "choices_of" (spP RChoices) []) : FnOk P w K mg base CX0 2 f fd ["names"] (spP ROverG) := by
  refine pure_ok F sc_choices_over (fun ds d h => ?_) (fun cdv A outer s H E hr => ?_)
  · obtain ⟨s, rfl, _⟩ := h; rfl
  · refine ⟨_, (pss_one (ps_ret (C8.pe_c c_choices_of hr (by omega) rfl (pa_cons (pe_callB (k_sortedTxt (w := w) rfl rfl) (by rfl) T.sorted (by decide +kernel) (pa_cons (pe_callTy (k_setTxt (K := K) (w := w) rfl rfl rfl) (by rfl) T.set (by decide +kernel) (pa_cons (pe_lc (own := [("name", 1)]) rfl sc_choices_over.nd (k_seq (K := K) rfl (pv 0)) (blkOk_by (own := [("name", 1)]) (N := n_choices_over) (sc := defScope s_choices_over) (by decide +kernel)) (fun _ _ _ _ _ => (pg_name (i := 1) sc_choices_over.nd rfl (by first | exact Or.inl rfl | exact Or.inr rfl))) (fun _ _ _ _ _ => pts_nil) (fun _ _ _ _ _ => (pe_callTy SkE.call_str_str (by rfl) T.str (by decide +kernel) (pa_cons (pv 1) pa_nil)))) pa_nil)) pa_nil)) pa_nil)))), ?_⟩
    intro ds d h
    obtain ⟨ns, rfl, hl, hl2, rfl⟩ := h
    exact .inl (st_ret (ev_call (ev_cons (ev_sortedSetG (ev_lc1 (φ := D.str) (fe := D.str) (ei_seqL (ev_var rfl)) (by omega) fun r hr => ⟨_, gw_name (by simp), ev_cb (ev_cons (ev_var rfl) ev_nil) rl_str⟩) hl2 (by omega)) ev_nil) ⟨uniq ns, .inl rfl, by omega, rfl⟩))
/-! Say.at -/
def atS (ns : List Str) (ps : List (List Str)) (row : List Str) : Bool := decide (ns.filter (fun n => decide (n ∈ row)) ∈ ps)
def wf (ns : List Str) (ps : List (List Str)) : Prop := ns.length ≤ 12 ∧ okS ns ∧ (∀ p ∈ ps, okS p) ∧ ps.length ≤ 5000
def RAt (C : Addr) (ds : List D) (d : D) : Prop := ∃ (ns : List Str) (ps : List (List Str)) (row : List Str), (ds = [SayD C ns ps, tS row] ∨ ds = [SayD C ns ps, lS row]) ∧ wf ns ps ∧ okS row ∧ d = .bl (atS ns ps row)
theorem ev_names {ρ : Rho} {te : TE} {ns : List Str} {ps : List (List Str)} (T : Tx K mg C) (h : Ev te ρ (SayD C ns ps)) : Ev (tFld K te "names") ρ (tS ns) := ev_fld h T.cl T.nN rfl
theorem ev_points {ρ : Rho} {te : TE} {ns : List Str} {ps : List (List Str)} (T : Tx K mg C) (h : Ev te ρ (SayD C ns ps)) : Ev (tFld K te "points") ρ (.tup (ps.map tS)) := ev_fld h T.cl T.nP rfl
abbrev s_Say_at : Stmt := inClass (top 16) 5
abbrev n_Say_at : List Str := ["self", "row", "name"]
theorem sc_Say_at : FnScope n_Say_at ["self", "row"] (defScope s_Say_at) := ⟨rfl, rfl, rfl, by decide +kernel, rfl, by decide +kernel, by decide +kernel⟩

theorem ok_Say_at {f : Addr} {fd : FuncData} (F : Fun K "at" "Say.at" s_Say_at f fd) (T : Tx K mg C) : FnOk P w K mg base CX0 1 f fd ["self", "row"] (spP (RAt C)) := by
  refine pure_ok F sc_Say_at (fun ds d h => ?_) (fun cdv A outer s H E hr => ?_)
  · obtain ⟨ns, ps, row, rfl | rfl, _⟩ := h <;> rfl
  · refine ⟨_, (pss_one (ps_ret (pe_cmpR (k_inU (K := K) rfl hr) (k_tupleOf (K := K) rfl (by rfl) T.tuple (pe_lc (own := [("name", 2)]) rfl sc_Say_at.nd (k_seq (K := K) rfl (k_fld (K := K) rfl (pv 0) rfl)) (blkOk_by (own := [("name", 2)]) (N := n_Say_at) (sc := defScope s_Say_at) (by decide +kernel)) (fun _ _ _ _ _ => (pg_name (i := 2) sc_Say_at.nd rfl (by first | exact Or.inl rfl | exact Or.inr rfl))) (fun _ _ _ _ _ => pts_one (pt_cmpR (k_inU (K := K) rfl hr) (pv 2) (pv 1) (by rfl))) (fun _ _ _ _ _ => (pv 2)))) (k_fld (K := K) rfl (pv 0) rfl) (by rfl)))), ?_⟩
    intro ds d h
    obtain ⟨ns, ps, row, hds, ⟨hl, hn, hp, hpl⟩, hr, rfl⟩ := h
    obtain ⟨d0, rfl, hin⟩ : ∃ d0, ds = [SayD C ns ps, d0] ∧ ∀ n, PyData.strOk n = true → R2D (rInU K) (.str n) d0 (.bl (inD (.str n) (row.map D.str))) := by
      rcases hds with rfl | rfl
      · exact ⟨_, rfl, fun n hn => rd_inT (ok_str hn) ((okE_tS hr).e (by decide))⟩
      · exact ⟨_, rfl, fun n hn => rd_inL (ok_str hn) ((okE_lS hr).e (by decide))⟩
    unfold atS
    rw [← inD_tS]
    refine .inl (st_ret (ev_op (ev_then (d := lS (ns.filter fun n => decide (n ∈ row))) (ev_lc (φ := D.str) (fe := D.str) (ei_seqT (ev_names T (ev_var rfl))) (by omega) fun n hnn => ⟨_, gw_name (by simp), ?_, fun _ => ev_var rfl⟩) r1_tupL) (ev_points T (ev_var rfl)) (rd_inT ((okE_tS (okS_sub hn fun x hx => (List.mem_filter.mp hx).1)).e (by decide)) ((okE_tR hp).e (by decide)))))
    rw [← inD_strs]
    exact et_test (ev_op (ev_var rfl) (ev_var rfl) (hin n (hn n hnn)))
end
end Du
namespace Du
open PySem L2
/-! what the operators make -/
def opS (g : Bool → Bool → Bool) (n1 : List Str) (p1 : List (List Str)) (n2 : List Str) (p2 : List (List Str)) : List (List Str) := (choices (uniq (n1 ++ n2))).filter fun r => g (atS n1 p1 r) (atS n2 p2 r)
def opD (C : Addr) (g : Bool → Bool → Bool) (n1 : List Str) (p1 : List (List Str)) (n2 : List Str) (p2 : List (List Str)) : D := SayD C (sN (n1 ++ n2) (opS g n1 p1 n2 p2)) (sP (n1 ++ n2) (opS g n1 p1 n2 p2))
def inS (n1 : List Str) (p1 : List (List Str)) : List (List Str) := (choices n1).filter fun r => !atS n1 p1 r
section
variable {P : Program} {w : World} {K : PySem.W.Frag} {mg : Str → Option Value} {base : Heap} {C : Addr}
def ROp (C : Addr) (g : Bool → Bool → Bool) (ds : List D) (d : D) : Prop := ∃ (n1 : List Str) (p1 : List (List Str)) (n2 : List Str) (p2 : List (List Str)), ds = [SayD C n1 p1, SayD C n2 p2] ∧ wf n1 p1 ∧ wf n2 p2 ∧ n1.length + n2.length ≤ 12 ∧ d = opD C g n1 p1 n2 p2
def RInv (C : Addr) (ds : List D) (d : D) : Prop := ∃ (n1 : List Str) (p1 : List (List Str)), ds = [SayD C n1 p1] ∧ wf n1 p1 ∧ d = SayD C (sN n1 (inS n1 p1)) (sP n1 (inS n1 p1))
theorem ev_at {ρ : Rho} {E : XK} {te tr : TE} {ns : List Str} {ps : List (List Str)} {row : List Str} (h : Ev te ρ (SayD C ns ps)) (hr : Ev tr ρ (tS row)) (hw : wf ns ps) (ho : okS row) : Ev (tMeth C "at" (spP (RAt C)) [] E te (tCons tr tNil)) ρ (.bl (atS ns ps row)) :=
  ev_meth h rfl (ev_cons hr ev_nil) ⟨ns, ps, row, .inl rfl, hw, ho, rfl⟩
theorem okS_app {a b : List Str} (h : okS a) (g : okS b) : okS (a ++ b) := fun x hx => (List.mem_append.mp hx).elim (h x) (g x)
theorem okS_choice {ns r : List Str} (h : okS ns) (hr : r ∈ choices ns) : okS r := okS_sub h fun x hx => (choices_sub hr).subset hx
abbrev s_Say_and : Stmt := inClass (top 16) 13
abbrev n_Say_and : List Str := ["self", "other", "names", "row"]
theorem sc_Say_and : FnScope n_Say_and ["self", "other"] (defScope s_Say_and) := ⟨rfl, rfl, rfl, by decide +kernel, rfl, by decide +kernel, by decide +kernel⟩

abbrev s_Say_or : Stmt := inClass (top 16) 14
abbrev n_Say_or : List Str := ["self", "other", "names", "row"]
theorem sc_Say_or : FnScope n_Say_or ["self", "other"] (defScope s_Say_or) := ⟨rfl, rfl, rfl, by decide +kernel, rfl, by decide +kernel, by decide +kernel⟩

abbrev s_Say_xor : Stmt := inClass (top 16) 15
abbrev n_Say_xor : List Str := ["self", "other", "names", "row"]
theorem sc_Say_xor : FnScope n_Say_xor ["self", "other"] (defScope s_Say_xor) := ⟨rfl, rfl, rfl, by decide +kernel, rfl, by decide +kernel, by decide +kernel⟩

abbrev s_Say_invert : Stmt := inClass (top 16) 16
abbrev n_Say_invert : List Str := ["self", "row"]
theorem sc_Say_invert : FnScope n_Say_invert ["self"] (defScope s_Say_invert) := ⟨rfl, rfl, rfl, by decide +kernel, rfl, by decide +kernel, by decide +kernel⟩

abbrev s_Say_eq : Stmt := inClass (top 16) 19
abbrev n_Say_eq : List Str := ["self", "other"]
theorem sc_Say_eq : FnScope n_Say_eq ["self", "other"] (defScope s_Say_eq) := ⟨rfl, rfl, rfl, by decide +kernel, rfl, by decide +kernel, by decide +kernel⟩

abbrev s_Say_holds : Stmt := inClass (top 16) 7
abbrev n_Say_holds : List Str := ["self", "true", "name"]
abbrev s_Say_test : Stmt := inClass (top 16) 1
abbrev n_Say_test : List Str := ["name"]
theorem sc_Say_test : FnScope n_Say_test ["name"] (defScope s_Say_test) := ⟨rfl, rfl, rfl, by decide +kernel, rfl, by decide +kernel, by decide +kernel⟩

abbrev s_Say_yes : Stmt := inClass (top 16) 2
abbrev n_Say_yes : List Str := []
theorem sc_Say_yes : FnScope n_Say_yes [] (defScope s_Say_yes) := ⟨rfl, rfl, rfl, by decide +kernel, rfl, by decide +kernel, by decide +kernel⟩

abbrev s_Say_no : Stmt := inClass (top 16) 3
abbrev n_Say_no : List Str := []
theorem sc_Say_no : FnScope n_Say_no [] (defScope s_Say_no) := ⟨rfl, rfl, rfl, by decide +kernel, rfl, by decide +kernel, by decide +kernel⟩

abbrev s_Say_le : Stmt := inClass (top 16) 17
abbrev n_Say_le : List Str := ["self", "other"]
abbrev s_Say_lt : Stmt := inClass (top 16) 18
abbrev n_Say_lt : List Str := ["self", "other"]
theorem opS_ok {g : Bool → Bool → Bool} {n1 n2 : List Str} {p1 p2 : List (List Str)} (h1 : wf n1 p1) (h2 : wf n2 p2) : ∀ p ∈ opS g n1 p1 n2 p2, okS p := fun p hp => okS_choice (okS_uniq (okS_app h1.2.1 h2.2.1)) (List.mem_filter.mp hp).1
theorem inS_ok {n1 : List Str} {p1 : List (List Str)} (h1 : wf n1 p1) : ∀ p ∈ inS n1 p1, okS p := fun p hp => okS_choice h1.2.1 (List.mem_filter.mp hp).1
theorem ok_Say_invert {f : Addr} {fd : FuncData} (F : Fun K "__invert__" "Say.__invert__" s_Say_invert f fd) (T : Tx K mg C) (c_said_at : C8.Cal P w K mg base 3 "said_at" (spP (RSaid C)) []) (c_choices_of : C8.Cal P w K mg base 1 "choices_of" (spP RChoices) []) (c_Say_at : C8.Met P w K mg base 1 C "at" (spP (RAt C)) []) : FnOk P w K mg base CX0 4 f fd ["self"] (spP (RInv C)) := by
  refine pure_ok F sc_Say_invert (fun ds d h => ?_) (fun cdv A outer s H E hr => ?_)
  · obtain ⟨n1, p1, rfl, _⟩ := h; rfl
  · refine ⟨_, (pss_one (ps_ret (C8.pe_c c_said_at hr (by omega) rfl (pa_cons (k_fld (K := K) rfl (pv 0) rfl) (pa_cons (pe_lc (own := [("row", 1)]) rfl sc_Say_invert.nd (k_seq (K := K) rfl (C8.pe_c c_choices_of hr (by omega) rfl (pa_cons (k_fld (K := K) rfl (pv 0) rfl) pa_nil))) (blkOk_by (own := [("row", 1)]) (N := n_Say_invert) (sc := defScope s_Say_invert) (by decide +kernel)) (fun _ _ _ _ _ => (pg_name (i := 1) sc_Say_invert.nd rfl (by first | exact Or.inl rfl | exact Or.inr rfl))) (fun _ _ _ _ _ => pts_one (pt_not (pt_val (C8.pe_mt c_Say_at hr (by omega) (pv 0) (pa_cons (pv 1) pa_nil))))) (fun _ _ _ _ _ => (pv 1))) pa_nil))))), ?_⟩
    intro ds d h
    obtain ⟨n1, p1, rfl, h1, rfl⟩ := h
    have hc := choices_le h1.1
    exact .inl (st_ret (ev_call (ev_cons (ev_names T (ev_var rfl)) (ev_cons (d := lR (inS n1 p1)) (ev_lc (φ := tS) (ei_seqL (ev_call (ev_cons (ev_names T (ev_var rfl)) ev_nil) ⟨n1, .inr rfl, h1.1, rfl⟩)) (by omega) fun r hr => ⟨_, gw_name (by simp), et_not (et_B (ev_at (ev_var rfl) (ev_var rfl) h1 (okS_choice h1.2.1 hr))), fun _ => ev_var rfl⟩) ev_nil)) ⟨n1, _, .inr rfl, h1.1, h1.2.1, inS_ok h1, rfl⟩))
end
end Du
namespace Du
open PySem L2
section
variable {P : Program} {w : World} {K : PySem.W.Frag} {mg : Str → Option Value} {base : Heap} {C : Addr}
def REq (C : Addr) (ds : List D) (d : D) : Prop := ∃ (n1 : List Str) (p1 : List (List Str)) (n2 : List Str) (p2 : List (List Str)), ds = [SayD C n1 p1, SayD C n2 p2] ∧ wf n1 p1 ∧ wf n2 p2 ∧ d = .bl (decide (n1 = n2) && decide (p1 = p2))
theorem ok_Say_eq {f : Addr} {fd : FuncData} (F : Fun K "__eq__" "Say.__eq__" s_Say_eq f fd) (T : Tx K mg C) : FnOk P w K mg base CX0 1 f fd ["self", "other"] (spP (REq C)) := by
  refine pure_ok F sc_Say_eq (fun ds d h => ?_) (fun cdv A outer s H E hr => ?_)
  · obtain ⟨n1, p1, n2, p2, rfl, _⟩ := h; rfl
  · refine ⟨_, (pss_one (ps_ret (pe_and (pe_callB (k_isi (K := K) rfl) (by rfl) T.isinstance (by decide +kernel) (pa_cons (pv 1) (pa_cons (pe_glob (v := .ref _) rfl T.g_Say rfl) pa_nil))) (pe_and (pe_cmpR (k_eq (K := K) rfl hr) (k_fld (K := K) rfl (pv 0) rfl) (k_fld (K := K) rfl (pv 1) rfl) (nomark _)) (pe_one (pe_cmpR (k_eq (K := K) rfl hr) (k_fld (K := K) rfl (pv 0) rfl) (k_fld (K := K) rfl (pv 1) rfl) (nomark _))))))), ?_⟩
    intro ds d h
    obtain ⟨n1, p1, n2, p2, rfl, h1, h2, rfl⟩ := h
    have e : (decide (n1 = n2) && decide (p1 = p2)) = (true && (eqD (tS n1) (tS n2) && eqD (.tup (p1.map tS)) (.tup (p2.map tS)))) := by
      rw [eqD_tS, eqD_tup, eqv_tSs, Bool.true_and]
    rw [e]
    exact .inl (st_ret (ev_andV (ev_cb (ev_cons (ev_var rfl) (ev_cons (fun _ _ H _ _ _ q => q _ H (Ex.rf H) (.ptr C)) ev_nil)) (rl_isiI T.cl T.ic T.isg T.itk T.imr)) fun _ => ev_andV (ev_op (ev_names T (ev_var rfl)) (ev_names T (ev_var rfl)) (rd_eq ((okE_tS h1.2.1).e (by decide)) ((okE_tS h2.2.1).e (by decide)))) fun _ => ev_op (ev_points T (ev_var rfl)) (ev_points T (ev_var rfl)) (rd_eq ((okE_tR h1.2.2.1).e (by decide)) ((okE_tR h2.2.2.1).e (by decide)))))
def RHolds (C : Addr) (ds : List D) (d : D) : Prop := ∃ (ns : List Str) (ps : List (List Str)) (row : List Str), (ds = [SayD C ns ps, tS row] ∨ ds = [SayD C ns ps, lS row]) ∧ wf ns ps ∧ okS row ∧ (∀ n ∈ row, nmOk n = true) ∧ d = .bl (atS ns ps row)
def RTest (C : Addr) (ds : List D) (d : D) : Prop := ∃ s : Str, ds = [.str s] ∧ nmOk s = true ∧ d = SayD C [s] [[s]]
theorem ok_Say_test {f : Addr} {fd : FuncData} (F : Fun K "test" "Say.test" s_Say_test f fd) (T : Tx K mg C) (c_check_name : C8.Cal P w K mg base 2 "check_name" (spP RCheck) []) (c_Say : C8.Mak P w K mg base 1 "Say" C (spM (RInit C)) []) : FnOk P w K mg base CX0 3 f fd ["name"] (spP (RTest C)) := by
  refine pure_ok F sc_Say_test (fun ds d h => ?_) (fun cdv A outer s H E hr => ?_)
  · obtain ⟨s, rfl, _⟩ := h; rfl
  · refine ⟨_, (pss_cons (ps_expr (C8.pe_c c_check_name hr (by omega) rfl (pa_cons (pv 0) pa_nil))) (pss_one (ps_ret (C8.pe_mk c_Say hr (by omega) rfl (pa_cons (pe_lst (pa_cons (pv 0) pa_nil)) (pa_cons (pe_lst (pa_cons (pe_tup (pa_cons (pv 0) pa_nil)) pa_nil)) pa_nil)))))), ?_⟩
    intro ds d h
    obtain ⟨s, rfl, hn, rfl⟩ := h
    exact .inl (st_seq (st_drop (ev_call (ev_cons (ev_var rfl) ev_nil) ⟨s, rfl, hn, rfl⟩)) (st_ret (ev_make (ds := [lS [s], lR [[s]]]) (ev_cons (ev_lst (ev_cons (ev_var rfl) ev_nil) (by simp)) (ev_cons (ev_lst (ev_cons (ev_tup (ev_cons (ev_var rfl) ev_nil) (by simp)) ev_nil) (by simp)) ev_nil)) fun p => ⟨p, [s], [[s]], rfl, rfl, rfl, rfl⟩)))
def RYes (C : Addr) (ds : List D) (d : D) : Prop := ds = [] ∧ d = SayD C [] [[]]
theorem ok_Say_yes {f : Addr} {fd : FuncData} (F : Fun K "yes" "Say.yes" s_Say_yes f fd) (T : Tx K mg C) (c_Say : C8.Mak P w K mg base 1 "Say" C (spM (RInit C)) []) : FnOk P w K mg base CX0 3 f fd [] (spP (RYes C)) := by
  refine pure_ok F sc_Say_yes (fun ds d h => ?_) (fun cdv A outer s H E hr => ?_)
  · obtain ⟨rfl, _⟩ := h; rfl
  · refine ⟨_, (pss_one (ps_ret (C8.pe_mk c_Say hr (by omega) rfl (pa_cons (pe_lst pa_nil) (pa_cons (pe_lst (pa_cons (pe_tup pa_nil) pa_nil)) pa_nil))))), ?_⟩
    intro ds d h
    obtain ⟨rfl, rfl⟩ := h
    exact .inl (st_ret (ev_make (ds := [lS [], lR [[]]]) (ev_cons (ev_lst ev_nil (by simp)) (ev_cons (ev_lst (ev_cons (ev_tup ev_nil (by simp)) ev_nil) (by simp)) ev_nil)) fun p => ⟨p, [], [[]], rfl, rfl, rfl, rfl⟩))
def RNo (C : Addr) (ds : List D) (d : D) : Prop := ds = [] ∧ d = SayD C [] []
theorem ok_Say_no {f : Addr} {fd : FuncData} (F : Fun K "no" "Say.no" s_Say_no f fd) (T : Tx K mg C) (c_Say : C8.Mak P w K mg base 1 "Say" C (spM (RInit C)) []) : FnOk P w K mg base CX0 3 f fd [] (spP (RNo C)) := by
  refine pure_ok F sc_Say_no (fun ds d h => ?_) (fun cdv A outer s H E hr => ?_)
  · obtain ⟨rfl, _⟩ := h; rfl
  · refine ⟨_, (pss_one (ps_ret (C8.pe_mk c_Say hr (by omega) rfl (pa_cons (pe_lst pa_nil) (pa_cons (pe_lst pa_nil) pa_nil))))), ?_⟩
    intro ds d h
    obtain ⟨rfl, rfl⟩ := h
    exact .inl (st_ret (ev_make (ds := [lS [], lR []]) (ev_cons (ev_lst ev_nil (by simp)) (ev_cons (ev_lst ev_nil (by simp)) ev_nil)) fun p => ⟨p, [], [], rfl, rfl, rfl, rfl⟩))
/-! what said_at makes is in order -/
theorem wf_nil : wf [] [] := ⟨by decide, fun _ h => absurd h (by simp), fun _ h => absurd h (by simp), by decide⟩
def leB (n1 : List Str) (p1 : List (List Str)) (n2 : List Str) (p2 : List (List Str)) : Bool :=
  let n3 := sN n2 (inS n2 p2); let p3 := sP n2 (inS n2 p2)
  decide (sN (n1 ++ n3) (opS (· && ·) n1 p1 n3 p3) = []) && decide (sP (n1 ++ n3) (opS (· && ·) n1 p1 n3 p3) = [])
def RLe (C : Addr) (ds : List D) (d : D) : Prop := ∃ (n1 : List Str) (p1 : List (List Str)) (n2 : List Str) (p2 : List (List Str)), ds = [SayD C n1 p1, SayD C n2 p2] ∧ wf n1 p1 ∧ wf n2 p2 ∧ n1.length + n2.length ≤ 12 ∧ d = .bl (leB n1 p1 n2 p2)
def ltB (n1 : List Str) (p1 : List (List Str)) (n2 : List Str) (p2 : List (List Str)) : Bool := leB n1 p1 n2 p2 && !(decide (n1 = n2) && decide (p1 = p2))
def RLt (C : Addr) (ds : List D) (d : D) : Prop := ∃ (n1 : List Str) (p1 : List (List Str)) (n2 : List Str) (p2 : List (List Str)), ds = [SayD C n1 p1, SayD C n2 p2] ∧ wf n1 p1 ∧ wf n2 p2 ∧ n1.length + n2.length ≤ 12 ∧ d = .bl (ltB n1 p1 n2 p2)
end
end Du
namespace Du
open PySem L2
/-! the operators, where the names of both says together are few -/
section
variable {P : Program} {w : World} {K : PySem.W.Frag} {mg : Str → Option Value} {base : Heap} {C : Addr}
def ROpG (C : Addr) (g : Bool → Bool → Bool) (ds : List D) (d : D) : Prop := ∃ (n1 : List Str) (p1 : List (List Str)) (n2 : List Str) (p2 : List (List Str)), ds = [SayD C n1 p1, SayD C n2 p2] ∧ wf n1 p1 ∧ wf n2 p2 ∧ (uniq (n1 ++ n2)).length ≤ 12 ∧ d = opD C g n1 p1 n2 p2
theorem said_wfG {ns : List Str} {pts : List (List Str)} (hl : (uniq ns).length ≤ 12) (ho : okS ns) : wf (sN ns pts) (sP ns pts) := by
  have h1 : (sN ns pts).length ≤ 12 := Nat.le_trans (sN_sub ns pts).length_le hl
  have h2 : okS (sN ns pts) := okS_sub (okS_uniq ho) fun x hx => (sN_sub ns pts).subset hx
  refine ⟨h1, h2, fun p hp => okS_choice h2 (List.mem_filter.mp hp).1, ?_⟩
  exact Nat.le_trans (List.length_filter_le _ _) (Nat.le_trans (choices_le h1) (by decide))
theorem ok_Say_andG {f : Addr} {fd : FuncData} (F : Fun K "__and__" "Say.__and__" s_Say_and f fd) (T : Tx K mg C) (c_said_at : C8.Cal P w K mg base 3 "said_at" (spP (RSaidG C)) []) (c_choices_over : C8.Cal P w K mg base 2 "choices_over" (spP ROverG) []) (c_Say_at : C8.Met P w K mg base 1 C "at" (spP (RAt C)) []) : FnOk P w K mg base CX0 4 f fd ["self", "other"] (spP (ROpG C (· && ·))) := by
  refine pure_ok F sc_Say_and (fun ds d h => ?_) (fun cdv A outer s H E hr => ?_)
  · obtain ⟨n1, p1, n2, p2, rfl, _⟩ := h; rfl
  · refine ⟨_, (pss_cons (ps_set (i := 2) sc_Say_and.nd rfl (by first | exact Or.inl rfl | exact Or.inr rfl) (pe_lst (k_star (K := K) rfl (k_fld (K := K) rfl (pv 0) rfl) (k_star (K := K) rfl (k_fld (K := K) rfl (pv 1) rfl) pa_nil)))) (pss_one (ps_ret (C8.pe_c c_said_at hr (by omega) rfl (pa_cons (pv 2) (pa_cons (pe_lc (own := [("row", 3)]) rfl sc_Say_and.nd (k_seq (K := K) rfl (C8.pe_c c_choices_over hr (by omega) rfl (pa_cons (pv 2) pa_nil))) (blkOk_by (own := [("row", 3)]) (N := n_Say_and) (sc := defScope s_Say_and) (by decide +kernel)) (fun _ _ _ _ _ => (pg_name (i := 3) sc_Say_and.nd rfl (by first | exact Or.inl rfl | exact Or.inr rfl))) (fun _ _ _ _ _ => pts_one (PW.pt (pw_and (pt_val (C8.pe_mt c_Say_at hr (by omega) (pv 0) (pa_cons (pv 3) pa_nil))) (pw_and1 (pt_val (C8.pe_mt c_Say_at hr (by omega) (pv 1) (pa_cons (pv 3) pa_nil))))))) (fun _ _ _ _ _ => (pv 3))) pa_nil)))))), ?_⟩
    intro ds d h
    obtain ⟨n1, p1, n2, p2, rfl, h1, h2, hl, rfl⟩ := h
    have w1 := h1.1
    have w2 := h2.1
    have hc := choices_le (ns := uniq (n1 ++ n2)) hl
    refine .inl (st_seq (st_asg (d := lS (n1 ++ n2)) ?_ ga_name) (st_ret (ev_call (ev_cons (ev_var rfl) (ev_cons (d := lR (opS (· && ·) n1 p1 n2 p2)) (ev_lc (φ := tS) (ei_seqL (ev_call (ev_cons (ev_var rfl) ev_nil) ⟨n1 ++ n2, rfl, hl, by simp; omega, rfl⟩)) (by omega) fun r hr => ⟨_, gw_name (by simp), et_and (et_B (ev_at (ev_var rfl) (ev_var rfl) h1 (okS_choice (okS_uniq (okS_app h1.2.1 h2.2.1)) hr))) fun _ => et_B (ev_at (ev_var rfl) (ev_var rfl) h2 (okS_choice (okS_uniq (okS_app h1.2.1 h2.2.1)) hr)), fun _ => ev_var rfl⟩) ev_nil)) ⟨n1 ++ n2, _, .inl rfl, hl, by simp; omega, okS_app h1.2.1 h2.2.1, opS_ok h1 h2, rfl⟩)))
    have e : lS (n1 ++ n2) = .lst (n1.map D.str ++ (n2.map D.str ++ [])) := by simp [lS]
    rw [e]
    exact ev_lst (ev_starT (ev_names T (ev_var rfl)) (ev_starT (ev_names T (ev_var rfl)) ev_nil)) (by simp; omega)
theorem ok_Say_orG {f : Addr} {fd : FuncData} (F : Fun K "__or__" "Say.__or__" s_Say_or f fd) (T : Tx K mg C) (c_said_at : C8.Cal P w K mg base 3 "said_at" (spP (RSaidG C)) []) (c_choices_over : C8.Cal P w K mg base 2 "choices_over" (spP ROverG) []) (c_Say_at : C8.Met P w K mg base 1 C "at" (spP (RAt C)) []) : FnOk P w K mg base CX0 4 f fd ["self", "other"] (spP (ROpG C (· || ·))) := by
  refine pure_ok F sc_Say_or (fun ds d h => ?_) (fun cdv A outer s H E hr => ?_)
  · obtain ⟨n1, p1, n2, p2, rfl, _⟩ := h; rfl
  · refine ⟨_, (pss_cons (ps_set (i := 2) sc_Say_or.nd rfl (by first | exact Or.inl rfl | exact Or.inr rfl) (pe_lst (k_star (K := K) rfl (k_fld (K := K) rfl (pv 0) rfl) (k_star (K := K) rfl (k_fld (K := K) rfl (pv 1) rfl) pa_nil)))) (pss_one (ps_ret (C8.pe_c c_said_at hr (by omega) rfl (pa_cons (pv 2) (pa_cons (pe_lc (own := [("row", 3)]) rfl sc_Say_or.nd (k_seq (K := K) rfl (C8.pe_c c_choices_over hr (by omega) rfl (pa_cons (pv 2) pa_nil))) (blkOk_by (own := [("row", 3)]) (N := n_Say_or) (sc := defScope s_Say_or) (by decide +kernel)) (fun _ _ _ _ _ => (pg_name (i := 3) sc_Say_or.nd rfl (by first | exact Or.inl rfl | exact Or.inr rfl))) (fun _ _ _ _ _ => pts_one (PW.pt (pw_or (pt_val (C8.pe_mt c_Say_at hr (by omega) (pv 0) (pa_cons (pv 3) pa_nil))) (pw_or1 (pt_val (C8.pe_mt c_Say_at hr (by omega) (pv 1) (pa_cons (pv 3) pa_nil))))))) (fun _ _ _ _ _ => (pv 3))) pa_nil)))))), ?_⟩
    intro ds d h
    obtain ⟨n1, p1, n2, p2, rfl, h1, h2, hl, rfl⟩ := h
    have w1 := h1.1
    have w2 := h2.1
    have hc := choices_le (ns := uniq (n1 ++ n2)) hl
    refine .inl (st_seq (st_asg (d := lS (n1 ++ n2)) ?_ ga_name) (st_ret (ev_call (ev_cons (ev_var rfl) (ev_cons (d := lR (opS (· || ·) n1 p1 n2 p2)) (ev_lc (φ := tS) (ei_seqL (ev_call (ev_cons (ev_var rfl) ev_nil) ⟨n1 ++ n2, rfl, hl, by simp; omega, rfl⟩)) (by omega) fun r hr => ⟨_, gw_name (by simp), et_or (et_B (ev_at (ev_var rfl) (ev_var rfl) h1 (okS_choice (okS_uniq (okS_app h1.2.1 h2.2.1)) hr))) fun _ => et_B (ev_at (ev_var rfl) (ev_var rfl) h2 (okS_choice (okS_uniq (okS_app h1.2.1 h2.2.1)) hr)), fun _ => ev_var rfl⟩) ev_nil)) ⟨n1 ++ n2, _, .inl rfl, hl, by simp; omega, okS_app h1.2.1 h2.2.1, opS_ok h1 h2, rfl⟩)))
    have e : lS (n1 ++ n2) = .lst (n1.map D.str ++ (n2.map D.str ++ [])) := by simp [lS]
    rw [e]
    exact ev_lst (ev_starT (ev_names T (ev_var rfl)) (ev_starT (ev_names T (ev_var rfl)) ev_nil)) (by simp; omega)
theorem ok_Say_xorG {f : Addr} {fd : FuncData} (F : Fun K "__xor__" "Say.__xor__" s_Say_xor f fd) (T : Tx K mg C) (c_said_at : C8.Cal P w K mg base 3 "said_at" (spP (RSaidG C)) []) (c_choices_over : C8.Cal P w K mg base 2 "choices_over" (spP ROverG) []) (c_Say_at : C8.Met P w K mg base 1 C "at" (spP (RAt C)) []) : FnOk P w K mg base CX0 4 f fd ["self", "other"] (spP (ROpG C (fun a b => !eqD (.bl a) (.bl b)))) := by
  refine pure_ok F sc_Say_xor (fun ds d h => ?_) (fun cdv A outer s H E hr => ?_)
  · obtain ⟨n1, p1, n2, p2, rfl, _⟩ := h; rfl
  · refine ⟨_, (pss_cons (ps_set (i := 2) sc_Say_xor.nd rfl (by first | exact Or.inl rfl | exact Or.inr rfl) (pe_lst (k_star (K := K) rfl (k_fld (K := K) rfl (pv 0) rfl) (k_star (K := K) rfl (k_fld (K := K) rfl (pv 1) rfl) pa_nil)))) (pss_one (ps_ret (C8.pe_c c_said_at hr (by omega) rfl (pa_cons (pv 2) (pa_cons (pe_lc (own := [("row", 3)]) rfl sc_Say_xor.nd (k_seq (K := K) rfl (C8.pe_c c_choices_over hr (by omega) rfl (pa_cons (pv 2) pa_nil))) (blkOk_by (own := [("row", 3)]) (N := n_Say_xor) (sc := defScope s_Say_xor) (by decide +kernel)) (fun _ _ _ _ _ => (pg_name (i := 3) sc_Say_xor.nd rfl (by first | exact Or.inl rfl | exact Or.inr rfl))) (fun _ _ _ _ _ => pts_one (pt_cmpR (k_ne (K := K) rfl hr) (C8.pe_mt c_Say_at hr (by omega) (pv 0) (pa_cons (pv 3) pa_nil)) (C8.pe_mt c_Say_at hr (by omega) (pv 1) (pa_cons (pv 3) pa_nil)) (nomark _))) (fun _ _ _ _ _ => (pv 3))) pa_nil)))))), ?_⟩
    intro ds d h
    obtain ⟨n1, p1, n2, p2, rfl, h1, h2, hl, rfl⟩ := h
    have w1 := h1.1
    have w2 := h2.1
    have hc := choices_le (ns := uniq (n1 ++ n2)) hl
    refine .inl (st_seq (st_asg (d := lS (n1 ++ n2)) ?_ ga_name) (st_ret (ev_call (ev_cons (ev_var rfl) (ev_cons (d := lR (opS (fun a b => !eqD (.bl a) (.bl b)) n1 p1 n2 p2)) (ev_lc (φ := tS) (ei_seqL (ev_call (ev_cons (ev_var rfl) ev_nil) ⟨n1 ++ n2, rfl, hl, by simp; omega, rfl⟩)) (by omega) fun r hr => ⟨_, gw_name (by simp), et_test (ev_op (ev_at (ev_var rfl) (ev_var rfl) h1 (okS_choice (okS_uniq (okS_app h1.2.1 h2.2.1)) hr)) (ev_at (ev_var rfl) (ev_var rfl) h2 (okS_choice (okS_uniq (okS_app h1.2.1 h2.2.1)) hr)) (rd_ne ok_bl ok_bl)), fun _ => ev_var rfl⟩) ev_nil)) ⟨n1 ++ n2, _, .inl rfl, hl, by simp; omega, okS_app h1.2.1 h2.2.1, opS_ok h1 h2, rfl⟩)))
    have e : lS (n1 ++ n2) = .lst (n1.map D.str ++ (n2.map D.str ++ [])) := by simp [lS]
    rw [e]
    exact ev_lst (ev_starT (ev_names T (ev_var rfl)) (ev_starT (ev_names T (ev_var rfl)) ev_nil)) (by simp; omega)
end
end Du
namespace Du
open PySem L2 PySem.Spec PyProof.Rows LamX
/-! defs that raise an error without fields -/
def spX (R : List D → Prop) (CU : Addr) : Sp := fun vs H _ E => ∃ (Z : Addr → Prop) (ds : List D), okZ Z H ∧ Reps Z H vs ds ∧ R ds ∧ ∀ H', Ex H H' → E (.ref CU) none H'
/-- the __init__ of such an error -/
def spIn (C : Addr) : Sp := fun vs H Q _ => ∃ a : Addr, vs = [.ref a] ∧ H a = some (exo a C none) ∧ Q .non H
section
variable (P : Program) (w : World) (K : PySem.W.Frag) (mg : Str → Option Value) (base : Heap) (k : Nat) (C : Addr)
structure MetX (m : Str) (sp : Sp) : Prop where
  ex : ∃ (f : Addr) (fd : FuncData) (ps : List Str), Cls K C ∧ Meth K C m f ∧ FnOk P w K mg base (L2.CX P w) k f fd ps sp ∧ L2.Binds K fd ps []
structure OBinX (op : Operator) (sp : Sp) : Prop where
  ex : ∃ g, PySem.W.selfFirst K C = true ∧ PySem.W.findIn K (.ref C) (PySem.dunder op.info.2) = some (some (.ref g)) ∧ PySem.W.isFn K (.ref g) = true ∧ FnR P w K mg base (L2.CX P w) k g sp
structure OCmpX (op : CmpOp) (sp : Sp) : Prop where
  ex : ∃ g, PySem.W.notFirst K C (.ref C) = true ∧ PySem.W.findIn K (.ref C) (cmpInfo op).2.1 = some (some (.ref g)) ∧ PySem.W.isFn K (.ref g) = true ∧ FnR P w K mg base (L2.CX P w) k g sp
/-- an error class without fields: its __init__ keeps spIn -/
structure ErrN (x : Str) : Prop where
  oex : OexC K C
  g : mg x = some (.ref C)
  ex : PySem.W.exmOne K (.ref C) (.ref C) = some true
  init : ∃ (f : Addr) (fd : FuncData), PySem.W.findIn K (.ref C) "__init__" = some (some (.ref f)) ∧ PySem.W.typeIn K (.ref f) = some (.type "function") ∧ FnOk P w K mg base L2.CX0 k f fd ["self"] (spIn C) ∧ L2.Binds K fd ["self"] []
end
section
variable {X : Cx} {E : XK} {k j : Nat} {C : Addr} {sp : Sp} {o e : Expr} {es : List Expr} {m x : Str} {p pos apos : Pos} {ta : TE} {t : TA} {pl : Sem Bool}
theorem pe_mtX (c : MetX X.prog X.w X.K X.mg X.base k C m sp) (hr : Room j X.A) (hk : k ≤ j) (hx : Passes (L2.CX X.prog X.w) X E) (he : PE X o ta) (ha : PA X (e :: es) t)
    (hst : starEach (e :: es) X.env = (false, eval e X.env) :: starEach es X.env := by rfl) (hpl : (backTo pos (starEach es X.env)).any (·.1) = false := by rfl)
    (ht : eval (.Call (.Attribute o m apos) (e :: es) [] pos) X.env = (do
      let ov ← eval o X.env
      standAt apos.atName
      let (f, first) ← holding [ov] (getMethod ov m pl)
      callWith pos f first (backTo pos (starEach (e :: es) X.env)) (backToKw pos (keywordEach [] X.env))) := by rfl) :
    PE X (.Call (.Attribute o m apos) (e :: es) [] pos) (tMeth C m sp [] E ta t) := by
  obtain ⟨f, fd, ps, hc, hm, F, b⟩ := c.ex
  exact pe_meth (pl := pl) he hc hm F (hr.mono hk) b .nil hx ha hst hpl ht
theorem pmk_N (c : ErrN X.prog X.w X.K X.mg X.base k C x) (hr : Room j X.A) (hk : k + 1 ≤ j) (hg : Gl X x) (hdb : (x == ("__debug__" : Str)) = false := by decide) : PMk X (.Call (.Name x p) [] [] pos) (tMkN C (spIn C)) := by
  obtain ⟨f, fd, h1, h2, F, b⟩ := c.init
  exact pmk_oexN c.oex h1 h2 F (hr.mono hk) b pass0 hg c.g hdb
end
theorem takesX {P : Program} {w : World} {K : PySem.W.Frag} {mg : Str → Option Value} {base : Heap} {N : List Str} {qual : Str} {sc : Scope} {f : Addr} {cdv : Value} {A : Around} {outer : List Env} {s : Shared} {H : Hp} {E : XK} : Takes (cxOf (L2.CX P w) P w K mg base N qual sc f cdv A outer s H E) (fun cls d _ H => E cls d H) := takes_of rfl rfl rfl rfl
theorem passX {P : Program} {w : World} {K : PySem.W.Frag} {mg : Str → Option Value} {base : Heap} {N : List Str} {qual : Str} {sc : Scope} {f : Addr} {cdv : Value} {A : Around} {outer : List Env} {s : Shared} {H : Hp} {E : XK} : Passes (L2.CX P w) (cxOf (L2.CX P w) P w K mg base N qual sc f cdv A outer s H E) E := passes_call takesX fun _ _ _ _ h => h
section
end
/-! in data -/
def RaE (te : TE) (ρ : Rho) (CU : Addr) (E : XK) : Prop := ∀ (Z : Addr → Prop) (σ : L2.St) (H : Hp) (Q : VK), okZ Z H → SRep Z H σ ρ → (∀ H', Ex H H' → E (.ref CU) none H') → te σ H Q
def RaS (ts : TS) (ρ : Rho) (CU : Addr) (E : XK) : Prop := ∀ (Z : Addr → Prop) (σ : L2.St) (H : Hp) (D : Ends), okZ Z H → SRep Z H σ ρ → (∀ H', Ex H H' → E (.ref CU) none H') → ts D σ H
section
variable {ρ : Rho} {CU C : Addr} {E : XK} {te ta tb : TE} {ts us : TS} {R : List D → Prop} {d e : D}
end
/-! a def that makes lambdas: its code object is known -/
structure FunC (K : PySem.W.Frag) (x qual : Str) (st : Stmt) (f : Addr) (fd : FuncData) (c : Addr) : Prop where
  ex : ∃ (oc : Value) (od : Option Addr) (kV doc pm : Value) (an : Option Addr) (ct : Value) (osl : Array (Option Value)),
    fd = PySem.W.fnOf x qual (defArgs st) (defBody st) (defScope st) .none kV doc pm an (.ref c) ct ∧ K.lookup f = some ⟨oc, od, .func fd, osl⟩ ∧ PySem.W.codeIn K (.ref c) qual = true
end Du
namespace Du
open PySem L2
/-! told, or an error without fields (of the class CU, wanted where X holds) -/
def XB (E : XK) (CU : Addr) (X : Prop) (Z : Addr → Prop) (H : Hp) (μ : Mu) : Prop := X → ∀ (Z' : Addr → Prop) (H' : Hp) (μ' : Mu), Nw Z H μ Z' H' μ' → E (.ref CU) none H'
theorem XB.tr {E : XK} {CU : Addr} {X : Prop} {Z Z1 : Addr → Prop} {H H1 : Hp} {μ μ1 : Mu} (x : XB E CU X Z H μ) (k : okZ Z H) (m : Mem Z H μ) (n : Nw Z H μ Z1 H1 μ1) : XB E CU X Z1 H1 μ1 := fun hx Z' H' μ' n' => x hx Z' H' μ' (n.tr k m n')
def GXB (te : TE) (ρ : Rho) (μ : Mu) (Φ : D → Mu → Prop) (X : Prop) (E : XK) (CU : Addr) : Prop := ∀ (Z : Addr → Prop) (σ : L2.St) (H : Hp) (Q : VK), okZ Z H → SRep Z H σ ρ → Mem Z H μ → (∀ v H' d μ' Z', Φ d μ' → Nw Z H μ Z' H' μ' → Rep Z' H' v d → Q v H') → XB E CU X Z H μ → te σ H Q
def GNB (ts : TS) (ρ : Rho) (μ : Mu) (N : Rho → Mu → Prop) (R : D → Mu → Prop) (X : Prop) (E : XK) (CU : Addr) : Prop := ∀ (Z : Addr → Prop) (σ : L2.St) (H : Hp) (D : Ends), okZ Z H → SRep Z H σ ρ → Mem Z H μ →
  (∀ σ' H' ρ' μ' Z', N ρ' μ' → Nw Z H μ Z' H' μ' → SRep Z' H' σ' ρ' → D.nx σ' H') → (∀ v H' d μ' Z', R d μ' → Nw Z H μ Z' H' μ' → Rep Z' H' v d → D.rt v H') → XB E CU X Z H μ → ts D σ H
/-- what a def answers: Φ of a datum, or, where X holds, the error -/
def spB (CU : Addr) (Rb : List D → Mu → (D → Mu → Prop) → Prop → Prop) : Sp := fun vs H Q E => ∃ (Z : Addr → Prop) (ds : List D) (μ : Mu) (Φ : D → Mu → Prop) (X : Prop), okZ Z H ∧ Reps Z H vs ds ∧ Mem Z H μ ∧ Rb ds μ Φ X ∧ (∀ v H' d μ' Z', Φ d μ' → Nw Z H μ Z' H' μ' → Rep Z' H' v d → Q v H') ∧ XB E CU X Z H μ
section
variable {K : PySem.W.Frag} {ρ : Rho} {μ : Mu} {te ta : TE} {ts us : TS} {g : TG} {Φ : D → Mu → Prop} {N N' : Rho → Mu → Prop} {R R' : D → Mu → Prop} {X : Prop} {E : XK} {CU : Addr} {Rb : List D → Mu → (D → Mu → Prop) → Prop → Prop}
theorem gnb_gn (h : GN ts ρ μ N R) : GNB ts ρ μ N R X E CU := fun Z σ H D k s m n r _ => h Z σ H D k s m n r
theorem gnb_gs (h : GS ts ρ μ N R) : GNB ts ρ μ N R X E CU := gnb_gn (gn_gs h)
theorem gnb_next (q : N ρ μ) : GNB tNext ρ μ N R X E CU := gnb_gs (gs_next q)
theorem gnb_seq (h : GNB ts ρ μ (fun ρ' μ' => GNB us ρ' μ' N R X E CU) R X E CU) : GNB (tSeq ts us) ρ μ N R X E CU := fun Z σ H D k s m n r x =>
  h Z σ H _ k s m (fun σ' H' ρ' μ' Z' f z s' => f Z' σ' H' D z.ok s' z.mem (fun σ2 H2 ρ2 μ2 Z2 q z2 s2 => n σ2 H2 ρ2 μ2 Z2 q (z.tr k m z2) s2) (fun v H2 d μ2 Z2 q z2 r2 => r v H2 d μ2 Z2 q (z.tr k m z2) r2) (x.tr k m z)) r x
theorem GNB.mono (h : GNB ts ρ μ N R X E CU) (hn : ∀ ρ μ, N ρ μ → N' ρ μ) (hr : ∀ d μ, R d μ → R' d μ) : GNB ts ρ μ N' R' X E CU := fun Z σ H D k s m n r => h Z σ H D k s m (fun σ' H' ρ' μ' Z' q => n σ' H' ρ' μ' Z' (hn _ _ q)) fun v H' d μ' Z' q => r v H' d μ' Z' (hr _ _ q)
theorem gnb_mid (M : Rho → Mu → Prop) (h : GNB ts ρ μ M R X E CU) (f : ∀ ρ' μ', M ρ' μ' → GNB us ρ' μ' N R X E CU) : GNB (tSeq ts us) ρ μ N R X E CU := gnb_seq (h.mono f fun _ _ h => h)
theorem gnb_ret (h : GXB te ρ μ R X E CU) : GNB (tRet te) ρ μ N R X E CU := fun Z σ H D k s m n r x => h Z σ H _ k s m (fun v H' d μ' Z' q z rd => r v H' d μ' Z' q z rd) x
theorem gnb_drop (h : GXB te ρ μ (fun _ μ' => N ρ μ') X E CU) : GNB (tDrop te) ρ μ N R X E CU := fun Z σ H D k s m n r x => h Z σ H _ k s m (fun v H' d μ' Z' q z rd => n σ H' ρ μ' Z' q z (z.srep m s)) x
theorem gnb_if {t : TT} (h : GT t ρ μ fun b μ' => if b = true then GNB ts ρ μ' N R X E CU else GNB us ρ μ' N R X E CU) : GNB (tIfS t ts us) ρ μ N R X E CU := fun Z σ H D k s m n r x =>
  h Z σ H _ k s m fun b H1 μ1 f n1 => by
    have z1 := (n1.nz k).nw
    cases b with
    | true => exact iteT (f Z σ H1 D (n1.ok k) (s.mono (n1.to m)) n1.mem (fun σ2 H2 ρ2 μ2 Z2 q z2 s2 => n σ2 H2 ρ2 μ2 Z2 q (z1.tr k m z2) s2) (fun v H2 d μ2 Z2 q z2 r2 => r v H2 d μ2 Z2 q (z1.tr k m z2) r2) (x.tr k m z1))
    | false => exact iteF (f Z σ H1 D (n1.ok k) (s.mono (n1.to m)) n1.mem (fun σ2 H2 ρ2 μ2 Z2 q z2 s2 => n σ2 H2 ρ2 μ2 Z2 q (z1.tr k m z2) s2) (fun v H2 d μ2 Z2 q z2 r2 => r v H2 d μ2 Z2 q (z1.tr k m z2) r2) (x.tr k m z1))
/-- raise CU() -/
theorem gnb_raise (hx : X) : GNB (fun _ σ H => tMkN CU (spIn CU) σ H fun cls d H' => E cls d H') ρ μ N R X E CU := fun Z σ H D k s m n r x a ha => by
  refine ⟨a, rfl, upd_same, rfl, upd_same, ?_⟩
  refine x hx Z _ μ ((Nxt.exs m fun b o hb => ?_).nz k).nw
  have ne : b ≠ a := ne_of_none hb ha
  rw [del_ne ne, upd_ne ne]; exact hb
theorem gn_of_gnb {E : XK} {CU : Addr} (h : GNB ts ρ μ N R False E CU) : GN ts ρ μ N R := fun Z σ H D k s m n r => h Z σ H D k s m n r fun hx => hx.elim
/-- a call that may refuse -/
theorem spB_go {Z : Addr → Prop} {H H1 : Hp} {μa ν : Mu} {vs : List V} {ds : List D} {Q : VK} (k : okZ Z H) (m : Mem Z H μ) (n1 : Nxt Z H μ H1 (ν ++ μa)) (r1 : Reps Z H1 vs ds) (hr : Rb ds μa (fun d μ' => Φ d (ν ++ μ')) X) (c : ∀ v H' d μ' Z', Φ d μ' → Nw Z H μ Z' H' μ' → Rep Z' H' v d → Q v H') (x : XB E CU X Z H μ) : spB CU Rb vs H1 Q E := by
  have k1 := n1.ok k
  exact ⟨Z, ds, μa, _, X, k1, r1, n1.mem.right, hr, fun v H' d μ' Z' q z rd => c v H' d _ Z' q ((n1.nz k).nw.tr k m (z.frameL k1 n1.mem)) rd, fun hx Z' H' μ' z => x hx Z' H' (ν ++ μ') ((n1.nz k).nw.tr k m (z.frameL k1 n1.mem))⟩
theorem gxb_call {t : TA} (h : GEA t ρ μ fun ds μ1 => ∃ ν μa, μ1 = ν ++ μa ∧ Rb ds μa (fun d μ' => Φ d (ν ++ μ')) X) : GXB (tCall (spB CU Rb) [] E t) ρ μ Φ X E CU := fun Z σ H Q k s m c x =>
  h Z σ H _ k s m fun vs H1 ds μ1 g n1 r1 => by
    obtain ⟨ν, μa, rfl, g⟩ := g
    rw [List.append_nil]
    exact spB_go k m n1 r1 g c x
/-- a loop, some turn of which may raise -/
theorem forNB {J : It} {ds : List D} {Z : Addr → Prop} {H1 : Hp} {σ : L2.St} {D : Ends} (k1 : okZ Z H1) (m1 : Mem Z H1 μ) (s : SRep Z H1 σ ρ) (w1 : DW Z J H1 ds) (I : Nat → Rho → Mu → Prop) {ρ0 : Rho} (hl : Lq ρ0 ρ) (h0 : I 0 ρ0 μ)
    (hb : ∀ i d ρi μi, ds[i]? = some d → I i ρi μi → ∃ ρ', GA g d ρi ρ' ∧ GNB ts ρ' μi (fun ρ'' μ'' => ∃ ρ1, Lq ρ1 ρ'' ∧ I (i + 1) ρ1 μ'') R X E CU) (hn : ∀ ρ' μ', I ds.length ρ' μ' → N ρ' μ')
    (n : ∀ σ' H' ρ' μ' Z', N ρ' μ' → Nw Z H1 μ Z' H' μ' → SRep Z' H' σ' ρ' → D.nx σ' H') (r : ∀ v H' d μ' Z', R d μ' → Nw Z H1 μ Z' H' μ' → Rep Z' H' v d → D.rt v H') (x : XB E CU X Z H1 μ) : tFor (fun _ H R => R J H) g ts D σ H1 := by
  have hzz : ∀ {Zi : Addr → Prop} {Hc : Hp} {μi : Mu}, Nw Z H1 μ Zi Hc μi → ∀ a, (Z a ∨ Zi a) → Z a ∨ H1 a = none := fun z a h => h.elim .inl (z.zs a)
  refine for_it (walkN w1) (fun i σ Hc => ∃ ρi μi Zi, I i ρi μi ∧ Nw Z H1 μ Zi Hc μi ∧ SRep Zi Hc σ ρi) ⟨ρ0, μ, Z, h0, ((Nxt.rf m1).nz k1).nw, s.lq hl⟩ (fun i σ Hc _ ⟨ρi, μi, Zi, _, z, _⟩ => ⟨_, hzz z, z.wg m1⟩) ?_ fun σ Hc ⟨ρi, μi, Zi, hI, z, si⟩ => n σ Hc ρi μi Zi (hn _ _ hI) z si
  rintro i y σ Hc H' hi ⟨ρi, μi, Zi, hI, z, si⟩ yy
  obtain ⟨y1, d, y2, y3⟩ := yy _ (hzz z) (z.wg m1)
  obtain ⟨ρ', g1, g2⟩ := hb i d ρi μi y2 hI
  have z' : Nw Z H1 μ Zi H' μi := z.tr k1 m1 ((Nxt.exs z.mem y1).nz z.ok).nw
  refine g1 Zi σ H' y _ z'.ok (si.mono y1.to) (y3.zs fun a h => .inl (.inr h)) fun σ' s' => ?_
  refine g2 Zi σ' H' _ z'.ok s' z'.mem (fun σ2 H2 ρ2 μ2 Z2 q z2 s2 => ?_) (fun v H2 d μ2 Z2 q z2 r2 => r v H2 d μ2 Z2 q (z'.tr k1 m1 z2) r2) (x.tr k1 m1 z')
  obtain ⟨ρ1, l1, q⟩ := q
  exact ⟨ρ1, μ2, Z2, q, z'.tr k1 m1 z2, s2.lq l1⟩
theorem gnb_while {c : TT} (I : Nat → Rho → Mu → Prop) {m0 : Nat} {ρ0 : Rho} (hl : Lq ρ0 ρ) (h0 : I m0 ρ0 μ)
    (hb : ∀ m ρi μi, I m ρi μi → GT c ρi μi fun b μ' => if b = true then GNB ts ρi μ' (fun ρ'' μ'' => ∃ ρ1 m', m' < m ∧ Lq ρ1 ρ'' ∧ I m' ρ1 μ'') R X E CU else N ρi μ') : GNB (tWhile c ts) ρ μ N R X E CU := fun Z σ H D k s m n r x => by
  refine ⟨fun mm σ' Hc => ∃ ρi μi Zi, I mm ρi μi ∧ Nw Z H μ Zi Hc μi ∧ SRep Zi Hc σ' ρi, ⟨m0, ρ0, μ, Z, h0, ((Nxt.rf m).nz k).nw, s.lq hl⟩, ?_⟩
  rintro mm σ' Hc ⟨ρi, μi, Zi, hI, z, si⟩
  refine hb mm ρi μi hI Zi σ' Hc _ z.ok si z.mem fun b H1 μ1 g n1 => ?_
  have z1 := z.tr k m (n1.nz z.ok).nw
  cases b with
  | true =>
    refine iteT ⟨fun σ2 H2 => ∃ m', m' < mm ∧ ∃ ρi μi Zi, I m' ρi μi ∧ Nw Z H μ Zi H2 μi ∧ SRep Zi H2 σ2 ρi, fun σ2 H2 h => h, ?_⟩
    refine g Zi σ' H1 _ (n1.ok z.ok) (si.mono (n1.to z.mem)) n1.mem (fun σ2 H2 ρ2 μ2 Z2 q z2 s2 => ?_) (fun v H2 d μ2 Z2 q z2 r2 => r v H2 d μ2 Z2 q (z1.tr k m z2) r2) (x.tr k m z1)
    obtain ⟨ρ1, m', hm, l1, q⟩ := q
    exact ⟨m', hm, ρ1, μ2, Z2, q, z1.tr k m z2, s2.lq l1⟩
  | false => exact iteF (n σ' H1 ρi μ1 Zi g z1 (si.mono (n1.to z.mem)))
end
section
variable {P : Program} {w : World} {K : PySem.W.Frag} {mg : Str → Option Value} {base : Heap} {x qual : Str} {stm : Stmt} {fa : Addr} {fd : FuncData} {N ps : List Str} {k : Nat} {Rb : List D → Mu → (D → Mu → Prop) → Prop → Prop} {CU : Addr}
theorem bad_ok (F : Fun K x qual stm fa fd) (S : FnScope N ps (defScope stm)) (len : ∀ ds μ Φ X, Rb ds μ Φ X → ds.length = ps.length)
    (hb : ∀ (cdv : Value) (A : Around) (outer : List Env) (s : Shared) (H : Hp) (E : XK), Room k (A.deeper (PyProof.Rows.envOfC qual (defScope stm) s.heap.objs.size fa cdv)) →
      ∃ t, PSs (cxOf (L2.CX P w) P w K mg base N qual (defScope stm) fa cdv A outer s H E) (defBody stm) t ∧ ∀ ds μ Φ X, Rb ds μ Φ X → GNB t (rho0 N ds) μ (fun _ μ' => Φ .non μ') Φ X E CU) : FnOk P w K mg base (L2.CX P w) (k + 1) fa fd ps (spB CU Rb) := by
  refine F.okX S (fun vs H Q E h => ?_) (fun cdv A outer s H vs Q E hr h => ?_)
  · obtain ⟨Z, ds, μ, Φ, X, _, r, _, hR, _⟩ := h
    exact r.len.trans (len ds μ Φ X hR)
  · obtain ⟨Z, ds, μ, Φ, X, ok, r, m, hR, q, xb⟩ := h
    obtain ⟨t, ht, hs⟩ := hb cdv A outer s H E hr
    refine ⟨t, ht, ?_⟩
    have s0 : SRep Z H (L2.start N vs) (rho0 N ds) := by
      unfold L2.start rho0
      rw [r.len]
      exact SRep.start r _
    exact hs ds μ Φ X hR Z _ H _ ok s0 m (fun σ' H' ρ' μ' Z' p z s' => q _ H' _ μ' Z' p z .non) (fun v H' d μ' Z' p z r' => q v H' d μ' Z' p z r') xb
/-- the same, where more is owned on the way -/
theorem bad_okM (F : Fun K x qual stm fa fd) (S : FnScope N ps (defScope stm)) (len : ∀ ds μ Φ X, Rb ds μ Φ X → ds.length = ps.length)
    (hb : ∀ (cdv : Value) (A : Around) (outer : List Env) (s : Shared) (H : Hp) (E : XK), Room k (A.deeper (PyProof.Rows.envOfC qual (defScope stm) s.heap.objs.size fa cdv)) →
      ∃ t, PSs (cxOf (L2.CX P w) P w K mg base N qual (defScope stm) fa cdv A outer s H E) (defBody stm) t ∧ ∀ ds μ Φ X, Rb ds μ Φ X → GNB t (rho0 N ds) μ (fun _ μ' => ∃ ν μ'', μ' = ν ++ μ'' ∧ μ''.map (·.1) = μ.map (·.1) ∧ Φ .non μ'') (fun d μ' => ∃ ν μ'', μ' = ν ++ μ'' ∧ μ''.map (·.1) = μ.map (·.1) ∧ Φ d μ'') X E CU) : FnOk P w K mg base (L2.CX P w) (k + 1) fa fd ps (spB CU Rb) := by
  have fin : ∀ {Z Z' : Addr → Prop} {H H' : Hp} {μ μ' ν : Mu}, Mem Z H μ → μ'.map (·.1) = μ.map (·.1) → Nw Z H μ Z' H' (ν ++ μ') → Nxt Z H μ H' μ' ∧ ∀ a, Z a → Z' a := fun {Z Z' H H' μ μ' ν} m e z => by
    have zz : ∀ a, Z a → Z' a := fun a h => (z.zk a h).resolve_right fun h => h.2 (by have := h.1; unfold dom at this ⊢; rw [List.map_append, e]; exact List.mem_append_right _ this)
    refine ⟨⟨z.ext, e, ⟨fun p hp => ?_, by have := z.mem.right.nd; exact this⟩⟩, zz⟩
    obtain ⟨z1, c1⟩ := z.mem.cs p (List.mem_append_right _ hp)
    exact ⟨m.dz (by unfold dom; rw [← e]; exact List.mem_map.mpr ⟨p, hp, rfl⟩), c1.zs zz⟩
  refine F.okX S (fun vs H Q E h => ?_) (fun cdv A outer s H vs Q E hr h => ?_)
  · obtain ⟨Z, ds, μ, Φ, X, _, r, _, hR, _⟩ := h
    exact r.len.trans (len ds μ Φ X hR)
  · obtain ⟨Z, ds, μ, Φ, X, ok, r, m, hR, q, xb⟩ := h
    obtain ⟨t, ht, hs⟩ := hb cdv A outer s H E hr
    refine ⟨t, ht, ?_⟩
    have s0 : SRep Z H (L2.start N vs) (rho0 N ds) := by
      unfold L2.start rho0
      rw [r.len]
      exact SRep.start r _
    refine hs ds μ Φ X hR Z _ H _ ok s0 m (fun σ' H' ρ' μ' Z' p z s' => ?_) (fun v H' d μ' Z' p z r' => ?_) xb
    · obtain ⟨ν, μ'', rfl, e, p⟩ := p
      exact q _ H' _ μ'' Z p (((fin m e z).1.nz ok).nw) .non
    · obtain ⟨ν, μ'', rfl, e, p⟩ := p
      exact q _ H' _ μ'' Z p (((fin m e z).1.nz ok).nw) (r'.zs fun a h => .inl ((fin m e z).2 a h))
end
end Du
namespace Du
open PySem L2
/-! texts, sign by sign -/
abbrev sg (c : Nat) : Str := ⟨#[c]⟩
abbrev cpl (s : Str) : List Nat := s.cps.toList
theorem cpl_len (s : Str) : (cpl s).length = s.length := by simp [Str.length]
theorem cpl_ext {a b : Str} (h : cpl a = cpl b) : a = b := by
  cases a; cases b
  exact congrArg Str.mk (Array.toList_inj.mp h)
theorem cpl_app (a b : Str) : cpl (a ++ b) = cpl a ++ cpl b := by
  show (a.cps ++ b.cps).toList = _
  exact Array.toList_append
section
variable {X : Cx} {K : PySem.W.Frag} {ρ : Rho} {te ta tb : TE} {tl th : TO} {s z : Str}
/-- a + b of numbers, lists, tuples or texts -/
def rAddS : R2 := fun x y H Q => ∃ i j, x = .str i ∧ y = .str j ∧ i.length + j.length ≤ sizeLine ∧ Q (.str (i ++ j)) H
theorem rd_addS (h : s.length + z.length ≤ 100000) : R2D rAddS (.str s) (.str z) (.str (s ++ z)) := fun Z H x y Q k r1 r2 q => by
  cases r1; cases r2
  exact ⟨s, z, rfl, rfl, Nat.le_trans h (by decide), q _ H (Ex.rf H) (.str _)⟩
theorem rd_ixS {i c : Nat} (hz : s.length ≤ 100000) (h : (cpl s)[i]? = some c) : R2D (rIx K) (.str s) (.int (i : Int)) (.str (sg c)) := fun Z H x y Q k r1 r2 q => by
  cases r1; cases r2
  exact .inr (.inr ⟨s, _, c, rfl, rfl, Nat.le_trans hz (by decide), atI_nat h, q _ H (Ex.rf H) (.str _)⟩)
theorem rd_inSg {c : Nat} : R2D (fun x y H Q => ∃ (c : Nat) (z : Str), x = .str ⟨#[c]⟩ ∧ y = .str z ∧ Q (.bl (decide (c ∈ z.cps.toList))) H) (.str (sg c)) (.str z) (.bl (decide (c ∈ cpl z))) := rd_inSign
theorem rd_notInSg {c : Nat} : R2D (fun x y H Q => ∃ (c : Nat) (z : Str), x = .str ⟨#[c]⟩ ∧ y = .str z ∧ Q (.bl (!decide (c ∈ z.cps.toList))) H) (.str (sg c)) (.str z) (.bl (!decide (c ∈ cpl z))) := fun Z H x y Q k r1 r2 q => by
  cases r1; cases r2
  exact ⟨c, z, rfl, rfl, q _ H (Ex.rf H) (.bl _)⟩
/-- s[i:j] -/
def cutN (s : Str) (i j : Nat) : Str := ⟨(((cpl s).drop i).take (j - i)).toArray⟩
theorem sIx_le' (n k : Nat) (h : k ≤ n) : HT.sIx n 0 (some (k : Int)) = k := by rw [HT.sIx_nat]; omega
theorem ev_cutS (h : Ev te ρ (.str s)) {i j : Nat} {lo hi : Option Int} (hl : EvO tl ρ lo) (hh : EvO th ρ hi) (hz : s.length ≤ 100000) (el : HT.sIx s.length 0 lo = i) (eh : HT.sIx s.length s.length hi = j) : Ev (tSl rSlS te tl th) ρ (.str (cutN s i j)) := fun Z σ H Q k sr q =>
  h Z σ H _ k sr fun x H1 x1 r1 => hl Z σ H1 _ (k.ex x1) (sr.mono x1.to) fun H2 x2 => hh Z σ H2 _ (k.ex (x1.tr x2)) (sr.mono (x1.tr x2).to) fun H3 x3 => by
    cases r1
    refine ⟨s, rfl, Nat.le_trans hz (by decide), ?_⟩
    have e : cutS s lo hi = cutN s i j := by unfold cutS cutN; rw [el, eh]
    rw [e]
    exact q _ H3 ((x1.tr x2).tr x3) (.str _)
theorem k_addS : OpR X (binaryOp .Add) rAddS := op_add_str
theorem k_slS : SlR X rSlS := sl_str
/-- list(text) -/
def rListS : List V → Hp → VK → Prop := fun xs H Q => ∃ z : Str, xs = [.str z] ∧ z.length ≤ 100000 ∧ ∀ l, H l = none → Q (.ref l) (upd H l (.lst ((cpl z).map fun c => V.str (sg c))))
theorem call_listStr (hc : X.calm = true) : CallR X (.type "list") rListS := by
  intro pins st σ H xs us Q I r h
  obtain ⟨z, rfl, hz, q⟩ := h
  obtain ⟨u, rfl, rx⟩ := vals1 r
  obtain ⟨t, rfl⟩ := rx
  refine call_list_str (I.ok.hd hc) z t (fun h' tk acc c' kp e ha => ?_) (Nat.le_trans hz (by decide))
  have hv : Vals ((cpl z).map fun c => V.str (sg c)) acc.toList := by
    refine vals_of_at (by rw [List.length_map, Array.length_toList, Array.length_toList]; exact ha.1.symm) fun i x u hx hu => ?_
    obtain ⟨c, t', h1, rfl⟩ := ha.2 i u (by rw [← Array.getElem?_toList]; exact hu)
    rw [List.getElem?_map, Array.getElem?_toList, h1] at hx
    cases hx
    exact ⟨t', rfl⟩
  exact ⟨.ref st.heap.objs.size, _, I.laid (t' := tk) kp (Nat.le_refl _) (show ObjOk X.prog X.w _ h' _ (.lst ((cpl z).map fun c => V.str (sg c))) from ⟨by rw [List.length_map, cpl_len]; exact Nat.le_trans hz (by decide), acc.toList, c', hv, by rw [Array.toArray_toList]; exact e⟩), rfl, q _ (I.hok.fresh (Nat.le_refl _))⟩
theorem reps_signs {Z : Addr → Prop} {H : Hp} : ∀ cs : List Nat, Reps Z H (cs.map fun c => V.str (sg c)) (cs.map fun c => D.str (sg c))
  | [] => .nil
  | c :: cs => .cons (.str _) (reps_signs cs)
theorem rl_listS (hz : s.length ≤ 100000) : RLD rListS [.str s] (.lst ((cpl s).map fun c => D.str (sg c))) := fun Z H xs Q k r q => by
  cases r with
  | cons r r' => cases r'; cases r; exact ⟨s, rfl, hz, fun p hp => q _ _ (Ex.new hp) (.lst (k.no hp) upd_same (reps_signs _))⟩
/-- sep.join(list of texts) -/
def rJoin (K : PySem.W.Frag) : V → List V → Hp → VK → Prop := fun x xs H Q => ∃ a p, ∃ ys : List Str, x = .str a ∧ xs = [.ref p] ∧ (SqL K H p (ys.map V.str) ∨ SqT K H p (ys.map V.str)) ∧
  (ys.map (·.length)).sum + ys.length * a.length ≤ 16777216 ∧ Q (.str (Txt.join a ys)) H
theorem k_join {o e : Expr} {to te : TE} {apos pos : Pos} (hK : X.K = K) (ho : PE X o to) (he : PE X e te) (hs : starEach [e] X.env = [(false, eval e X.env)] := by rfl) (hbase : attributeBase o "join" X.env (eval o X.env) = eval o X.env := by rfl) (hline : (apos.endLine == pos.line) = true := by rfl) :
    PE X (.Call (.Attribute o "join" apos) [e] [] pos) (tM1 (rJoin K) to te) := by subst hK; exact pe_join ho he hs hbase hline
theorem reps_strs {Z : Addr → Prop} {H : Hp} : ∀ {ys : List Str} {vs : List V}, Reps Z H vs (ys.map D.str) → vs = ys.map V.str
  | [], _, .nil => rfl
  | y :: ys, _, .cons r t => by cases r; rw [reps_strs t]; rfl
theorem ge_join {μ : Mu} {Φ : D → Mu → Prop} (h : GE ta ρ μ fun d μ1 => d = .str s ∧ GE te ρ μ1 fun e μ2 => ∃ ys : List Str, e = .lst (ys.map D.str) ∧ (ys.map (·.length)).sum + ys.length * s.length ≤ 100000 ∧ Φ (.str (Txt.join s ys)) μ2) : GE (tM1 (rJoin K) ta te) ρ μ Φ := fun Z σ H Q k sr m c =>
  h Z σ H _ k sr m fun v H1 d μ1 g n1 r1 => by
    obtain ⟨rfl, g⟩ := g
    cases r1
    refine ⟨⟨s, rfl⟩, g Z σ H1 _ (n1.ok k) (sr.mono (n1.to m)) n1.mem fun w H2 e μ2 q n2 r2 => ?_⟩
    obtain ⟨ys, rfl, hz, q⟩ := q
    cases r2 with
    | lst nz hv rs =>
      rw [reps_strs rs] at hv
      exact ⟨s, _, ys, rfl, rfl, .inl (.inl (.inl hv)), Nat.le_trans hz (by decide), c _ H2 _ μ2 q (n1.tr n2) (.str _)⟩
end
end Du
namespace Du
open PySem L2
/-! owned instances: their fields, their methods, what stands in a field is called -/
def tFCall (K : PySem.W.Frag) (m : Str) (f : Addr) (sp : Sp) (E : XK) (ta : TE) (t : TA) : TE := fun σ H Q => ta σ H fun x H1 => ∃ a C dx fs, x = .ref a ∧ H1 a = some (.ins C dx fs) ∧ Cls K C ∧ NoAttr K C m ∧ fs.lookup m = some (.ref f) ∧ t σ H1 fun vs H2 => sp vs H2 Q E
theorem pe_fcall {X : Cx} {K : PySem.W.Frag} {CX : CXT} {k : Nat} {f : Addr} {m : Str} {sp : Sp} {E : XK} {o e : Expr} {es : List Expr} {ta : TE} {t : TA} {apos pos : Pos} {pl : Sem Bool} (hK : X.K = K) (he : PE X o ta) (F : FnR X.prog X.w X.K X.mg X.base CX k f sp) (hkp : PySem.W.keepIn X.K (.ref f) = true) (hr : Room k X.A) (hx : Passes CX X E) (ha : PA X (e :: es) t)
    (hst : starEach (e :: es) X.env = (false, eval e X.env) :: starEach es X.env := by rfl) (hpl : (backTo pos (starEach es X.env)).any (·.1) = false := by rfl)
    (ht : eval (.Call (.Attribute o m apos) (e :: es) [] pos) X.env = (do
      let ov ← eval o X.env
      standAt apos.atName
      let (f, first) ← holding [ov] (getMethod ov m pl)
      callWith pos f first (backTo pos (starEach (e :: es) X.env)) (backToKw pos (keywordEach [] X.env))) := by rfl) :
    PE X (.Call (.Attribute o m apos) (e :: es) [] pos) (tFCall K m f sp E ta t) := by
  subst hK
  refine ⟨fun pins s σ H Q I h => ?_⟩
  refine PySem.W.methodCall_KW (pl := pl) (thn (he.run pins s σ H _ I h) fun u s1 ⟨x, H1, I1, rx, a, C, dx, fs, ex, ea, c, n, l, q⟩ => ?_) ht
  subst ex
  obtain rfl : u = Value.ref a := rx
  refine getmeth_fld I1 ea c n l fun u' s' I' ru => ?_
  obtain rfl : u' = Value.ref f := ru
  refine PySem.W.callWith_K (first := []) (h₀ := X.base) I'.ok.mod.kin hkp (thn (ha.run pos pins s' σ H1 _ I' q) fun us s2 ⟨vs, H2, I2, r, q2⟩ => ⟨I2.kIn, ?_⟩) hst hpl
  exact wpAny_call (run_fnR (us := us) (vs := vs) F hr hx I2 r q2)
/-- o.m() of a def that may raise -/
theorem pe_mtX0 {X : Cx} {E : XK} {k j : Nat} {C : Addr} {sp : Sp} {o : Expr} {m : Str} {pos apos : Pos} {ta : TE} {pl : Sem Bool} (c : MetX X.prog X.w X.K X.mg X.base k C m sp) (hr : Room j X.A) (hk : k ≤ j) (hx : Passes (L2.CX X.prog X.w) X E) (he : PE X o ta)
    (ht : eval (.Call (.Attribute o m apos) [] [] pos) X.env = (do
      let ov ← eval o X.env
      standAt apos.atName
      let (f, first) ← holding [ov] (getMethod ov m pl)
      callWith pos f first (backTo pos (starEach [] X.env)) (backToKw pos (keywordEach [] X.env))) := by rfl) :
    PE X (.Call (.Attribute o m apos) [] [] pos) (tMeth C m sp [] E ta tNil) := by
  obtain ⟨f, fd, ps, hc, hm, F, b⟩ := c.ex
  exact pe_meth0 (pl := pl) he hc hm F (hr.mono hk) b .nil hx ht
section
variable {K : PySem.W.Frag} {ρ : Rho} {μ : Mu} {te ta tb : TE} {t : TA} {ts us : TS} {Φ : D → Mu → Prop} {X : Prop} {E : XK} {C CU : Addr} {m f : Str}
theorem ge_fldO (h : GE ta ρ μ fun o μ1 => ∃ (a : Addr) (k : Nat) (C : Addr) (fs : List (Str × D)) (z : D), o = .ptr a ∧ μ1[k]? = some (a, .ins C fs) ∧ Cls K C ∧ NoAttr K C f ∧ fs.lookup f = some z ∧ Φ z μ1) : GE (tFld K ta f) ρ μ Φ := fun Z σ H Q k s mm c =>
  h Z σ H _ k s mm fun x H1 d μ1 g n1 r1 => by
    obtain ⟨a, j, C, fs, z, rfl, hk, hc, hn, hl, q⟩ := g
    cases r1
    obtain ⟨za, dx, ws, hv, rs⟩ := n1.mem.ins hk
    obtain ⟨v, h1, h2⟩ := rs.look hl
    exact ⟨a, C, dx, ws, v, rfl, hv, hc, hn, h1, c v H1 z μ1 q n1 h2⟩
theorem ge_fcall {fa : Addr} {R : List D → D → Prop} (h : GE ta ρ μ fun o μ1 => ∃ (a : Addr) (k : Nat) (C : Addr) (fs : List (Str × D)), o = .ptr a ∧ μ1[k]? = some (a, .ins C fs) ∧ Cls K C ∧ NoAttr K C m ∧ fs.lookup m = some (.ptr fa) ∧ GEA t ρ μ1 fun ds μ2 => ∃ z, R ds z ∧ Φ z μ2) : GE (tFCall K m fa (spP R) E ta t) ρ μ Φ := fun Z σ H Q k s mm c =>
  h Z σ H _ k s mm fun x H1 d μ1 g n1 r1 => by
    obtain ⟨a, j, C, fs, rfl, hk, hc, hn, hl, g⟩ := g
    cases r1
    obtain ⟨za, dx, ws, hv, rs⟩ := n1.mem.ins hk
    obtain ⟨v, h1, h2⟩ := rs.look hl
    cases h2
    refine ⟨a, C, dx, ws, rfl, hv, hc, hn, h1, g Z σ H1 _ (n1.ok k) (s.mono (n1.to mm)) n1.mem fun vs H2 ds μ2 q n2 r2 => ?_⟩
    obtain ⟨z, hR, q⟩ := q
    exact ⟨Z, ds, z, (n1.tr n2).ok k, r2, hR, fun v H3 x3 r3 => c v H3 z μ2 q ((n1.tr n2).tr (.exs n2.mem x3)) r3⟩
/-- a method of an owned instance -/
theorem ge_methO {R : List D → Mu → (D → Mu → Prop) → Prop} (h : GE ta ρ μ fun o μ1 => ∃ (a : Addr) (k : Nat) (fs : List (Str × D)), o = .ptr a ∧ μ1[k]? = some (a, .ins C fs) ∧ fs.lookup m = none ∧ GEA t ρ μ1 fun ds μ2 => ∃ ν μa, μ2 = ν ++ μa ∧ R (.ptr a :: ds) μa fun d μ' => Φ d (ν ++ μ')) : GE (tMeth C m (spM R) [] E ta t) ρ μ Φ := fun Z σ H Q k s mm c =>
  h Z σ H _ k s mm fun x H1 d μ1 g n1 r1 => by
    obtain ⟨a, j, fs, rfl, hk, hl, g⟩ := g
    cases r1
    obtain ⟨za, dx, ws, hv, rs⟩ := n1.mem.ins hk
    refine ⟨a, dx, ws, rfl, hv, rs.none hl, g Z σ H1 _ (n1.ok k) (s.mono (n1.to mm)) n1.mem fun vs H2 ds μ2 q n2 r2 => ?_⟩
    obtain ⟨ν, μa, rfl, hR⟩ := q
    have n12 := n1.tr n2
    exact ⟨Z, _, μa, _, n12.ok k, .cons (.ptr a) (by rw [List.append_nil]; exact r2), n2.mem.right, hR, fun v H3 d μ' q n3 r3 => c v H3 d _ q (n12.tr (n3.frameL n2.mem)) r3⟩
theorem gxb_meth {Rb : List D → Mu → (D → Mu → Prop) → Prop → Prop} (h : GE ta ρ μ fun o μ1 => ∃ (a : Addr) (k : Nat) (fs : List (Str × D)), o = .ptr a ∧ μ1[k]? = some (a, .ins C fs) ∧ fs.lookup m = none ∧ GEA t ρ μ1 fun ds μ2 => ∃ ν μa, μ2 = ν ++ μa ∧ Rb (.ptr a :: ds) μa (fun d μ' => Φ d (ν ++ μ')) X) : GXB (tMeth C m (spB CU Rb) [] E ta t) ρ μ Φ X E CU := fun Z σ H Q k s mm c x =>
  h Z σ H _ k s mm fun y H1 d μ1 g n1 r1 => by
    obtain ⟨a, j, fs, rfl, hk, hl, g⟩ := g
    cases r1
    obtain ⟨za, dx, ws, hv, rs⟩ := n1.mem.ins hk
    refine ⟨a, dx, ws, rfl, hv, rs.none hl, g Z σ H1 _ (n1.ok k) (s.mono (n1.to mm)) n1.mem fun vs H2 ds μ2 q n2 r2 => ?_⟩
    obtain ⟨ν, μa, rfl, hR⟩ := q
    exact spB_go k mm (n1.tr n2) (.cons (.ptr a) (by rw [List.append_nil]; exact r2)) hR c x
end
/-! a new instance that stays owned, together with what its __init__ makes -/
section
variable {K : PySem.W.Frag} {ρ : Rho} {μ : Mu} {te ta : TE} {t : TA} {ts : TS} {Φ : D → Mu → Prop} {N : Rho → Mu → Prop} {R : D → Mu → Prop} {E : XK} {C : Addr} {f : Str}
theorem gn_fldX (h : GX te ρ μ fun d μ1 => GE ta ρ μ1 fun o μ2 => ∃ (a : Addr) (k : Nat) (C : Addr) (fs : List (Str × D)), o = .ptr a ∧ μ2[k]? = some (a, .ins C fs) ∧ Cls K C ∧ NoAttr K C f ∧ fs.length < 1000 ∧ N ρ (μ2.set k (a, .ins C (putD f d fs)))) : GN (sFld K ta te f) ρ μ N R := fun Z σ H E k s m n r =>
  h Z σ H _ k s m fun y H1 d μ1 Z1 g n1 r1 => g Z1 σ H1 _ n1.ok (n1.srep m s) n1.mem fun x H2 o μ2 g n2 r2 => by
    obtain ⟨a, kk, C, fs, rfl, hk, hc, hn, hl, q⟩ := g
    cases r2
    obtain ⟨za, dx, vs, hv, rs⟩ := n2.mem.ins hk
    have xm : Ext Z1 H2 (upd H2 a (.ins C dx (putF f y vs))) := (Ext.rf H2).mut za
    have n3 : Nxt Z1 H2 μ2 (upd H2 a (.ins C dx (putF f y vs))) (μ2.set kk (a, .ins C (putD f d fs))) := .putC n2.mem hk (.ins upd_same ((rs.put (r1.mono (n2.to n1.mem))).mono xm))
    have nn := n1.tr k m (((n2.tr n3).nz n1.ok).nw)
    exact ⟨a, C, dx, vs, rfl, hv, hc, hn, by rw [rs.len]; exact hl, n _ _ ρ _ Z1 q nn (nn.srep m s)⟩
theorem gx_makeO {Rn : List D → Mu → (D → Mu → Prop) → Prop} (h : GEA t ρ μ fun ds μ1 => ∀ p, ¬ dom μ1 p → Rn (.ptr p :: ds) [(p, .ins C [])] fun d μ' => d = .non ∧ Φ (.ptr p) (μ1 ++ μ')) : GX (tMake C (spN Rn) [] E t) ρ μ Φ := fun Z σ H Q k s m c =>
  h Z σ H _ k s m fun vs H1 ds μ1 g n1 r1 x dx hx hdx ne => by
    have k1 := n1.ok k
    have m1 := n1.mem
    have hdx' : (upd H1 dx (.own x)) x = none := by rw [upd_ne ne.symm]; exact hx
    have e1 : Ex H1 (upd H1 dx (.own x)) := Ex.new hdx
    have z0 := ((Nxt.exs m1 e1).nz k1).nw
    have z1 : Nw Z (upd H1 dx (.own x)) μ1 (fun b => Z b ∨ b = x) (upd (upd H1 dx (.own x)) x (.ins C dx [])) ((x, .ins C []) :: μ1) := Nw.own z0.ok z0.mem hdx' rfl (.ins upd_same .nil)
    have z2 : Nw Z H1 μ1 (fun b => Z b ∨ b = x) (upd (upd H1 dx (.own x)) x (.ins C dx [])) (μ1 ++ [(x, .ins C [])]) := (z0.tr k1 m1 z1).permR (List.perm_append_comm.symm)
    have z3 := (n1.nz k).nw.tr k m z2
    refine ⟨_, .ptr x :: ds, [(x, .ins C [])], _, z2.ok, .cons (.ptr x) (by rw [List.append_nil]; exact z2.reps m1 r1), z2.mem.right, g x (fun hd => k1.no hx (m1.dz hd)), fun v H' d μ' Z' q n2 r2 => ?_⟩
    obtain ⟨rfl, q⟩ := q
    cases r2
    exact ⟨rfl, c _ H' _ _ Z' q (z3.tr k m (n2.frameL z2.ok z2.mem)) (.ptr x)⟩
end
/-! an owned instance with what its fields hold, read as data -/
inductive UnfF (μ : Mu) : List (Str × D) → List (Str × D) → Prop
  | nil : UnfF μ [] []
  | cons {f : Str} {d e : D} {ds es : List (Str × D)} : Unf μ d e → UnfF μ ds es → UnfF μ ((f, d) :: ds) ((f, e) :: es)
theorem UnfF.reps {Z : Addr → Prop} {H : Hp} {μ : Mu} (m : ∀ p ∈ μ, Z p.1 ∧ Cont Z H p.1 p.2) : ∀ {ds es : List (Str × D)}, UnfF μ ds es → ∀ {vs : List (Str × V)}, RepF Z H vs ds → RepF (fun b => Z b ∧ ¬ dom μ b) H vs es
  | _, _, .nil, _, r => by cases r; exact .nil
  | _, _, .cons u us, _, r => by
    cases r with
    | cons r rs => exact .cons (u.rep m r) (UnfF.reps m us rs)
section
variable {ρ : Rho} {μ : Mu} {te : TE} {tt : TT} {Φ : D → Mu → Prop} {ΦT : Bool → Mu → Prop} {d : D} {b : Bool}
theorem SRep.nest {Z : Addr → Prop} {H : Hp} {σ : L2.St} {i : Nat} {a C : Addr} {fs es : List (Str × D)} (s : SRep Z H σ ρ) (m : Mem Z H μ) (h0 : ρ[i]? = some (some (.ptr a))) (hm : (a, .ins C fs) ∈ μ) (u : UnfF μ fs es) : SRep (fun b => Z b ∧ ¬ dom μ b) H σ (ρ.set i (some (.ins C es))) := by
  obtain ⟨v, hs, hr⟩ := s.2 i _ h0
  cases hr
  obtain ⟨z, c⟩ := m.cs _ hm
  cases c with
  | ins h rs =>
    have := (s.zs (Z' := fun b => Z b ∧ ¬ dom μ b) fun b h => .inl h.1).set i (.ins (fun q => q.2 (List.mem_map.mpr ⟨_, hm, rfl⟩)) h (u.reps m.cs rs))
    have e : σ.set i (some (.ref a)) = σ := by
      apply List.ext_getElem?
      intro j
      rw [List.getElem?_set]
      by_cases hj : i = j
      · subst hj
        rw [if_pos rfl, hs, if_pos (List.getElem?_eq_some_iff.mp hs).1]
      · rw [if_neg hj]
    rwa [e] at this
theorem gt_nest {i : Nat} {a C : Addr} {fs es : List (Str × D)} (h0 : ρ[i]? = some (some (.ptr a))) (hm : (a, .ins C fs) ∈ μ) (u : UnfF μ fs es) (h : EvT tt (ρ.set i (some (.ins C es))) b) (q : ΦT b μ) : GT tt ρ μ ΦT := fun Z σ H Q k s m f =>
  h _ σ H Q (fun b z => k b z.1) (s.nest m h0 hm u) fun H' x => f b H' μ q (.exs m x)
theorem ge_nest {i : Nat} {a C : Addr} {fs es : List (Str × D)} (h0 : ρ[i]? = some (some (.ptr a))) (hm : (a, .ins C fs) ∈ μ) (u : UnfF μ fs es) (h : Ev te (ρ.set i (some (.ins C es))) d) (hf : flatD d = true) (q : Φ d μ) : GE te ρ μ Φ := fun Z σ H Q k s m f =>
  h _ σ H Q (fun b z => k b z.1) (s.nest m h0 hm u) fun v H' x r => f v H' d μ q (.exs m x) (r.flat hf)
theorem RepK.valNo {Z : Addr → Prop} {H : Hp} {k : Key} : ∀ {kvs : List (Key × V)} {ds : List (Key × D)}, RepK Z H kvs ds → valD ds k = none → valV kvs k = none
  | _, _, .nil, _ => rfl
  | _, _, .cons (k := k') (v := v) (vs := vs) (d := d) (ds := ds) r rs, h => by
    unfold valD at h
    unfold valV
    rw [List.find?_cons] at h ⊢
    by_cases e : k' = k
    · rw [show decide (k' = k) = true from decide_eq_true e] at h; cases h
    · rw [show decide (k' = k) = false from decide_eq_false e] at h ⊢
      exact RepK.valNo rs h
/-- d.get(k, default), d[k], k in d by texts -/
theorem ev_sget2 {td ty tx : TE} {kvs : List (Key × D)} {k : Str} {z z0 : D} (hd : Ev td ρ (.dK kvs)) (hk : Ev ty ρ (.str k)) (hx : Ev tx ρ z0) (hv : (valD kvs (.inr k)).getD z0 = z) : Ev (tDGet2 td ty tx) ρ z := fun Z σ H Q ok s q =>
  hd Z σ H _ ok s fun x H1 x1 r1 => by
    cases r1 with
    | dK n h rs =>
      refine ⟨_, rfl, .inl ⟨_, h⟩, hk Z σ H1 _ (ok.ex x1) (s.mono x1.to) fun y H2 x2 r2 => hx Z σ H2 _ ((ok.ex x1).ex x2) ((s.mono x1.to).mono x2.to) fun v H3 x3 r3 => ?_⟩
      cases r2
      have h3 : Rd H3 _ (.dK _) := h.imp (fun h => x3 _ _ (x2 _ _ h)) fun ⟨o, h⟩ => ⟨o, x3 _ _ (x2 _ _ h)⟩
      have rs3 := (rs.mono x2.to).mono x3.to
      refine ⟨_, .inl ⟨_, .inr k, h3, rfl, rfl⟩, ?_⟩
      cases hz : valD kvs (.inr k) with
      | none =>
        rw [hz] at hv
        rw [rs3.valNo hz]
        subst hv
        exact q v H3 ((x1.tr x2).tr x3) r3
      | some d =>
        rw [hz] at hv
        obtain ⟨u, e1, e2⟩ := rs3.val hz
        rw [e1]
        subst hv
        exact q u H3 ((x1.tr x2).tr x3) e2
theorem ev_sin {td ty : TE} {kvs : List (Key × D)} {k : Str} (hk : Ev ty ρ (.str k)) (hd : Ev td ρ (.dK kvs)) : Ev (tDIn ty td) ρ (.bl (valD kvs (.inr k)).isSome) := fun Z σ H Q ok s q =>
  hk Z σ H _ ok s fun y H1 x1 r1 => hd Z σ H1 _ (ok.ex x1) (s.mono x1.to) fun x H2 x2 r2 => by
    cases r1
    cases r2 with
    | dK n h rs =>
      cases hv : valD kvs (.inr k) with
      | none =>
        have e := rs.valNo hv
        rw [hv] at q
        exact ⟨_, none, rfl, .inl ⟨_, .inr k, h, rfl, e.symm⟩, q _ H2 (x1.tr x2) (.bl _)⟩
      | some d =>
        obtain ⟨v, e1, e2⟩ := rs.val hv
        rw [hv] at q
        exact ⟨_, some v, rfl, .inl ⟨_, .inr k, h, rfl, e1.symm⟩, q _ H2 (x1.tr x2) (.bl _)⟩
theorem r1_neg1 {i : Int} : R1D (rU fun i => .int (-i)) (.int i) (.int (-i)) := fun Z H x Q k r q => by
  cases r; exact ⟨i, rfl, q _ H (Ex.rf H) (.int _)⟩
end
/-! a loop over a list that a call hands back, which may refuse -/
section
variable {K : PySem.W.Frag} {ρ : Rho} {μ : Mu} {tl : TE} {ts : TS} {g : TG} {N : Rho → Mu → Prop} {R : D → Mu → Prop} {X : Prop} {E : XK} {CU : Addr}
theorem gnb_forX (h : GXB tl ρ μ (fun d μ1 => ∃ (ds : List D) (I : Nat → Rho → Mu → Prop) (ρ0 : Rho), d = .lst ds ∧ Lq ρ0 ρ ∧ I 0 ρ0 μ1 ∧
    (∀ i d ρi μi, ds[i]? = some d → I i ρi μi → ∃ ρ', GA g d ρi ρ' ∧ GNB ts ρ' μi (fun ρ'' μ'' => ∃ ρ1, Lq ρ1 ρ'' ∧ I (i + 1) ρ1 μ'') R X E CU) ∧ (∀ ρ' μ', I ds.length ρ' μ' → N ρ' μ')) X E CU) : GNB (tFor (iSeq K tl) g ts) ρ μ N R X E CU := fun Z σ H D k s m n r x =>
  .inl (h Z σ H _ k s m (fun v H1 d μ1 Z1 q n1 r1 => by
    obtain ⟨ds, I, ρ0, rfl, hl, h0, hb, hn⟩ := q
    cases r1 with
    | lst nz hv rs =>
      rename_i p vs
      refine ⟨p, rfl, ⟨vs, .inl (.inl hv)⟩, ?_⟩
      have w1 : DW Z1 (Itl K p) H1 ds := fun Z' hz => by
        have nz' : ¬ Z' p := fun z => (hz _ z).elim nz fun e => by rw [hv] at e; cases e
        rw [← rs.len]
        refine walk_list.mono (fun H g => .inl (.inl (g.1.exact nz' hv))) fun i Hc x H' hi g y => ?_
        obtain ⟨rfl, y⟩ := y
        obtain ⟨d, e1, e2⟩ := (rs.zs hz).getV y
        exact ⟨Ex.rf _, d, e1, e2.mono g.1⟩
      exact forNB n1.ok n1.mem (n1.srep m s) w1 I hl h0 hb hn (fun σ' H' ρ' μ' Z' q z => n σ' H' ρ' μ' Z' q (n1.tr k m z)) (fun v H' d μ' Z' q z => r v H' d μ' Z' q (n1.tr k m z)) (x.tr k m n1)) x)
end
theorem gn_par3X {ρ : Rho} {μ : Mu} {N : Rho → Mu → Prop} {R : D → Mu → Prop} {i j l : Nat} {t : TA} (h : GXA t ρ μ fun ds μ' => ∃ d e f, ds = [d, e, f] ∧ N (((ρ.set i (some d)).set j (some e)).set l (some f)) μ') : GN (tPar3 i j l t) ρ μ N R := fun Z σ H E k s m n r =>
  h Z σ H _ k s m fun vs H' ds μ' Z' q z rd => by
    obtain ⟨d, e, f, rfl, q⟩ := q
    cases rd with
    | cons r1 rd => cases rd with
      | cons r2 rd => cases rd with
        | cons r3 rd =>
          cases rd
          exact ⟨_, _, _, rfl, n _ H' _ μ' Z' q z ((((z.srep m s).set i r1).set j r2).set l r3)⟩
/-- a def that answers with data, whatever is owned -/
theorem spP_ofM {R : List D → D → Prop} (vs : List V) (H : Hp) (Q : VK) (E : XK) (h : spP R vs H Q E) : spM (fun ds μ Φ => ∃ d, R ds d ∧ Φ d μ) vs H Q E := by
  obtain ⟨Z, ds, d, k, r, hR, q⟩ := h
  refine ⟨Z, ds, [], fun d' μ' => d' = d, k, r, ⟨fun p hp => absurd hp (by simp), by simp⟩, ⟨d, hR, rfl⟩, fun v H' d' μ' e n r' => ?_⟩
  subst e
  exact q v H' (fun a o h => n.ext a o (by simp [dom]) h) r'
/-! is None, is not None -/
def isNo : D → Bool
  | .non => true
  | _ => false
theorem rd_isNo {d : D} : R2D (fun x y H Q => y = .non ∧ Q (.bl (decide (x = .non))) H) d .non (.bl (isNo d)) := fun Z H x y Q k r1 r2 q => by
  cases r2
  refine ⟨rfl, ?_⟩
  cases r1 <;> exact q _ H (Ex.rf H) (.bl _)
theorem rd_notNo {d : D} : R2D (fun x y H Q => y = .non ∧ Q (.bl (!decide (x = .non))) H) d .non (.bl (!isNo d)) := fun Z H x y Q k r1 r2 q => by
  cases r2
  refine ⟨rfl, ?_⟩
  cases r1 <;> exact q _ H (Ex.rf H) (.bl _)
end Du
namespace Du
open PySem L2 PySem.Spec PyProof.Rows
/-! a copy of a dict of the written part: texts with ints -/
/-- at d: a written dict, its keys kvs in order, with these ints -/
structure KIs (K : PySem.W.Frag) (w : World) (d : Addr) (kvs : List (Str × Int)) : Prop where
  dw : He.dicW K d = some (He.keysIn w.params (kvs.map (·.1)))
  nd : (kvs.map (·.1)).Nodup
  len : kvs.length ≤ 100000
  at_ : ∀ p ∈ kvs, ∃ t, PySem.W.nsIn K d p.1 = some (some (.int p.2 t))
theorem find_key {P : Params} : ∀ {l : List DictEntry} {ks : List Str}, l.map He.keyOf = He.keysIn P ks → ks.Nodup → ∀ (j : Nat) (e : DictEntry) (k : Str), l[j]? = some e → ks[j]? = some k → l.find? (·.key.isStr k) = some e
  | [], _, _, _, j, e, k, h1, _ => by simp at h1
  | e0 :: l, [], h, _, _, _, _, _, _ => by cases h
  | e0 :: l, k0 :: ks, h, nd, j, e, k, h1, h2 => by
    have h' : He.keyOf e0 :: l.map He.keyOf = some (k0, PyData.keyHash P k0) :: He.keysIn P ks := h
    injection h' with ha hb
    have hk : ∃ t, e0.key = .str k0 t := by
      unfold He.keyOf at ha
      split at ha
      · rename_i x t q
        obtain ⟨h5, _⟩ := Prod.mk.inj (Option.some.inj ha)
        exact ⟨t, by rw [q, h5]⟩
      · cases ha
    obtain ⟨t, hk⟩ := hk
    obtain ⟨n1, n2⟩ := List.nodup_cons.mp nd
    rw [List.find?_cons]
    cases j with
    | zero =>
      cases h1; cases h2
      have : e0.key.isStr k0 = true := by rw [hk]; simp [Value.isStr]
      rw [this]
    | succ j =>
      simp only [List.getElem?_cons_succ] at h1 h2
      have hne : k0 ≠ k := fun z => n1 (z ▸ List.mem_of_getElem? h2)
      have : e0.key.isStr k = false := by rw [hk]; simp [Value.isStr, hne]
      rw [this]
      exact find_key hb n2 j e k h1 h2
theorem KIs.dict {K : PySem.W.Frag} {P : Program} {w : World} {d : Addr} {kvs : List (Str × Int)} {h : Heap} (T : KIs K w d kvs) (hK : K.In h) : (d == sysModules) = false ∧ ∃ vs, KV (kvs.map fun p => ((.inr p.1 : Key), V.int p.2)) vs ∧ h.DictOf (mixKind P w) d vs := by
  obtain ⟨es, n, KD⟩ := He.dicW_ok T.dw
  have e0 : He.dicW K d = some (es.toList.map He.keyOf) := by
    unfold He.dicW
    rw [KD.at_]
    simp [KD.low]
  have e1 : es.toList.map He.keyOf = He.keysIn w.params (kvs.map (·.1)) := Option.some.inj (e0.symm.trans T.dw)
  have hlen : es.toList.length = kvs.length := by have := congrArg List.length e1; simpa [He.keysIn] using this
  have hval : ∀ (j : Nat) (e : DictEntry) (p : Str × Int), es.toList[j]? = some e → kvs[j]? = some p → ∃ t, e.val = .int p.2 t := fun j e p h1 h2 => by
    have f := find_key e1 T.nd j e p.1 h1 (by rw [List.getElem?_map, h2]; rfl)
    obtain ⟨t, a⟩ := T.at_ p (List.mem_of_getElem? h2)
    refine ⟨t, ?_⟩
    unfold PySem.W.nsIn at a
    rw [KD.at_] at a
    dsimp only at a
    rw [f] at a
    exact Option.some.inj (Option.some.inj a)
  have pr : ∀ (l : List DictEntry) (ks : List (Str × Int)), l.map He.keyOf = He.keysIn w.params (ks.map (·.1)) → (∀ (j : Nat) (e : DictEntry) (p : Str × Int), l[j]? = some e → ks[j]? = some p → ∃ t, e.val = .int p.2 t) →
      ∃ vs, KV (ks.map fun p => ((.inr p.1 : Key), V.int p.2)) vs ∧ Pairs (mixKind P w) l vs ∧ vs.map (·.1) = ks.map (fun p => (.inr p.1 : Key)) := by
    intro l
    induction l with
    | nil =>
      intro ks hk _
      cases ks with
      | nil => exact ⟨[], .nil, .nil, rfl⟩
      | cons p ks => cases hk
    | cons e l ih =>
      intro ks hk hv
      cases ks with
      | nil => cases hk
      | cons p ks =>
        have hk' : He.keyOf e :: l.map He.keyOf = some (p.1, PyData.keyHash w.params p.1) :: He.keysIn w.params (ks.map (·.1)) := hk
        injection hk' with ha hb
        obtain ⟨vs, v1, v2, v3⟩ := ih ks hb fun j e' p' h1 h2 => hv (j + 1) e' p' (by simpa using h1) (by simpa using h2)
        obtain ⟨t, ht⟩ := hv 0 e p rfl rfl
        have hkey : ∃ t, e.key = .str p.1 t := by
          unfold He.keyOf at ha
          split at ha
          · rename_i x t q
            obtain ⟨h5, _⟩ := Prod.mk.inj (Option.some.inj ha)
            exact ⟨t, by rw [q, h5]⟩
          · cases ha
        obtain ⟨t', hkey⟩ := hkey
        refine ⟨((.inr p.1 : Key), .int p.2 t) :: vs, .cons ⟨rfl, ⟨t, rfl⟩⟩ v1, .cons (by rw [hkey]; exact mixKind_str P w p.1 t') ht v2, by rw [List.map_cons, List.map_cons, v3]⟩
  obtain ⟨vs, v1, v2, v3⟩ := pr es.toList kvs e1 hval
  refine ⟨KD.low, vs, v1, _, es, n, hK _ _ KD.at_, ⟨rfl, rfl, rfl⟩, rfl, fun e he => ?_, v2, ?_⟩
  · obtain ⟨x, t, h1, h2⟩ := KD.lit.all e (Array.mem_toList_iff.mpr he)
    exact ⟨.inr x, by rw [h1]; exact mixKind_str P w x t, h2⟩
  · rw [v3]
    have : (kvs.map fun p => (.inr p.1 : Key)) = (kvs.map (·.1)).map Sum.inr := by rw [List.map_map]; rfl
    rw [this]
    exact List.Pairwise.map Sum.inr (fun a b hab e => hab (Sum.inr.inj e)) T.nd
def rDictKd (K : PySem.W.Frag) (w : World) (kvs : List (Str × Int)) : List V → Hp → VK → Prop := fun xs H Q => ∃ a : Addr, xs = [.ref a] ∧ KIs K w a kvs ∧ ∀ p, H p = none → Q (.ref p) (upd H p (.dK (kvs.map fun p => ((.inr p.1 : Key), V.int p.2))))
theorem call_dictKd {X : Cx} {kvs : List (Str × Int)} : CallR X (.type "dict") (rDictKd X.K X.w kvs) := by
  intro pins s σ H xs us Q I r q
  obtain ⟨a, ex, T, q⟩ := q
  subst ex
  obtain ⟨u, eu, rx⟩ := vals1 r
  subst eu
  cases rx
  obtain ⟨lo, vs, rel, dd⟩ := T.dict (P := X.prog) I.kIn
  have z : (kvs.map fun p => ((.inr p.1 : Key), V.int p.2)).length ≤ sizeLine := by rw [List.length_map]; exact Nat.le_trans T.len (by decide)
  refine kt_call_dict lo dd (by rw [← rel.length]; exact z) fun h' d' hs => ?_
  have hm : (s.heap.objs.size == sysModules) = false := beq_eq_false_iff_ne.mpr (Nat.ne_of_gt I.big)
  exact ⟨.ref s.heap.objs.size, upd H s.heap.objs.size (.dK (kvs.map fun p => ((.inr p.1 : Key), V.int p.2))), I.laid (t' := s.toks) (fun b u e => (hs.2 b (Nat.ne_of_lt (Heap.lt_size e))).trans (Heap.get?_push_of_some _ e)) (Nat.le_refl _)
    (show ObjOk X.prog X.w _ _ _ (.dK (kvs.map fun p => ((.inr p.1 : Key), V.int p.2))) from ⟨z, hm, vs, rel, d'⟩), rfl, q _ (I.hok.fresh (Nat.le_refl _))⟩
theorem k_dictKd {X : Cx} {K : PySem.W.Frag} {w : World} {kvs : List (Str × Int)} (hK : X.K = K) (hw : X.w = w) : CallR X (.type "dict") (rDictKd K w kvs) := by subst hK; subst hw; exact call_dictKd
theorem rl_dictKd {K : PySem.W.Frag} {w : World} {d : Addr} {kvs : List (Str × Int)} (T : KIs K w d kvs) : RLD (rDictKd K w kvs) [.ptr d] (.dK (kvs.map fun p => ((.inr p.1 : Key), Du.D.int p.2))) := fun Z H xs Q k r q => by
  cases r with
  | cons r r' =>
    cases r'; cases r
    have rk : ∀ (H : Hp) (l : List (Str × Int)), RepK Z H (l.map fun p => ((.inr p.1 : Key), V.int p.2)) (l.map fun p => ((.inr p.1 : Key), Du.D.int p.2)) := fun H l => by
      induction l with
      | nil => exact .nil
      | cons p l ih => exact .cons (.int _) ih
    exact ⟨d, rfl, T, fun p hp => q _ _ (Ex.new hp) (.dK (k.no hp) (.inl upd_same) (rk _ _))⟩
end Du
/-! a row of signs read by a stack, and read part by part: the same -/
namespace Pz
variable {S : Type}
inductive Tk (S : Type) where
  | val (v : S)
  | op (r : Fin 3)
  | neg
  | lp
  | rp
inductive Sg where
  | op (r : Fin 3)
  | neg
  | lp
deriving DecidableEq
variable (bin : Fin 3 → S → S → S) (ng : S → S)
/-- the signs that bind the value on top are taken off -/
def closeM : List S → List Sg → List S × List Sg
  | v :: H, .neg :: W => closeM (ng v :: H) W
  | H, W => (H, W)
def workM (l : Nat) : List S → List Sg → List S × List Sg
  | b :: a :: H, .op r :: W => if l ≤ r.val then workM l (bin r a b :: H) W else (b :: a :: H, .op r :: W)
  | H, W => (H, W)
structure MS (S : Type) where
  H : List S
  W : List Sg
  op : Bool
def step (m : MS S) : Tk S → Option (MS S)
  | .val v => if m.op then some ⟨(closeM ng (v :: m.H) m.W).1, (closeM ng (v :: m.H) m.W).2, false⟩ else none
  | .neg => if m.op then some ⟨m.H, .neg :: m.W, true⟩ else none
  | .lp => if m.op then some ⟨m.H, .lp :: m.W, true⟩ else none
  | .op r => if m.op then none else some ⟨(workM bin r.val m.H m.W).1, .op r :: (workM bin r.val m.H m.W).2, true⟩
  | .rp => if m.op then none else match (workM bin 0 m.H m.W).2 with
    | [] => none
    | _ :: W => some ⟨(closeM ng (workM bin 0 m.H m.W).1 W).1, (closeM ng (workM bin 0 m.H m.W).1 W).2, false⟩
def fin (m : MS S) : Option S := if m.op then none else match (workM bin 0 m.H m.W).2 with
  | [] => (workM bin 0 m.H m.W).1.getLast?
  | _ => none
def run (m : MS S) : List (Tk S) → Option S
  | [] => fin bin m
  | t :: ts => (step bin ng m t).bind fun m' => run m' ts
/-! part by part -/
abbrev Rd (S : Type) := List (Tk S) → Option (S × List (Tk S))
def loop (f : Rd S) (l : Nat) : Nat → S → Rd S
  | m + 1, v, .op r :: ts => if r.val = l then (match f ts with | none => none | some (w, ts') => loop f l m (bin r v w) ts') else some (v, .op r :: ts)
  | _, v, ts => some (v, ts)
/-- level 3 - k -/
def lv (f : Rd S) : Nat → Rd S
  | 0 => f
  | k + 1 => fun ts => match lv f k ts with | none => none | some (v, ts') => loop bin (lv f k) (2 - k) ts'.length v ts'
theorem lv_succ (f : Rd S) (k : Nat) (ts : List (Tk S)) : lv bin f (k + 1) ts = match lv bin f k ts with | none => none | some (v, ts') => loop bin (lv bin f k) (2 - k) ts'.length v ts' := rfl
def pS : Nat → Rd S
  | 0 => fun ts => match ts with
    | .val v :: ts => some (v, ts)
    | _ => none
  | n + 1 => fun ts => match ts with
    | .val v :: ts => some (v, ts)
    | .neg :: ts => (match pS n ts with | none => none | some (v, ts') => some (ng v, ts'))
    | .lp :: ts => (match lv bin (pS n) 3 ts with | some (v, .rp :: ts') => some (v, ts') | _ => none)
    | _ => none
def isO : Tk S → Bool
  | .neg => true
  | .lp => true
  | _ => false
def opens (ts : List (Tk S)) : Nat := (ts.filter isO).length
/-- the top of the pile binds weaker than l -/
def okW (l : Nat) : List Sg → Prop
  | [] => True
  | .op r :: _ => r.val < l
  | .neg :: _ => False
  | .lp :: _ => True
def notOp (l : Nat) (ts : List (Tk S)) : Prop := ∀ r ts', ts = .op r :: ts' → r.val < l
variable {bin ng}
theorem close_ok {l : Nat} {W : List Sg} (h : okW l W) (H : List S) : closeM ng H W = (H, W) := by
  cases W with
  | nil => cases H <;> rfl
  | cons s W => cases s with
    | neg => exact h.elim
    | op r => cases H <;> rfl
    | lp => cases H <;> rfl
theorem work_ok {l : Nat} {W : List Sg} (h : okW l W) (H : List S) : workM bin l H W = (H, W) := by
  cases W with
  | nil => rcases H with _ | ⟨a, _ | ⟨b, H⟩⟩ <;> rfl
  | cons s W => cases s with
    | neg => exact h.elim
    | lp => rcases H with _ | ⟨a, _ | ⟨b, H⟩⟩ <;> rfl
    | op r =>
      rcases H with _ | ⟨a, _ | ⟨b, H⟩⟩
      · rfl
      · rfl
      · unfold workM
        rw [if_neg (by have : r.val < l := h; omega)]
theorem okW.up {l l' : Nat} {W : List Sg} (h : okW l W) (g : l ≤ l') : okW l' W := by
  cases W with
  | nil => trivial
  | cons s W => cases s with
    | neg => exact h.elim
    | lp => trivial
    | op r => exact Nat.lt_of_lt_of_le h g
/-- two closed states that are worked off alike -/
theorem run_same {l : Nat} {H1 H2 : List S} {W1 W2 : List Sg} {ts : List (Tk S)} (h : ∀ r ≤ l, workM bin r H1 W1 = workM bin r H2 W2) (hn : ∀ r ts', ts = .op r :: ts' → r.val ≤ l) : run bin ng ⟨H1, W1, false⟩ ts = run bin ng ⟨H2, W2, false⟩ ts := by
  cases ts with
  | nil => unfold run fin; simp only [h 0 (Nat.zero_le _)]
  | cons t ts =>
    unfold run
    congr 1
    cases t with
    | op r => unfold step; simp only [h r.val (hn r ts rfl)]
    | rp => unfold step; simp only [h 0 (Nat.zero_le _)]
    | _ => rfl
def GoodS (n : Nat) (f : Rd S) : Prop := ∀ ts, opens ts ≤ n → ∀ H W, match f ts with
  | some (v, rest) => run bin ng ⟨H, W, true⟩ ts = run bin ng ⟨(closeM ng (v :: H) W).1, (closeM ng (v :: H) W).2, false⟩ rest ∧ opens rest ≤ n
  | none => run bin ng ⟨H, W, true⟩ ts = none
def GoodL (n l : Nat) (f : Rd S) : Prop := ∀ ts, opens ts ≤ n → ∀ H W, okW l W → match f ts with
  | some (v, rest) => run bin ng ⟨H, W, true⟩ ts = run bin ng ⟨v :: H, W, false⟩ rest ∧ opens rest ≤ n ∧ notOp l rest
  | none => run bin ng ⟨H, W, true⟩ ts = none
theorem good3 {n : Nat} {f : Rd S} (h : GoodS (bin := bin) (ng := ng) n f) : GoodL (bin := bin) (ng := ng) n 3 f := fun ts ho H W hw => by
  have g := h ts ho H W
  cases e : f ts with
  | none => rw [e] at g; exact g
  | some p =>
    obtain ⟨v, rest⟩ := p
    rw [e] at g
    dsimp only at g ⊢
    rw [close_ok hw] at g
    exact ⟨g.1, g.2, fun r _ _ => r.isLt⟩
theorem loop_good {n l : Nat} {f : Rd S} (hl : l < 3) (h : GoodL (bin := bin) (ng := ng) n (l + 1) f) (hf : ∀ ts v rest, f ts = some (v, rest) → rest.length ≤ ts.length) : ∀ (m : Nat) (v : S) (ts : List (Tk S)), ts.length ≤ m → opens ts ≤ n → notOp (l + 1) ts → ∀ H W, okW l W → match loop bin f l m v ts with
  | some (w, rest) => run bin ng ⟨v :: H, W, false⟩ ts = run bin ng ⟨w :: H, W, false⟩ rest ∧ opens rest ≤ n ∧ notOp l rest ∧ rest.length ≤ ts.length
  | none => run bin ng ⟨v :: H, W, false⟩ ts = none := by
  intro m
  induction m with
  | zero =>
    intro v ts hlen ho hn H W hw
    have : ts = [] := List.length_eq_zero_iff.mp (Nat.le_zero.mp hlen)
    subst this
    exact ⟨rfl, ho, (by intro _ _ e; cases e), Nat.le_refl _⟩
  | succ m ih =>
    intro v ts hlen ho hn H W hw
    cases ts with
    | nil => exact ⟨rfl, ho, (by intro _ _ e; cases e), Nat.le_refl _⟩
    | cons t ts =>
      have other : (∀ r, t ≠ .op r) → (match (some (v, t :: ts) : Option (S × List (Tk S))) with
        | some (w, rest) => run bin ng ⟨v :: H, W, false⟩ (t :: ts) = run bin ng ⟨w :: H, W, false⟩ rest ∧ opens rest ≤ n ∧ notOp l rest ∧ rest.length ≤ (t :: ts).length
        | none => run bin ng ⟨v :: H, W, false⟩ (t :: ts) = none) := fun hne => ⟨rfl, ho, fun r ts' e => absurd (List.cons.inj e).1 (hne r), Nat.le_refl _⟩
      cases t with
      | val v' => exact other (fun _ e => nomatch e)
      | neg => exact other (fun _ e => nomatch e)
      | lp => exact other (fun _ e => nomatch e)
      | rp => exact other (fun _ e => nomatch e)
      | op r =>
        have hr : r.val < l + 1 := hn r ts rfl
        unfold loop
        by_cases hrl : r.val = l
        · rw [if_pos hrl]
          have ho' : opens ts ≤ n := ho
          have st : run bin ng ⟨v :: H, W, false⟩ (.op r :: ts) = run bin ng ⟨v :: H, .op r :: W, true⟩ ts := by
            show ((step bin ng ⟨v :: H, W, false⟩ (.op r)).bind fun m' => run bin ng m' ts) = _
            unfold step
            rw [if_neg (by simp)]
            have e : workM bin r.val (v :: H) W = (v :: H, W) := work_ok (hrl ▸ hw) _
            simp only [e]; rfl
          have g := h ts ho' (v :: H) (.op r :: W) (show r.val < l + 1 from hr)
          cases e : f ts with
          | none => rw [e] at g; exact st.trans g
          | some p =>
            obtain ⟨w, rest⟩ := p
            rw [e] at g
            obtain ⟨g1, g2, g3⟩ := g
            have hlr := hf _ _ _ e
            have same : run bin ng ⟨w :: v :: H, .op r :: W, false⟩ rest = run bin ng ⟨bin r v w :: H, W, false⟩ rest := by
              refine run_same (l := l) (fun q hq => ?_) fun q ts' e' => Nat.le_of_lt_succ (g3 q ts' e')
              show (if q ≤ r.val then workM bin q (bin r v w :: H) W else (w :: v :: H, .op r :: W)) = _
              rw [if_pos (by omega)]
            have i := ih (bin r v w) rest (by simp only [List.length_cons] at hlen; omega) g2 g3 H W hw
            dsimp only
            cases e2 : loop bin f l m (bin r v w) rest with
            | none => rw [e2] at i; exact st.trans (g1.trans (same.trans i))
            | some p =>
              obtain ⟨w', rest'⟩ := p
              rw [e2] at i
              exact ⟨st.trans (g1.trans (same.trans i.1)), i.2.1, i.2.2.1, by have := i.2.2.2; simp only [List.length_cons]; omega⟩
        · rw [if_neg hrl]
          exact ⟨rfl, ho, fun q ts' e => by cases e; omega, Nat.le_refl _⟩
theorem loop_len {l : Nat} {f : Rd S} (hf : ∀ ts v rest, f ts = some (v, rest) → rest.length ≤ ts.length) : ∀ (m : Nat) (v : S) (ts : List (Tk S)) (w : S) (rest : List (Tk S)), loop bin f l m v ts = some (w, rest) → rest.length ≤ ts.length := by
  intro m
  induction m with
  | zero => intro v ts w rest e; unfold loop at e; cases e; exact Nat.le_refl _
  | succ m ih =>
    intro v ts w rest e
    cases ts with
    | nil => cases e; exact Nat.le_refl _
    | cons t ts =>
      cases t with
      | val v' => cases e; exact Nat.le_refl _
      | neg => cases e; exact Nat.le_refl _
      | lp => cases e; exact Nat.le_refl _
      | rp => cases e; exact Nat.le_refl _
      | op r =>
        unfold loop at e
        by_cases hr : r.val = l
        · rw [if_pos hr] at e
          cases e1 : f ts with
          | none => rw [e1] at e; cases e
          | some p =>
            obtain ⟨w', ts'⟩ := p
            rw [e1] at e
            have h1 := ih _ _ _ _ e
            have h2 := hf _ _ _ e1
            simp only [List.length_cons]; omega
        · rw [if_neg hr] at e
          cases e; exact Nat.le_refl _
theorem lv_good {n : Nat} {f : Rd S} (h : GoodS (bin := bin) (ng := ng) n f) (hf : ∀ ts v rest, f ts = some (v, rest) → rest.length ≤ ts.length) : ∀ k ≤ 3, GoodL (bin := bin) (ng := ng) n (3 - k) (lv bin f k) ∧ ∀ ts v rest, lv bin f k ts = some (v, rest) → rest.length ≤ ts.length := by
  intro k
  induction k with
  | zero => intro _; exact ⟨good3 h, hf⟩
  | succ k ih =>
    intro hk
    obtain ⟨g, hl⟩ := ih (by omega)
    have e3 : 3 - k = (2 - k) + 1 := by omega
    have e2 : 3 - (k + 1) = 2 - k := by omega
    rw [e3] at g
    rw [e2]
    have lg := loop_good (bin := bin) (ng := ng) (l := 2 - k) (by omega) g hl
    refine ⟨fun ts ho H W hw => ?_, fun ts v rest e => ?_⟩
    · have g1 := g ts ho H W (hw.up (Nat.le_succ _))
      unfold lv
      cases e : lv bin f k ts with
      | none => rw [e] at g1; exact g1
      | some p =>
        obtain ⟨v, rest⟩ := p
        rw [e] at g1
        have g2 := lg rest.length v rest (Nat.le_refl _) g1.2.1 g1.2.2 H W hw
        dsimp only
        cases e' : loop bin (lv bin f k) (2 - k) rest.length v rest with
        | none => rw [e'] at g2; exact g1.1.trans g2
        | some p => obtain ⟨w, rest'⟩ := p; rw [e'] at g2; exact ⟨g1.1.trans g2.1, g2.2.1, g2.2.2.1⟩
    · unfold lv at e
      cases e1 : lv bin f k ts with
      | none => rw [e1] at e; cases e
      | some p =>
        obtain ⟨w, r1⟩ := p
        rw [e1] at e
        dsimp only at e
        have h1 := hl _ _ _ e1
        have := loop_len (bin := bin) (l := 2 - k) hl _ _ _ _ _ e
        omega
theorem pS_good : ∀ n, GoodS (bin := bin) (ng := ng) n (pS bin ng n) ∧ ∀ ts v rest, pS bin ng n ts = some (v, rest) → rest.length ≤ ts.length := by
  intro n
  have hv : ∀ (v : S) (ts : List (Tk S)) (H : List S) (W : List Sg), run bin ng ⟨H, W, true⟩ (.val v :: ts) = run bin ng ⟨(closeM ng (v :: H) W).1, (closeM ng (v :: H) W).2, false⟩ ts := fun v ts H W => rfl
  have hbad : ∀ (t : Tk S) (ts : List (Tk S)) (H : List S) (W : List Sg), (∀ v, t ≠ .val v) → isO t = false → run bin ng ⟨H, W, true⟩ (t :: ts) = none := fun t ts H W h1 h2 => by
    cases t with
    | val v => exact absurd rfl (h1 v)
    | op r => rfl
    | neg => cases h2
    | lp => cases h2
    | rp => rfl
  induction n with
  | zero =>
    refine ⟨fun ts ho H W => ?_, fun ts v rest e => ?_⟩
    · cases ts with
      | nil => rfl
      | cons t ts =>
        cases t with
        | val v => exact ⟨hv v ts H W, ho⟩
        | op r => rfl
        | rp => rfl
        | neg => exact absurd ho (by show ¬ (opens ts + 1 ≤ 0); omega)
        | lp => exact absurd ho (by show ¬ (opens ts + 1 ≤ 0); omega)
    · cases ts with
      | nil => cases e
      | cons t ts => cases t with
        | val v' => cases e; simp
        | _ => cases e
  | succ n ih =>
    obtain ⟨ig, il⟩ := ih
    have L := lv_good (bin := bin) (ng := ng) ig il 3 (Nat.le_refl _)
    refine ⟨fun ts ho H W => ?_, fun ts v rest e => ?_⟩
    · cases ts with
      | nil => rfl
      | cons t ts =>
        cases t with
        | val v => exact ⟨hv v ts H W, ho⟩
        | op r => rfl
        | rp => rfl
        | neg =>
          have ho' : opens ts ≤ n := by have : opens ts + 1 ≤ n + 1 := ho; omega
          have g := ig ts ho' H (.neg :: W)
          have st : run bin ng ⟨H, W, true⟩ (.neg :: ts) = run bin ng ⟨H, .neg :: W, true⟩ ts := rfl
          show match (match pS bin ng n ts with | none => none | some (v, ts') => some (ng v, ts')) with | some (v, rest) => _ | none => _
          cases e : pS bin ng n ts with
          | none => rw [e] at g; exact st.trans g
          | some p => obtain ⟨v, rest⟩ := p; rw [e] at g; exact ⟨st.trans g.1, Nat.le_succ_of_le g.2⟩
        | lp =>
          have ho' : opens ts ≤ n := by have : opens ts + 1 ≤ n + 1 := ho; omega
          have g := L.1 ts ho' H (.lp :: W) trivial
          have st : run bin ng ⟨H, W, true⟩ (.lp :: ts) = run bin ng ⟨H, .lp :: W, true⟩ ts := rfl
          show match (match lv bin (pS bin ng n) 3 ts with | some (v, .rp :: ts') => some (v, ts') | _ => none) with | some (v, rest) => _ | none => _
          have wk : ∀ v : S, workM bin 0 (v :: H) (.lp :: W) = (v :: H, .lp :: W) := fun v => by cases H <;> rfl
          cases e : lv bin (pS bin ng n) 3 ts with
          | none => rw [e] at g; exact st.trans g
          | some p =>
            obtain ⟨v, rest⟩ := p
            rw [e] at g
            obtain ⟨g1, g2, g3⟩ := g
            cases rest with
            | nil =>
              refine st.trans (g1.trans ?_)
              show fin bin _ = none
              unfold fin
              simp only [wk]; rfl
            | cons t' rest =>
              cases t' with
              | val v' => exact st.trans (g1.trans rfl)
              | neg => exact st.trans (g1.trans rfl)
              | lp => exact st.trans (g1.trans rfl)
              | op r => exact absurd (g3 r rest rfl) (Nat.not_lt_zero _)
              | rp =>
                refine ⟨st.trans (g1.trans ?_), Nat.le_succ_of_le g2⟩
                show ((step bin ng ⟨v :: H, .lp :: W, false⟩ .rp).bind fun m' => run bin ng m' rest) = _
                unfold step
                simp only [wk]; rfl
    · cases ts with
      | nil => cases e
      | cons t ts => cases t with
        | val v' => cases e; simp
        | op r => cases e
        | rp => cases e
        | neg =>
          have e : (match pS bin ng n ts with | none => none | some (v, ts') => some (ng v, ts')) = some (v, rest) := e
          cases e1 : pS bin ng n ts with
          | none => rw [e1] at e; cases e
          | some p => obtain ⟨w, r⟩ := p; rw [e1] at e; cases e; have := il _ _ _ e1; simp only [List.length_cons]; omega
        | lp =>
          have e : (match lv bin (pS bin ng n) 3 ts with | some (v, .rp :: ts') => some (v, ts') | _ => none) = some (v, rest) := e
          cases e1 : lv bin (pS bin ng n) 3 ts with
          | none => rw [e1] at e; cases e
          | some p =>
            obtain ⟨w, r⟩ := p
            rw [e1] at e
            have := L.2 _ _ _ e1
            cases r with
            | nil => cases e
            | cons t' r => cases t' with
              | rp => cases e; simp only [List.length_cons] at this ⊢; omega
              | _ => cases e
/-- the law's reading and the stack's -/
theorem both {n : Nat} {ts : List (Tk S)} (ho : opens ts ≤ n) : run bin ng ⟨[], [], true⟩ ts = match lv bin (pS bin ng n) 3 ts with | some (v, []) => some v | _ => none := by
  have L := lv_good (bin := bin) (ng := ng) (pS_good n).1 (pS_good n).2 3 (Nat.le_refl _)
  have g := L.1 ts ho [] [] trivial
  cases e : lv bin (pS bin ng n) 3 ts with
  | none => rw [e] at g; exact g
  | some p =>
    obtain ⟨v, rest⟩ := p
    rw [e] at g
    obtain ⟨g1, g2, g3⟩ := g
    cases rest with
    | nil => exact g1.trans rfl
    | cons t' rest =>
      cases t' with
      | val v' => exact g1.trans rfl
      | neg => exact g1.trans rfl
      | lp => exact g1.trans rfl
      | op r => exact absurd (g3 r rest rfl) (Nat.not_lt_zero _)
      | rp => exact g1.trans rfl
/-! what stays so -/
def nops : List Sg → Nat
  | [] => 0
  | .op _ :: W => nops W + 1
  | .neg :: W => nops W
  | .lp :: W => nops W
theorem close_len : ∀ (W : List Sg) (H : List S), H ≠ [] → (closeM ng H W).1.length = H.length ∧ nops (closeM ng H W).2 = nops W ∧ (closeM ng H W).2.length ≤ W.length
  | [], H, h => by rw [close_ok (l := 0) (W := []) trivial]; exact ⟨rfl, rfl, Nat.le_refl _⟩
  | s :: W, [], h => absurd rfl h
  | .neg :: W, v :: H, h => by
    have := close_len W (ng v :: H) (by simp)
    show ((closeM ng (ng v :: H) W).1.length = _ ∧ _)
    exact ⟨this.1, this.2.1, Nat.le_succ_of_le this.2.2⟩
  | .op r :: W, v :: H, h => ⟨rfl, rfl, Nat.le_refl _⟩
  | .lp :: W, v :: H, h => ⟨rfl, rfl, Nat.le_refl _⟩
theorem close_all {p : S → Prop} (hp : ∀ v, p v → p (ng v)) : ∀ (W : List Sg) (H : List S), (∀ v ∈ H, p v) → ∀ v ∈ (closeM ng H W).1, p v
  | [], H, h => by rw [close_ok (l := 0) (W := []) trivial]; exact h
  | s :: W, [], h => by cases s <;> exact h
  | .neg :: W, v :: H, h => close_all hp W (ng v :: H) (fun u hu => by
      rcases List.mem_cons.mp hu with rfl | hu
      · exact hp v (h v List.mem_cons_self)
      · exact h u (List.mem_cons_of_mem _ hu))
  | .op r :: W, v :: H, h => h
  | .lp :: W, v :: H, h => h
theorem work_len {l : Nat} : ∀ (W : List Sg) (H : List S), H.length = nops W + 1 → (workM bin l H W).1.length = nops (workM bin l H W).2 + 1 ∧ (workM bin l H W).1.length ≤ H.length ∧ (workM bin l H W).2.length ≤ W.length ∧ ∀ r W', (workM bin l H W).2 = .op r :: W' → r.val < l
  | [], H, h => by rw [work_ok (W := []) trivial]; exact ⟨h, Nat.le_refl _, Nat.le_refl _, fun r W' e => by cases e⟩
  | .neg :: W, H, h => by
    have e : workM bin l H (.neg :: W) = (H, .neg :: W) := by rcases H with _ | ⟨a, _ | ⟨b, H⟩⟩ <;> rfl
    rw [e]; exact ⟨h, Nat.le_refl _, Nat.le_refl _, fun r W' e => by cases e⟩
  | .lp :: W, H, h => by
    rw [work_ok (W := .lp :: W) trivial]; exact ⟨h, Nat.le_refl _, Nat.le_refl _, fun r W' e => by cases e⟩
  | .op r :: W, [], h => by cases h
  | .op r :: W, [a], h => by simp [nops] at h
  | .op r :: W, b :: a :: H, h => by
    have hu : workM bin l (b :: a :: H) (.op r :: W) = if l ≤ r.val then workM bin l (bin r a b :: H) W else (b :: a :: H, .op r :: W) := rfl
    rw [hu]
    by_cases hl : l ≤ r.val
    · rw [if_pos hl]
      have := work_len (l := l) W (bin r a b :: H) (by simp only [nops, List.length_cons] at h ⊢; omega)
      exact ⟨this.1, Nat.le_trans this.2.1 (by simp), Nat.le_trans this.2.2.1 (by simp), this.2.2.2⟩
    · rw [if_neg hl]
      exact ⟨h, Nat.le_refl _, Nat.le_refl _, fun q W' e => by cases e; omega⟩
theorem work_all {p : S → Prop} (hp : ∀ r a b, p a → p b → p (bin r a b)) {l : Nat} : ∀ (W : List Sg) (H : List S), (∀ v ∈ H, p v) → ∀ v ∈ (workM bin l H W).1, p v
  | [], H, h => by rw [work_ok (W := []) trivial]; exact h
  | .neg :: W, H, h => by
    have e : workM bin l H (.neg :: W) = (H, .neg :: W) := by rcases H with _ | ⟨a, _ | ⟨b, H⟩⟩ <;> rfl
    rw [e]; exact h
  | .lp :: W, H, h => by rw [work_ok (W := .lp :: W) trivial]; exact h
  | .op r :: W, [], h => h
  | .op r :: W, [a], h => h
  | .op r :: W, b :: a :: H, h => by
    have hu : workM bin l (b :: a :: H) (.op r :: W) = if l ≤ r.val then workM bin l (bin r a b :: H) W else (b :: a :: H, .op r :: W) := rfl
    rw [hu]
    by_cases hl : l ≤ r.val
    · rw [if_pos hl]
      refine work_all hp W (bin r a b :: H) fun u hu => ?_
      rcases List.mem_cons.mp hu with rfl | hu
      · exact hp r a b (h a (by simp)) (h b (by simp))
      · exact h u (by simp [hu])
    · rw [if_neg hl]; exact h
/-- as many values as wanted, all of them fine; at most n of each -/
structure MOk (p : S → Prop) (n : Nat) (m : MS S) : Prop where
  okv : ∀ v ∈ m.H, p v
  cnt : m.H.length = nops m.W + (if m.op then 0 else 1)
  hl : m.H.length ≤ n
  wl : m.W.length ≤ n
theorem MOk.step {p : S → Prop} (hb : ∀ r a b, p a → p b → p (bin r a b)) (hn : ∀ v, p v → p (ng v)) {n : Nat} {m m' : MS S} {t : Tk S} (k : MOk p n m) (ht : ∀ v, t = .val v → p v) (e : step bin ng m t = some m') : MOk p (n + 1) m' := by
  obtain ⟨H, W, o⟩ := m
  obtain ⟨k1, k2, k3, k4⟩ := k
  dsimp only at k1 k2 k3 k4
  cases t with
  | val v =>
    cases o with
    | false => cases e
    | true =>
      cases e
      have c := close_len (ng := ng) W (v :: H) (by simp)
      refine ⟨close_all hn W (v :: H) fun u hu => ?_, ?_, ?_, ?_⟩
      · rcases List.mem_cons.mp hu with rfl | hu
        · exact ht _ rfl
        · exact k1 u hu
      · show (closeM ng (v :: H) W).1.length = _
        rw [c.1]
        show _ = nops (closeM ng (v :: H) W).2 + 1
        rw [c.2.1]; simp at k2; simp [k2]
      · show (closeM ng (v :: H) W).1.length ≤ _
        rw [c.1]; simp; omega
      · exact Nat.le_trans c.2.2 (by omega)
  | neg =>
    cases o with
    | false => cases e
    | true => cases e; exact ⟨k1, k2, Nat.le_succ_of_le k3, by simp; omega⟩
  | lp =>
    cases o with
    | false => cases e
    | true => cases e; exact ⟨k1, k2, Nat.le_succ_of_le k3, by simp; omega⟩
  | op r =>
    cases o with
    | true => cases e
    | false =>
      cases e
      have c := work_len (bin := bin) (l := r.val) W H k2
      refine ⟨work_all hb W H k1, ?_, Nat.le_trans c.2.1 (by omega), ?_⟩
      · show (workM bin r.val H W).1.length = nops (workM bin r.val H W).2 + 1 + 0
        exact c.1
      · show (workM bin r.val H W).2.length + 1 ≤ _
        have := c.2.2.1; omega
  | rp =>
    cases o with
    | true => cases e
    | false =>
      have c := work_len (bin := bin) (l := 0) W H k2
      have wa := work_all (bin := bin) hb (l := 0) W H k1
      have e : (match (workM bin 0 H W).2 with
        | [] => none
        | _ :: W' => some (⟨(closeM ng (workM bin 0 H W).1 W').1, (closeM ng (workM bin 0 H W).1 W').2, false⟩ : MS S)) = some m' := e
      cases hw : (workM bin 0 H W).2 with
      | nil => rw [hw] at e; cases e
      | cons s W' =>
        rw [hw] at e c
        cases e
        generalize (workM bin 0 H W).1 = H' at c wa
        have hns : nops (s :: W') = nops W' := by
          cases s with
          | op r => exact absurd (c.2.2.2 r W' rfl) (Nat.not_lt_zero _)
          | neg => rfl
          | lp => rfl
        have hne : H' ≠ [] := fun z => by rw [z] at c; exact absurd c.1 (by simp)
        have d := close_len (ng := ng) W' H' hne
        refine ⟨close_all hn W' H' wa, ?_, ?_, ?_⟩
        · show (closeM ng H' W').1.length = nops (closeM ng H' W').2 + 1
          rw [d.1, d.2.1, c.1, hns]
        · show (closeM ng H' W').1.length ≤ _
          rw [d.1]; have := c.2.1; omega
        · have := c.2.2.1; simp only [List.length_cons] at this; have := d.2.2
          show (closeM ng H' W').2.length ≤ _
          omega
/-! what the reading part by part leaves -/
def GoodF (p : S → Prop) (f : Rd S) : Prop := ∀ ts v rest, (∀ u, Tk.val u ∈ ts → p u) → f ts = some (v, rest) → p v ∧ rest <:+ ts
theorem loop_ok {p : S → Prop} (hb : ∀ r a b, p a → p b → p (bin r a b)) {l : Nat} {f : Rd S} (hf : GoodF p f) : ∀ (m : Nat) (v : S) (ts : List (Tk S)) (w : S) (rest : List (Tk S)), p v → (∀ u, Tk.val u ∈ ts → p u) → loop bin f l m v ts = some (w, rest) → p w ∧ rest <:+ ts := by
  intro m
  induction m with
  | zero => intro v ts w rest hv _ e; unfold loop at e; cases e; exact ⟨hv, List.suffix_refl _⟩
  | succ m ih =>
    intro v ts w rest hv ht e
    cases ts with
    | nil => cases e; exact ⟨hv, List.suffix_refl _⟩
    | cons t ts =>
      cases t with
      | val v' => cases e; exact ⟨hv, List.suffix_refl _⟩
      | neg => cases e; exact ⟨hv, List.suffix_refl _⟩
      | lp => cases e; exact ⟨hv, List.suffix_refl _⟩
      | rp => cases e; exact ⟨hv, List.suffix_refl _⟩
      | op r =>
        unfold loop at e
        by_cases hr : r.val = l
        · rw [if_pos hr] at e
          cases e1 : f ts with
          | none => rw [e1] at e; cases e
          | some q =>
            obtain ⟨w', ts'⟩ := q
            rw [e1] at e
            have ht' : ∀ u, Tk.val u ∈ ts → p u := fun u hu => ht u (List.mem_cons_of_mem _ hu)
            obtain ⟨h1, h2⟩ := hf _ _ _ ht' e1
            obtain ⟨h3, h4⟩ := ih _ _ _ _ (hb r _ _ hv h1) (fun u hu => ht' u (h2.subset hu)) e
            exact ⟨h3, h4.trans (h2.trans (List.suffix_cons _ _))⟩
        · rw [if_neg hr] at e
          cases e; exact ⟨hv, List.suffix_refl _⟩
theorem lv_ok {p : S → Prop} (hb : ∀ r a b, p a → p b → p (bin r a b)) {f : Rd S} (hf : GoodF p f) : ∀ k, GoodF p (lv bin f k)
  | 0 => hf
  | k + 1 => fun ts v rest ht e => by
    unfold lv at e
    cases e1 : lv bin f k ts with
    | none => rw [e1] at e; cases e
    | some q =>
      obtain ⟨w, r1⟩ := q
      rw [e1] at e
      obtain ⟨h1, h2⟩ := lv_ok hb hf k ts w r1 ht e1
      obtain ⟨h3, h4⟩ := loop_ok hb (lv_ok hb hf k) _ _ _ _ _ h1 (fun u hu => ht u (h2.subset hu)) e
      exact ⟨h3, h4.trans h2⟩
theorem pS_ok {p : S → Prop} (hb : ∀ r a b, p a → p b → p (bin r a b)) (hn : ∀ v, p v → p (ng v)) : ∀ n, GoodF p (pS bin ng n) := by
  intro n
  induction n with
  | zero =>
    intro ts v rest ht e
    cases ts with
    | nil => cases e
    | cons t ts => cases t with
      | val v' => cases e; exact ⟨ht _ List.mem_cons_self, List.suffix_cons _ _⟩
      | _ => cases e
  | succ n ih =>
    intro ts v rest ht e
    cases ts with
    | nil => cases e
    | cons t ts =>
      have ht' : ∀ u, Tk.val u ∈ ts → p u := fun u hu => ht u (List.mem_cons_of_mem _ hu)
      cases t with
      | val v' => cases e; exact ⟨ht _ List.mem_cons_self, List.suffix_cons _ _⟩
      | op r => cases e
      | rp => cases e
      | neg =>
        have e : (match pS bin ng n ts with | none => none | some (v, ts') => some (ng v, ts')) = some (v, rest) := e
        cases e1 : pS bin ng n ts with
        | none => rw [e1] at e; cases e
        | some q => obtain ⟨w, r⟩ := q; rw [e1] at e; cases e; obtain ⟨h1, h2⟩ := ih _ _ _ ht' e1; exact ⟨hn _ h1, h2.trans (List.suffix_cons _ _)⟩
      | lp =>
        have e : (match lv bin (pS bin ng n) 3 ts with | some (v, .rp :: ts') => some (v, ts') | _ => none) = some (v, rest) := e
        cases e1 : lv bin (pS bin ng n) 3 ts with
        | none => rw [e1] at e; cases e
        | some q =>
          obtain ⟨w, r⟩ := q
          rw [e1] at e
          obtain ⟨h1, h2⟩ := lv_ok hb ih 3 _ _ _ ht' e1
          cases r with
          | nil => cases e
          | cons t' r => cases t' with
            | rp => cases e; exact ⟨h1, ((List.suffix_cons _ _).trans h2).trans (List.suffix_cons _ _)⟩
            | _ => cases e
theorem loop_more {l : Nat} {f : Rd S} (hf : ∀ ts v rest, f ts = some (v, rest) → rest.length ≤ ts.length) : ∀ (m m' : Nat) (v : S) (ts : List (Tk S)), ts.length ≤ m → ts.length ≤ m' → loop bin f l m v ts = loop bin f l m' v ts := by
  intro m
  induction m with
  | zero =>
    intro m' v ts h1 h2
    have : ts = [] := List.length_eq_zero_iff.mp (Nat.le_zero.mp h1)
    subst this
    cases m' <;> rfl
  | succ m ih =>
    intro m' v ts h1 h2
    cases ts with
    | nil => cases m' <;> rfl
    | cons t ts =>
      cases m' with
      | zero => simp at h2
      | succ m' =>
        simp only [List.length_cons] at h1 h2
        cases t with
        | val v' => rfl
        | neg => rfl
        | lp => rfl
        | rp => rfl
        | op r =>
          unfold loop
          by_cases hr : r.val = l
          · rw [if_pos hr, if_pos hr]
            cases e1 : f ts with
            | none => rfl
            | some q =>
              obtain ⟨w', ts'⟩ := q
              have := hf _ _ _ e1
              exact ih m' (bin r v w') ts' (by omega) (by omega)
          · rw [if_neg hr, if_neg hr]
theorem opens_suffix {a b : List (Tk S)} (h : a <:+ b) : opens a ≤ opens b := (h.filter isO).length_le
def clsd : S × List (Tk S) → Option (S × List (Tk S))
  | (v, .rp :: ts) => some (v, ts)
  | _ => none
theorem pS_neg (n : Nat) (ts : List (Tk S)) : pS bin ng (n + 1) (.neg :: ts) = (pS bin ng n ts).map fun p => (ng p.1, p.2) := by
  show (match pS bin ng n ts with | none => none | some (v, ts') => some (ng v, ts')) = _
  cases pS bin ng n ts <;> rfl
theorem pS_lp (n : Nat) (ts : List (Tk S)) : pS bin ng (n + 1) (.lp :: ts) = (lv bin (pS bin ng n) 3 ts).bind clsd := by
  show (match lv bin (pS bin ng n) 3 ts with | some (v, .rp :: ts') => some (v, ts') | _ => none) = _
  cases lv bin (pS bin ng n) 3 ts with
  | none => rfl
  | some p =>
    obtain ⟨v, r⟩ := p
    cases r with
    | nil => rfl
    | cons t r => cases t <;> rfl
/-! whether it is read hangs on the signs alone -/
def mapT : Tk S → Tk Unit
  | .val _ => .val ()
  | .op r => .op r
  | .neg => .neg
  | .lp => .lp
  | .rp => .rp
def binU : Fin 3 → Unit → Unit → Unit := fun _ _ _ => ()
def ngU : Unit → Unit := fun _ => ()
def mapM (m : MS S) : MS Unit := ⟨m.H.map fun _ => (), m.W, m.op⟩
theorem close_map : ∀ (W : List Sg) (H : List S), closeM ngU (H.map fun _ => ()) W = ((closeM ng H W).1.map (fun _ => ()), (closeM ng H W).2)
  | [], H => by rw [close_ok (l := 0) (W := []) trivial, close_ok (l := 0) (W := []) trivial]
  | s :: W, [] => by cases s <;> rfl
  | .neg :: W, v :: H => close_map W (ng v :: H)
  | .op r :: W, v :: H => rfl
  | .lp :: W, v :: H => rfl
theorem work_map {l : Nat} : ∀ (W : List Sg) (H : List S), workM binU l (H.map fun _ => ()) W = ((workM bin l H W).1.map (fun _ => ()), (workM bin l H W).2)
  | [], H => by rw [work_ok (W := []) trivial, work_ok (W := []) trivial]
  | .neg :: W, H => by rcases H with _ | ⟨a, _ | ⟨b, H⟩⟩ <;> rfl
  | .lp :: W, H => by rw [work_ok (W := .lp :: W) trivial, work_ok (W := .lp :: W) trivial]
  | .op r :: W, [] => rfl
  | .op r :: W, [a] => rfl
  | .op r :: W, b :: a :: H => by
    have h1 : workM binU l ((b :: a :: H).map fun _ => ()) (.op r :: W) = if l ≤ r.val then workM binU l ((bin r a b :: H).map fun _ => ()) W else ((b :: a :: H).map (fun _ => ()), .op r :: W) := rfl
    have h2 : workM bin l (b :: a :: H) (.op r :: W) = if l ≤ r.val then workM bin l (bin r a b :: H) W else (b :: a :: H, .op r :: W) := rfl
    rw [h1, h2]
    by_cases hl : l ≤ r.val
    · rw [if_pos hl, if_pos hl]; exact work_map W _
    · rw [if_neg hl, if_neg hl]
theorem step_map (m : MS S) (t : Tk S) : step binU ngU (mapM m) (mapT t) = (step bin ng m t).map mapM := by
  obtain ⟨H, W, o⟩ := m
  cases t with
  | val v =>
    cases o with
    | false => rfl
    | true =>
      have := close_map (ng := ng) W (v :: H)
      show some (⟨(closeM ngU ((v :: H).map fun _ => ()) W).1, (closeM ngU ((v :: H).map fun _ => ()) W).2, false⟩ : MS Unit) = some (mapM ⟨_, _, false⟩)
      rw [this]; rfl
  | neg => cases o <;> rfl
  | lp => cases o <;> rfl
  | op r =>
    cases o with
    | true => rfl
    | false =>
      have := work_map (bin := bin) (l := r.val) W H
      show some (⟨(workM binU r.val (H.map fun _ => ()) W).1, .op r :: (workM binU r.val (H.map fun _ => ()) W).2, true⟩ : MS Unit) = some (mapM ⟨_, _, true⟩)
      rw [this]; rfl
  | rp =>
    cases o with
    | true => rfl
    | false =>
      have := work_map (bin := bin) (l := 0) W H
      show (match (workM binU 0 (H.map fun _ => ()) W).2 with
        | [] => none
        | _ :: W' => some (⟨(closeM ngU (workM binU 0 (H.map fun _ => ()) W).1 W').1, (closeM ngU (workM binU 0 (H.map fun _ => ()) W).1 W').2, false⟩ : MS Unit)) = (match (workM bin 0 H W).2 with
        | [] => none
        | _ :: W' => some (⟨(closeM ng (workM bin 0 H W).1 W').1, (closeM ng (workM bin 0 H W).1 W').2, false⟩ : MS S)).map mapM
      rw [this]
      dsimp only
      cases (workM bin 0 H W).2 with
      | nil => rfl
      | cons s W' =>
        have c := close_map (ng := ng) W' (workM bin 0 H W).1
        show some (⟨(closeM ngU ((workM bin 0 H W).1.map fun _ => ()) W').1, (closeM ngU ((workM bin 0 H W).1.map fun _ => ()) W').2, false⟩ : MS Unit) = some (mapM ⟨_, _, false⟩)
        rw [c]; rfl
theorem fin_map (m : MS S) : fin binU (mapM m) = (fin bin m).map fun _ => () := by
  obtain ⟨H, W, o⟩ := m
  cases o with
  | true => rfl
  | false =>
    have := work_map (bin := bin) (l := 0) W H
    show (match (workM binU 0 (H.map fun _ => ()) W).2 with
      | [] => (workM binU 0 (H.map fun _ => ()) W).1.getLast?
      | _ => none) = (match (workM bin 0 H W).2 with
      | [] => (workM bin 0 H W).1.getLast?
      | _ => none).map fun _ => ()
    rw [this]
    dsimp only
    cases (workM bin 0 H W).2 with
    | nil => exact List.getLast?_map
    | cons s W' => rfl
theorem run_map : ∀ (ts : List (Tk S)) (m : MS S), run binU ngU (mapM m) (ts.map mapT) = (run bin ng m ts).map fun _ => ()
  | [], m => fin_map m
  | t :: ts, m => by
    show (step binU ngU (mapM m) (mapT t)).bind (fun m' => run binU ngU m' (ts.map mapT)) = ((step bin ng m t).bind fun m' => run bin ng m' ts).map fun _ => ()
    rw [step_map (bin := bin) (ng := ng)]
    cases step bin ng m t with
    | none => rfl
    | some m' => exact run_map ts m'
end Pz
namespace Du
open PySem L2 Pz
/-! the words of a text -/
theorem strOk_cp {s : Str} (h : PyData.strOk s = true) {c : Nat} (hc : c ∈ cpl s) : c < 0x110000 := by
  unfold PyData.strOk at h
  rw [← Array.all_toList] at h
  simpa using List.all_eq_true.mp h c hc
theorem strOk_of {s : Str} (h : ∀ c ∈ cpl s, c < 0x110000) : PyData.strOk s = true := by
  unfold PyData.strOk
  rw [← Array.all_toList]
  exact List.all_eq_true.mpr fun c hc => by simpa using h c hc
theorem strOk_sg {c : Nat} (h : c < 0x110000) : PyData.strOk (sg c) = true := strOk_of fun d hd => by
  have : d = c := by simpa [cpl] using hd
  omega
def isL (c : Nat) : Bool := decide (c ∈ cpl letters)
def sayS : Str := "01~&^|()"
def toks (q : Nat → Bool) : Nat → List Nat → Option (List Str)
  | 0, _ => some []
  | _ + 1, [] => some []
  | n + 1, c :: cs => if isL c then (if 8 < (cs.takeWhile isL).length + 1 then none else (toks q n (cs.drop (cs.takeWhile isL).length)).map (⟨(c :: cs.takeWhile isL).toArray⟩ :: ·))
    else if q c then (toks q n cs).map (sg c :: ·) else if c = 32 then toks q n cs else none
theorem toks_more {q : Nat → Bool} : ∀ {n m : Nat} {cs : List Nat}, cs.length ≤ n → cs.length ≤ m → toks q n cs = toks q m cs := by
  intro n
  induction n with
  | zero =>
    intro m cs h1 h2
    have : cs = [] := List.length_eq_zero_iff.mp (Nat.le_zero.mp h1)
    subst this
    cases m <;> rfl
  | succ n ih =>
    intro m cs h1 h2
    cases cs with
    | nil => cases m <;> rfl
    | cons c cs =>
      cases m with
      | zero => simp at h2
      | succ m =>
        simp only [List.length_cons] at h1 h2
        unfold toks
        have a := ih (m := m) (cs := cs) (by omega) (by omega)
        have b := ih (m := m) (cs := cs.drop (cs.takeWhile isL).length) (by rw [List.length_drop]; omega) (by rw [List.length_drop]; omega)
        rw [a, b]
def tokS (q : Nat → Bool) (s : Str) : Option (List Str) := toks q s.length (cpl s)
def inSay (c : Nat) : Bool := decide (c ∈ cpl sayS)
section
variable {ρ : Rho} {te : TE} {K : PySem.W.Frag}
theorem et_eqS {s t : Str} (h : Ev te ρ (.str s)) (hs : PyData.strOk s = true) (ht : PyData.strOk t = true) : EvT (tTest (tOp (rEqD K) te (tC (.str t)))) ρ (decide (s = t)) := by
  rw [← eqD_str]; exact et_test (ev_op h ev_str (rd_eq (ok_str hs) (ok_str ht)))
theorem et_neS {s t : Str} (h : Ev te ρ (.str s)) (hs : PyData.strOk s = true) (ht : PyData.strOk t = true) : EvT (tTest (tOp (rNeD K) te (tC (.str t)))) ρ (!decide (s = t)) := by
  rw [← eqD_str]; exact et_test (ev_op h ev_str (rd_ne (ok_str hs) (ok_str ht)))
end
theorem sp_ok : PyData.strOk " " = true := by decide +kernel
theorem sg_sp (c : Nat) : decide (sg c = (" " : Str)) = decide (c = 32) := by
  have e : (" " : Str) = sg 32 := by decide +kernel
  rw [e]
  exact decide_eq_decide.mpr ⟨fun h => by simpa [sg] using congrArg cpl h, fun h => by rw [h]⟩
theorem take_stop {p : Nat → Bool} {rs : List Nat} {d : Nat} (h : rs[(rs.takeWhile p).length]? = some d) : p d = false := by
  have e : rs[(rs.takeWhile p).length]? = (rs.dropWhile p).head? := by
    have : rs.drop (rs.takeWhile p).length = rs.dropWhile p := by
      have h := List.takeWhile_append_dropWhile (p := p) (l := rs)
      calc rs.drop (rs.takeWhile p).length = (rs.takeWhile p ++ rs.dropWhile p).drop (rs.takeWhile p).length := by rw [h]
        _ = rs.dropWhile p := List.drop_left' rfl
    rw [← this, List.head?_drop]
  rw [e] at h
  have := List.head?_dropWhile_not p rs
  rw [h] at this
  exact this
theorem take_len {p : Nat → Bool} {rs : List Nat} : rs.take (rs.takeWhile p).length = rs.takeWhile p := by
  have h := List.takeWhile_append_dropWhile (p := p) (l := rs)
  calc rs.take (rs.takeWhile p).length = (rs.takeWhile p ++ rs.dropWhile p).take (rs.takeWhile p).length := by rw [h]
    _ = rs.takeWhile p := List.take_left' rfl
theorem take_all {p : Nat → Bool} : ∀ {rs : List Nat} {d : Nat}, d ∈ rs.takeWhile p → p d = true
  | r :: rs, d, h => by
    rw [List.takeWhile_cons] at h
    cases hr : p r with
    | false => rw [hr] at h; simp at h
    | true =>
      rw [hr] at h
      rcases List.mem_cons.mp h with rfl | h
      · exact hr
      · exact take_all h
theorem toks_cons (q : Nat → Bool) (n c : Nat) (cs : List Nat) : toks q (n + 1) (c :: cs) = if isL c then (if 8 < (cs.takeWhile isL).length + 1 then none else (toks q n (cs.drop (cs.takeWhile isL).length)).map (⟨(c :: cs.takeWhile isL).toArray⟩ :: ·))
    else if q c then (toks q n cs).map (sg c :: ·) else if c = 32 then toks q n cs else none := rfl
section
variable {P : Program} {w : World} {K : PySem.W.Frag} {mg : Str → Option Value} {base : Heap} {C CU Sk fj : Addr}
def RWords (ds : List D) (μ : Mu) (Φ : D → Mu → Prop) (X : Prop) : Prop := ∃ (s q : Str), ds = [.str s, .str q] ∧ ¬ 32 ∈ cpl q ∧ s.length ≤ 3000 ∧ PyData.strOk s = true ∧
  match tokS (fun c => decide (c ∈ cpl q)) s with | some ws => Φ (.lst (ws.map D.str)) μ | none => X
abbrev s_words_of : Stmt := top 18
abbrev n_words_of : List Str := ["text", "signs", "found", "at", "end"]
theorem sc_words_of : FnScope n_words_of ["text", "signs"] (defScope s_words_of) := ⟨rfl, rfl, rfl, by decide +kernel, rfl, by decide +kernel, by decide +kernel⟩

theorem ok_words_of {f : Addr} {fd : FuncData} (F : Fun K "words_of" "words_of" s_words_of f fd) (T : Tx K mg C) (U_BadText : ErrN P w K mg base 1 CU "BadText") : FnOk P w K mg base (L2.CX P w) 3 f fd ["text", "signs"] (spB CU RWords) := by
  refine bad_ok F sc_words_of (fun ds μ Φ X h => ?_) (fun cdv A outer s H E hr => ?_)
  · obtain ⟨s, q, rfl, _⟩ := h; rfl
  · refine ⟨_, (pss_cons (ps_par (i := 2) (j := 3) rfl sc_words_of.nd rfl rfl (by decide) rfl rfl (pa_cons (pe_lst pa_nil) (pa_cons pe_int pa_nil)) (by rfl)) (pss_cons (ps_while (passes_of rfl) (pt_cmpR op_lt (pv 3) (pe_callB (k_len (K := K) rfl) (by rfl) T.len (by decide +kernel) (pa_cons (pv 0) pa_nil)) (nomark _)) (pss_cons (ps_set (i := 4) sc_words_of.nd rfl (by first | exact Or.inl rfl | exact Or.inr rfl) (pe_op (k_addU (K := K) rfl) (pv 3) pe_int)) (pss_cons (ps_while (passes_of rfl) (PW.pt (pw_and (pt_cmpR op_in_sign (pe_ix (k_ix (K := K) rfl) (pv 0) (pv 3) (fun _ _ => rfl)) (k_globS rfl T.g_LETTERS) (by rfl)) (pw_and (pt_cmpR op_lt (pv 4) (pe_callB (k_len (K := K) rfl) (by rfl) T.len (by decide +kernel) (pa_cons (pv 0) pa_nil)) (nomark _)) (pw_and1 (pt_cmpR op_in_sign (pe_ix (k_ix (K := K) rfl) (pv 0) (pv 4) (fun _ _ => rfl)) (k_globS rfl T.g_LETTERS) (by rfl)))))) (pss_one (ps_aug (i := 4) sc_words_of.nd rfl (by first | exact Or.inl rfl | exact Or.inr rfl) pe_int iop_add))) (pss_cons (ps_if (PW.pt (pw_or (PW.pt (pw_and (pt_cmpR op_notIn_sign (pe_ix (k_ix (K := K) rfl) (pv 0) (pv 3) (fun _ _ => rfl)) (k_globS rfl T.g_LETTERS) (by rfl)) (pw_and (pt_cmpR op_notIn_sign (pe_ix (k_ix (K := K) rfl) (pv 0) (pv 3) (fun _ _ => rfl)) (pv 1) (by rfl)) (pw_and1 (pt_cmpR (k_ne (K := K) rfl hr) (pe_ix (k_ix (K := K) rfl) (pv 0) (pv 3) (fun _ _ => rfl)) pe_str (nomark _)))))) (pw_or1 (pt_cmpR op_gt (pe_op op_sub (pv 4) (pv 3)) (k_globI rfl T.g_LONGEST) (nomark _))))) (pss_one (ps_raise rfl takesX (pmk_N U_BadText hr (by omega) rfl))) pss_nil) (pss_cons (ps_if (pt_cmpR (k_ne (K := K) rfl hr) (pe_ix (k_ix (K := K) rfl) (pv 0) (pv 3) (fun _ _ => rfl)) pe_str (nomark _)) (pss_one (ps_expr (k_bm (K := K) rfl PySem.F.plainAttrs_list PySem.F.slot_list_append PySem.F.type_list_append mt_append (pv 2) (pa_cons (pe_slice k_slS (pv 0) (po_some (pv 3)) (po_some (pv 4))) pa_nil)))) pss_nil) (pss_one (ps_set (i := 3) sc_words_of.nd rfl (by first | exact Or.inl rfl | exact Or.inr rfl) (pv 4)))))))) (pss_one (ps_ret (pv 2))))), ?_⟩
    intro ds μ Φ X h
    obtain ⟨s, q, rfl, h32, hl, ho, hq⟩ := h
    have hlen : (cpl s).length = s.length := cpl_len s
    refine gnb_seq (gnb_gn (gn_parX (gxa_cons (gx_new ef_nil fun a ha => gxa_cons (gx_ge (ge_ev ev_int (gxa_nil ⟨_, _, rfl, ?_⟩)))))))
    refine gnb_mid (fun ρ' μ' => ∃ (acc : List Str) (e : Option D), ρ' = [some (.str s), some (.str q), some (.ptr a), some (.int s.length), e] ∧ μ' = (a, .lst (acc.map D.str)) :: μ ∧ tokS (fun c => decide (c ∈ cpl q)) s = some acc) (gnb_while (fun m ρ' μ' => ∃ (at_ : Nat) (acc : List Str) (e : Option D), m = s.length - at_ ∧ at_ ≤ s.length ∧ ρ' = [some (.str s), some (.str q), some (.ptr a), some (.int at_), e] ∧ μ' = (a, .lst (acc.map D.str)) :: μ ∧ acc.length ≤ at_ ∧
        tokS (fun c => decide (c ∈ cpl q)) s = (toks (fun c => decide (c ∈ cpl q)) (s.length - at_) ((cpl s).drop at_)).map (acc ++ ·)) (Lq.rf _) ⟨0, [], none, rfl, Nat.zero_le _, rfl, rfl, Nat.le_refl _, ?_⟩ ?_) ?_
    · show tokS _ s = (toks _ (s.length - 0) ((cpl s).drop 0)).map ([] ++ ·)
      rw [Nat.sub_zero, List.drop_zero]
      unfold tokS
      cases toks (fun c => decide (c ∈ cpl q)) s.length (cpl s) <;> rfl
    · rintro m ρ' μ' ⟨i, acc, e, rfl, hi, rfl, rfl, hac, ht⟩
      refine gt_ev (et_test (ev_op (ev_var rfl) (ev_cb (ev_cons (ev_var rfl) ev_nil) (rl_lenS (by omega))) rd_lt)) ?_
      by_cases hlt : i < s.length
      · rw [if_pos (by simp; omega)]
        obtain ⟨c, hc⟩ : ∃ c, (cpl s)[i]? = some c := ⟨_, List.getElem?_eq_getElem (by rw [hlen]; exact hlt)⟩
        have hdr : (cpl s).drop i = c :: (cpl s).drop (i + 1) := by
          rw [List.drop_eq_getElem_cons (by rw [hlen]; exact hlt)]
          congr 1
          exact Option.some.inj ((List.getElem?_eq_getElem _).symm.trans hc)
        have hcm : c < 0x110000 := strOk_cp ho (List.mem_of_getElem? hc)
        have evc : ∀ {ρ : Rho}, ρ[0]? = some (some (.str s)) → ρ[3]? = some (some (.int i)) → Ev (tOp (rIx K) (tVar 0) (tVar 3)) ρ (.str (sg c)) := fun h0 h3 => ev_op (ev_var h0) (ev_var h3) (rd_ixS (by omega) hc)
        generalize hrs : (cpl s).drop (i + 1) = rs at hdr
        generalize hk : (rs.takeWhile isL).length = k
        have hrl : rs.length = s.length - (i + 1) := by rw [← hrs, List.length_drop, hlen]
        have hkr : k ≤ rs.length := by rw [← hk]; exact (List.takeWhile_sublist _).length_le
        have hgt : ∀ j, j < k → ∃ d, (cpl s)[i + 1 + j]? = some d ∧ isL d = true := fun j hj => by
          have h1 : j < (rs.takeWhile isL).length := by omega
          have h2 : (rs.takeWhile isL)[j] ∈ rs.takeWhile isL := List.getElem_mem _
          refine ⟨(rs.takeWhile isL)[j], ?_, take_all h2⟩
          have h3 : rs[j]? = some ((rs.takeWhile isL)[j]) := by
            have := (List.takeWhile_prefix (l := rs) isL).getElem h1
            rw [this]; exact List.getElem?_eq_getElem _
          rw [← h3, ← hrs, List.getElem?_drop]
        have hge : ∀ d, (cpl s)[i + 1 + k]? = some d → isL d = false := fun d hd => by
          rw [← List.getElem?_drop, hrs, ← hk] at hd
          exact take_stop hd
        obtain ⟨n, hn⟩ : ∃ n, n = if isL c then k else 0 := ⟨_, rfl⟩
        have hnk : n ≤ k := by rw [hn]; split <;> omega
        refine gnb_seq (gnb_gs (gs_asg (ge_ev (ev_op (ev_var rfl) ev_int rd_addI) ?_)))
        refine gnb_mid (fun ρ' μ' => ρ' = [some (.str s), some (.str q), some (.ptr a), some (.int i), some (.int (i + 1 + n : Nat))] ∧ μ' = (a, .lst (acc.map D.str)) :: μ) (gnb_while (fun m ρ' μ' => ∃ j, m = n - j ∧ j ≤ n ∧ ρ' = [some (.str s), some (.str q), some (.ptr a), some (.int i), some (.int (i + 1 + j : Nat))] ∧ μ' = (a, .lst (acc.map D.str)) :: μ) (Lq.rf _) ⟨0, rfl, Nat.zero_le _, rfl, rfl⟩ ?_) ?_
        · rintro m ρ' μ' ⟨j, rfl, hj, rfl, rfl⟩
          refine gt_ev (b := decide (j < n)) ?_ ?_
          · have e : (decide (c ∈ cpl letters) && (decide (((i + 1 + j : Nat) : Int) < s.length) && decide (((cpl s)[i + 1 + j]?.getD 0) ∈ cpl letters))) = decide (j < n) := by
              show (isL c && (decide (((i + 1 + j : Nat) : Int) < s.length) && isL ((cpl s)[i + 1 + j]?.getD 0))) = decide (j < n)
              cases hL : isL c with
              | false =>
                rw [hL] at hn
                have : n = 0 := hn
                simp [this]
              | true =>
                rw [hL] at hn
                have hn' : n = k := hn
                by_cases hjk : j < k
                · obtain ⟨d, h1, h2⟩ := hgt j hjk
                  rw [h1]
                  have : i + 1 + j < s.length := by omega
                  simp [h2, hn', hjk]; omega
                · have : j = k := by omega
                  subst this
                  by_cases hlt2 : i + 1 + j < s.length
                  · obtain ⟨d, h1⟩ : ∃ d, (cpl s)[i + 1 + j]? = some d := ⟨_, List.getElem?_eq_getElem (by rw [hlen]; exact hlt2)⟩
                    have h2 := hge d h1
                    rw [h1]
                    simp [h2, hn']
                  · have : ¬ (((i + 1 + j : Nat) : Int) < s.length) := by omega
                    simp [hn']; omega
            rw [← e]
            exact et_and (et_test (ev_op (evc rfl rfl) ev_str rd_inSg)) fun _ => et_and (et_test (ev_op (ev_var rfl) (ev_cb (ev_cons (ev_var rfl) ev_nil) (rl_lenS (by omega))) rd_lt)) fun h2 => et_test (ev_op (ev_op (ev_var rfl) (ev_var rfl) (rd_ixS (by omega) (by
              have : i + 1 + j < (cpl s).length := by rw [hlen]; have := of_decide_eq_true h2; omega
              rw [List.getElem?_eq_getElem this]; rfl))) ev_str rd_inSg)
          · by_cases hjn : j < n
            · rw [if_pos (by simpa using hjn)]
              exact gnb_gs (gs_st (st_aug rfl ev_int (rd_I0 (z := fun i j => .int (i + j)) fun _ _ => .int _)) ⟨_, n - (j + 1), by omega, Lq.rf _, j + 1, rfl, hjn, rfl, rfl⟩)
            · rw [if_neg (by simpa using hjn)]
              have : j = n := by omega
              subst this
              exact ⟨rfl, rfl⟩
        · rintro ρ' μ' ⟨rfl, rfl⟩
          have htk : toks (fun c => decide (c ∈ cpl q)) (s.length - i) ((cpl s).drop i) = if isL c then (if 8 < k + 1 then none else (toks (fun c => decide (c ∈ cpl q)) (s.length - (i + 1 + n)) ((cpl s).drop (i + 1 + n))).map (cutN s i (i + 1 + n) :: ·))
              else if decide (c ∈ cpl q) then (toks (fun c => decide (c ∈ cpl q)) (s.length - (i + 1 + n)) ((cpl s).drop (i + 1 + n))).map (cutN s i (i + 1 + n) :: ·) else if c = 32 then toks (fun c => decide (c ∈ cpl q)) (s.length - (i + 1 + n)) ((cpl s).drop (i + 1 + n)) else none := by
            rw [hdr, show s.length - i = (s.length - (i + 1)) + 1 by omega, toks_cons]
            have hd1 : (cpl s).drop (i + 1 + n) = rs.drop n := by rw [← List.drop_drop, hrs]
            have ecut : cutN s i (i + 1 + n) = ⟨(c :: rs.take n).toArray⟩ := by
              unfold cutN
              rw [hdr, show i + 1 + n - i = n + 1 by omega, List.take_succ_cons]
            rw [hd1, ecut, hk]
            cases hL : isL c with
            | true =>
              rw [hL] at hn
              have hn' : n = k := hn
              have et : rs.take n = rs.takeWhile isL := by rw [hn', ← hk]; exact take_len
              rw [et, hn']
              rw [toks_more (n := s.length - (i + 1)) (m := s.length - (i + 1 + k)) (by rw [List.length_drop]; omega) (by rw [List.length_drop]; omega), if_pos rfl, if_pos rfl]
            | false =>
              rw [hL] at hn
              have hn' : n = 0 := hn
              subst hn'
              rw [List.drop_zero, List.take_zero, if_neg Bool.false_ne_true, if_neg Bool.false_ne_true]
          refine gnb_seq (gnb_if (gt_ev (et_or (et_and (et_test (ev_op (evc rfl rfl) ev_str rd_notInSg)) fun _ => et_and (et_test (ev_op (evc rfl rfl) (ev_var rfl) rd_notInSg)) fun _ => et_neS (evc rfl rfl) (strOk_sg hcm) sp_ok) fun _ => et_test (ev_op (ev_op (ev_var rfl) (ev_var rfl) rd_sub) ev_int rd_gt)) ?_))
          have eb : (((!decide (c ∈ cpl ("abcdefghijklmnopqrstuvwxyz" : Str))) && ((!decide (c ∈ cpl q)) && !decide (sg c = (" " : Str)))) || decide ((8 : Int) < ((i + 1 + n : Nat) : Int) - i)) = ((!isL c && (!decide (c ∈ cpl q) && !decide (c = 32))) || decide (8 < n + 1)) := by
            rw [sg_sp]
            have : decide ((8 : Int) < ((i + 1 + n : Nat) : Int) - i) = decide (8 < n + 1) := decide_eq_decide.mpr (by omega)
            rw [this]; rfl
          rw [eb]
          by_cases hbad : ((!isL c && (!decide (c ∈ cpl q) && !decide (c = 32))) || decide (8 < n + 1)) = true
          · rw [if_pos hbad]
            have hnone : tokS (fun c => decide (c ∈ cpl q)) s = none := by
              rw [ht, htk]
              cases hL : isL c with
              | true =>
                rw [hL] at hn hbad
                have hn' : n = k := hn
                have : 8 < k + 1 := by simpa [hn'] using hbad
                simp [this]
              | false =>
                rw [hL] at hn hbad
                have hn' : n = 0 := hn
                have : ¬ c ∈ cpl q ∧ ¬ c = 32 := by simpa [hn'] using hbad
                rw [if_neg Bool.false_ne_true, if_neg (fun z => this.1 (of_decide_eq_true z)), if_neg this.2]; rfl
            rw [hnone] at hq
            exact gnb_raise hq
          · rw [if_neg hbad]
            refine gnb_next (gnb_seq (gnb_if (gt_ev (et_neS (evc rfl rfl) (strOk_sg hcm) sp_ok) ?_)))
            rw [sg_sp]
            have hgood : (isL c = true → ¬ 8 < k + 1) ∧ (isL c = false → ¬ c ∈ cpl q → c = 32) := by
              refine ⟨fun hL => ?_, fun hL hnq => ?_⟩
              · rw [hL] at hn hbad
                have hn' : n = k := hn
                simpa [hn'] using hbad
              · rw [hL] at hn hbad
                have hn' : n = 0 := hn
                simpa [hn', hnq] using hbad
            by_cases hsp : c = 32
            · have hL : isL c = false := by rw [hsp]; decide +kernel
              have hq0 : ¬ c ∈ cpl q := by rw [hsp]; exact h32
              rw [if_neg (by simp [hsp])]
              refine gnb_next (gnb_gs (gs_asg (ge_ev (ev_var rfl) ⟨_, s.length - (i + 1 + n), by omega, Lq.rf _, i + 1 + n, acc, _, rfl, by omega, rfl, rfl, by omega, ?_⟩)))
              rw [ht, htk, hL, if_neg Bool.false_ne_true, if_neg (fun z => hq0 (of_decide_eq_true z)), if_pos hsp]
            · rw [if_pos (by simp [hsp])]
              refine gnb_gs (gs_drop (ge_append (ge_ev (ev_var rfl) ⟨a, 0, _, rfl, rfl, gea_ev (ev_cons (ev_cutS (i := i) (j := i + 1 + n) (ev_var rfl) (eo_some (ev_var rfl)) (eo_some (ev_var rfl)) (by omega) (sIx_le' _ _ (by omega)) (by rw [HT.sIx_nat]; omega)) ev_nil) ⟨_, _, rfl, rfl, by rw [List.length_map]; omega, ?_⟩⟩)))
              refine gnb_gs (gs_asg (ge_ev (ev_var rfl) ⟨_, s.length - (i + 1 + n), by omega, Lq.rf _, i + 1 + n, acc ++ [cutN s i (i + 1 + n)], _, rfl, by omega, rfl, ?_, by rw [List.length_append, List.length_singleton]; omega, ?_⟩))
              · rw [List.map_append]; rfl
              · rw [ht, htk]
                have e : ∀ o : Option (List Str), Option.map (acc ++ ·) (Option.map (cutN s i (i + 1 + n) :: ·) o) = Option.map ((acc ++ [cutN s i (i + 1 + n)]) ++ ·) o := fun o => by cases o <;> simp
                cases hL : isL c with
                | true =>
                  rw [if_pos rfl, if_neg (hgood.1 hL), e]
                | false =>
                  have : c ∈ cpl q := Classical.byContradiction fun hnq => hsp (hgood.2 hL hnq)
                  rw [if_neg (by simp), if_pos (by simpa using this), e]
      · rw [if_neg (by simp; omega)]
        have : i = s.length := by omega
        subst this
        refine ⟨acc, e, rfl, rfl, ?_⟩
        rw [ht, Nat.sub_self]
        simp [toks]
    · rintro ρ' μ' ⟨acc, e, rfl, rfl, ht⟩
      rw [ht] at hq
      exact gnb_gn (gn_freeze (μ1 := []) (i := 2) rfl (gn_ret (gx_ge (ge_ev (ev_var rfl) hq))))
end
end Du
namespace Du
open PySem L2 Pz
/-! what is joined -/
abbrev Sy := List Str × List (List Str)
abbrev sD (C : Addr) (v : Sy) : D := SayD C v.1 v.2
def opG (r : _root_.Fin 3) : Bool → Bool → Bool := match r with
  | 0 => (· || ·)
  | 1 => fun a b => !eqD (.bl a) (.bl b)
  | 2 => (· && ·)
def binS (r : _root_.Fin 3) (a b : Sy) : Sy := (sN (a.1 ++ b.1) (opS (opG r) a.1 a.2 b.1 b.2), sP (a.1 ++ b.1) (opS (opG r) a.1 a.2 b.1 b.2))
def ngS (a : Sy) : Sy := (sN a.1 (inS a.1 a.2), sP a.1 (inS a.1 a.2))
def opW (r : _root_.Fin 3) : Str := match r with
  | 0 => "|"
  | 1 => "^"
  | 2 => "&"
def sgW : Sg → Str
  | .op r => opW r
  | .neg => "~"
  | .lp => "("
/-- a say whose names are among L -/
structure OkV (L : List Str) (v : Sy) : Prop where
  wf : wf v.1 v.2
  sub : ∀ x ∈ v.1, x ∈ L
theorem few {L ns : List Str} (hL : L.length ≤ 12) (h : ∀ x ∈ ns, x ∈ L) : (uniq ns).length ≤ 12 := by
  have h1 : (uniq ns).length ≤ (uniq L).length := ((SS.uniq ns).sublist (SS.uniq L) fun x hx => uniq_mem.mpr (h x (uniq_mem.mp hx))).length_le
  exact Nat.le_trans h1 (Nat.le_trans (uniq_len L) hL)
theorem OkV.bin {L : List Str} (hL : L.length ≤ 12) {a b : Sy} (r : _root_.Fin 3) (ha : OkV L a) (hb : OkV L b) : OkV L (binS r a b) := by
  have hs : ∀ x ∈ a.1 ++ b.1, x ∈ L := fun x hx => (List.mem_append.mp hx).elim (ha.sub x) (hb.sub x)
  exact ⟨said_wfG (few hL hs) (okS_app ha.wf.2.1 hb.wf.2.1), fun x hx => hs x (uniq_mem.mp ((sN_sub _ _).subset hx))⟩
theorem OkV.ng {L : List Str} (hL : L.length ≤ 12) {a : Sy} (ha : OkV L a) : OkV L (ngS a) :=
  ⟨said_wfG (few hL ha.sub) ha.wf.2.1, fun x hx => ha.sub x (uniq_mem.mp ((sN_sub _ _).subset hx))⟩
section
variable {P : Program} {w : World} {K : PySem.W.Frag} {mg : Str → Option Value} {base : Heap} {C CU Sk fj : Addr}
def RJoined (C : Addr) (ds : List D) (d : D) : Prop := (∃ v : Sy, ds = [.str "~", .lst [sD C v]] ∧ wf v.1 v.2 ∧ d = sD C (ngS v)) ∨ (∃ (r : _root_.Fin 3) (a b : Sy), ds = [.str (opW r), .lst [sD C a, sD C b]] ∧ wf a.1 a.2 ∧ wf b.1 b.2 ∧ (uniq (a.1 ++ b.1)).length ≤ 12 ∧ d = sD C (binS r a b))
abbrev s_joined_say : Stmt := top 22
abbrev n_joined_say : List Str := ["sign", "says"]
theorem sc_joined_say : FnScope n_joined_say ["sign", "says"] (defScope s_joined_say) := ⟨rfl, rfl, rfl, by decide +kernel, rfl, by decide +kernel, by decide +kernel⟩

theorem sOk_til : PyData.strOk "~" = true := by decide +kernel
theorem sOk_amp : PyData.strOk "&" = true := by decide +kernel
theorem sOk_hat : PyData.strOk "^" = true := by decide +kernel
theorem sOk_rp : PyData.strOk ")" = true := by decide +kernel
theorem sOk_opW (r : _root_.Fin 3) : PyData.strOk (opW r) = true := by
  match r with
  | 0 => decide +kernel
  | 1 => decide +kernel
  | 2 => decide +kernel
theorem ok_joined_say {f : Addr} {fd : FuncData} (F : Fun K "joined_say" "joined_say" s_joined_say f fd) (T : Tx K mg C) (o_and : OBin P w K mg base 4 C .BitAnd (spP (ROpG C (· && ·)))) (o_or : OBin P w K mg base 4 C .BitOr (spP (ROpG C (· || ·)))) (o_xor : OBin P w K mg base 4 C .BitXor (spP (ROpG C (fun a b => !eqD (.bl a) (.bl b))))) (o_inv : OInv P w K mg base 4 C (spP (RInv C))) : FnOk P w K mg base CX0 5 f fd ["sign", "says"] (spP (RJoined C)) := by
  refine pure_ok F sc_joined_say (fun ds d h => ?_) (fun cdv A outer s H E hr => ?_)
  · obtain ⟨v, rfl, _⟩ | ⟨r, a, b, rfl, _⟩ := h <;> rfl
  · refine ⟨_, (pss_cons (ps_if (pt_cmpR (k_eq (K := K) rfl hr) (pv 0) pe_str (nomark _)) (pss_one (ps_ret (pe_un (k_inv o_inv hr (by omega)) (pe_ix (k_ix (K := K) rfl) (pv 1) pe_int (fun _ _ => rfl))))) pss_nil) (pss_cons (ps_if (pt_cmpR (k_eq (K := K) rfl hr) (pv 0) pe_str (nomark _)) (pss_one (ps_ret (pe_op (k_bin o_and hr (by omega)) (pe_ix (k_ix (K := K) rfl) (pv 1) pe_int (fun _ _ => rfl)) (pe_ix (k_ix (K := K) rfl) (pv 1) pe_int (fun _ _ => rfl))))) pss_nil) (pss_one (ps_ret (pe_ifExp (pt_cmpR (k_eq (K := K) rfl hr) (pv 0) pe_str (nomark _)) (pe_op (k_bin o_xor hr (by omega)) (pe_ix (k_ix (K := K) rfl) (pv 1) pe_int (fun _ _ => rfl)) (pe_ix (k_ix (K := K) rfl) (pv 1) pe_int (fun _ _ => rfl))) (pe_op (k_bin o_or hr (by omega)) (pe_ix (k_ix (K := K) rfl) (pv 1) pe_int (fun _ _ => rfl)) (pe_ix (k_ix (K := K) rfl) (pv 1) pe_int (fun _ _ => rfl)))))))), ?_⟩
    intro ds d h
    obtain ⟨v, rfl, hw, rfl⟩ | ⟨r, a, b, rfl, ha, hb, hl, rfl⟩ := h
    · exact .inl (st_seqR (st_if (b := true) (et_eqS (ev_var rfl) sOk_til sOk_til |> fun h => by simpa using h) (fun _ => st_ret (ev_un (ev_op (ev_var rfl) ev_int (rd_ixL (i := 0) rfl)) (r1_inv ⟨v.1, v.2, rfl, hw, rfl⟩))) fun h => by cases h))
    · have hn : decide (opW r = ("~" : Str)) = false := by match r with
        | 0 => decide +kernel
        | 1 => decide +kernel
        | 2 => decide +kernel
      have e0 : ∀ ρ : Rho, ρ[1]? = some (some (.lst [sD C a, sD C b])) → Ev (tOp (rIx K) (tVar 1) (tC (.int 0))) ρ (sD C a) := fun ρ h => ev_op (ev_var h) ev_int (rd_ixL (i := 0) rfl)
      have e1 : ∀ ρ : Rho, ρ[1]? = some (some (.lst [sD C a, sD C b])) → Ev (tOp (rIx K) (tVar 1) (tC (.int 1))) ρ (sD C b) := fun ρ h => ev_op (ev_var h) ev_int (rd_ixL (i := 1) rfl)
      refine .inl (st_seq (st_if (b := false) (hn ▸ et_eqS (ev_var rfl) (sOk_opW r) sOk_til) (fun h => by cases h) fun _ => st_next) ?_)
      match r, hl with
      | 2, hl => exact st_seqR (st_if (b := true) ((show decide (opW 2 = ("&" : Str)) = true by decide +kernel) ▸ et_eqS (ev_var rfl) (sOk_opW 2) sOk_amp) (fun _ => st_ret (ev_op (e0 _ rfl) (e1 _ rfl) (rd_bin ⟨a.1, a.2, b.1, b.2, rfl, ha, hb, hl, rfl⟩))) fun h => by cases h)
      | 1, hl => exact st_seq (st_if (b := false) ((show decide (opW 1 = ("&" : Str)) = false by decide +kernel) ▸ et_eqS (ev_var rfl) (sOk_opW 1) sOk_amp) (fun h => by cases h) fun _ => st_next) (st_ret (ev_if (b := true) ((show decide (opW 1 = ("^" : Str)) = true by decide +kernel) ▸ et_eqS (ev_var rfl) (sOk_opW 1) sOk_hat) (fun _ => ev_op (e0 _ rfl) (e1 _ rfl) (rd_bin ⟨a.1, a.2, b.1, b.2, rfl, ha, hb, hl, rfl⟩)) fun h => by cases h))
      | 0, hl => exact st_seq (st_if (b := false) ((show decide (opW 0 = ("&" : Str)) = false by decide +kernel) ▸ et_eqS (ev_var rfl) (sOk_opW 0) sOk_amp) (fun h => by cases h) fun _ => st_next) (st_ret (ev_if (b := false) ((show decide (opW 0 = ("^" : Str)) = false by decide +kernel) ▸ et_eqS (ev_var rfl) (sOk_opW 0) sOk_hat) (fun h => by cases h) fun _ => ev_op (e0 _ rfl) (e1 _ rfl) (rd_bin ⟨a.1, a.2, b.1, b.2, rfl, ha, hb, hl, rfl⟩)))
/-! the stack -/
/-- what is known of the class -/
structure SkT (K : PySem.W.Frag) (Sk : Addr) : Prop where
  cl : Cls K Sk
  nR : NoAttr K Sk "ranks"
  nP : NoAttr K Sk "prefix"
  nS : NoAttr K Sk "suffix"
  nM : NoAttr K Sk "makes"
  nH : NoAttr K Sk "held"
  nW : NoAttr K Sk "waiting"
  nO : NoAttr K Sk "is_open"
def rks : List (Str × Int) := [("&", 2), ("^", 1), ("|", 0)]
abbrev rkD : List (Key × D) := rks.map fun p => ((.inr p.1 : Key), .int p.2)
def skF (fj : Addr) (h w : D) (op : Bool) : List (Str × D) := [("ranks", .dK rkD), ("prefix", .str "~"), ("suffix", .str ""), ("makes", .ptr fj), ("held", h), ("waiting", w), ("is_open", .bl op)]
def hD (C : Addr) (H : List Sy) : D := .lst (H.reverse.map (sD C))
def wD (W : List Sg) : D := .lst (W.reverse.map fun s => .str (sgW s))
def skM (C Sk fj a h w : Addr) (m : MS Sy) : Mu := [(a, .ins Sk (skF fj (.ptr h) (.ptr w) m.op)), (h, hD C m.H), (w, wD m.W)]
/-! its making -/
def RSkInit (Sk : Addr) (ds : List D) (μ : Mu) (Φ : D → Mu → Prop) : Prop := ∃ (p fj : Addr), ds = [.ptr p, .dK rkD, .str "~", .str "", .ptr fj] ∧ μ = [(p, .ins Sk [])] ∧ ∀ h w : Addr, Φ .non [(w, .lst []), (h, .lst []), (p, .ins Sk (skF fj (.ptr h) (.ptr w) true))]
abbrev s_Stack_init : Stmt := inClass (top 19) 0
abbrev n_Stack_init : List Str := ["self", "ranks", "prefix", "suffix", "makes"]
theorem sc_Stack_init : FnScope n_Stack_init ["self", "ranks", "prefix", "suffix", "makes"] (defScope s_Stack_init) := ⟨rfl, rfl, rfl, by decide +kernel, rfl, by decide +kernel, by decide +kernel⟩

theorem ok_Stack_init {f : Addr} {fd : FuncData} (F : Fun K "__init__" "Stack.__init__" s_Stack_init f fd) (S : SkT K Sk) : FnOk P w K mg base CX0 1 f fd ["self", "ranks", "prefix", "suffix", "makes"] (spN (RSkInit Sk)) := by
  refine eff_okN F sc_Stack_init (fun ds μ Φ h => ?_) (fun cdv A outer s H E hr => ?_)
  · obtain ⟨p, fj, rfl, _⟩ := h; rfl
  · refine ⟨_, (pss_cons (ps_fld (pv 0) (pv 1) rfl) (pss_cons (ps_fld (pv 0) (pv 2) rfl) (pss_cons (ps_fld (pv 0) (pv 3) rfl) (pss_cons (ps_fld (pv 0) (pv 4) rfl) (pss_cons (ps_fld (pv 0) (pe_lst pa_nil) rfl) (pss_cons (ps_fld (pv 0) (pe_lst pa_nil) rfl) (pss_one (ps_fld (pv 0) pe_bl rfl)))))))), ?_⟩
    intro ds μ Φ h
    obtain ⟨p, fj, rfl, rfl, q⟩ := h
    refine gn_sq (gs_fld (ge_ev (ev_var rfl) (ge_ev (ev_var rfl) ⟨p, 0, Sk, [], rfl, rfl, S.cl, S.nR, Nat.lt_of_le_of_lt (m := 20) (Nat.le_of_ble_eq_true rfl) (by decide), ?_⟩)))
    refine gn_sq (gs_fld (ge_ev (ev_var rfl) (ge_ev (ev_var rfl) ⟨p, 0, Sk, _, rfl, rfl, S.cl, S.nP, Nat.lt_of_le_of_lt (m := 20) (Nat.le_of_ble_eq_true rfl) (by decide), ?_⟩)))
    refine gn_sq (gs_fld (ge_ev (ev_var rfl) (ge_ev (ev_var rfl) ⟨p, 0, Sk, _, rfl, rfl, S.cl, S.nS, Nat.lt_of_le_of_lt (m := 20) (Nat.le_of_ble_eq_true rfl) (by decide), ?_⟩)))
    refine gn_sq (gs_fld (ge_ev (ev_var rfl) (ge_ev (ev_var rfl) ⟨p, 0, Sk, _, rfl, rfl, S.cl, S.nM, Nat.lt_of_le_of_lt (m := 20) (Nat.le_of_ble_eq_true rfl) (by decide), ?_⟩)))
    refine gn_seq (gn_fldX (gx_new ef_nil fun h hh => ge_ev (ev_var rfl) ⟨p, 1, Sk, _, rfl, rfl, S.cl, S.nH, Nat.lt_of_le_of_lt (m := 20) (Nat.le_of_ble_eq_true rfl) (by decide), ?_⟩))
    refine gn_seq (gn_fldX (gx_new ef_nil fun w' hw => ge_ev (ev_var rfl) ⟨p, 2, Sk, _, rfl, rfl, S.cl, S.nW, Nat.lt_of_le_of_lt (m := 20) (Nat.le_of_ble_eq_true rfl) (by decide), ?_⟩))
    exact gn_gs (gs_fld (ge_ev ev_bl (ge_ev (ev_var rfl) ⟨p, 2, Sk, _, rfl, rfl, S.cl, S.nO, Nat.lt_of_le_of_lt (m := 20) (Nat.le_of_ble_eq_true rfl) (by decide), q h w'⟩)))
end
end Du
namespace Du
open PySem L2 Pz
section
variable {P : Program} {w : World} {K : PySem.W.Frag} {mg : Str → Option Value} {base : Heap} {C CU Sk fj : Addr}
theorem sgW_sg (s : Sg) : ∃ c, sgW s = sg c ∧ decide (c ∈ cpl ("~" : Str)) = (match s with | .neg => true | _ => false) := by
  cases s with
  | neg => exact ⟨126, by decide +kernel, by decide +kernel⟩
  | lp => exact ⟨40, by decide +kernel, by decide +kernel⟩
  | op r => match r with
    | 0 => exact ⟨124, by decide +kernel, by decide +kernel⟩
    | 1 => exact ⟨94, by decide +kernel, by decide +kernel⟩
    | 2 => exact ⟨38, by decide +kernel, by decide +kernel⟩
theorem sgW_ok (s : Sg) : PyData.strOk (sgW s) = true := by
  cases s with
  | neg => decide +kernel
  | lp => decide +kernel
  | op r => exact sOk_opW r
def sgR : Sg → Int
  | .op r => ((r.val : Nat) : Int)
  | .neg => -1
  | .lp => -1
theorem sgW_rank (s : Sg) : (valD rkD (.inr (sgW s))) = (match s with | .op r => some (.int (r.val : Nat)) | _ => none) := by
  cases s with
  | neg => rfl
  | lp => rfl
  | op r => match r with
    | 0 => rfl
    | 1 => rfl
    | 2 => rfl
theorem hD_cons (C : Addr) (v : Sy) (H : List Sy) : hD C (v :: H) = .lst (H.reverse.map (sD C) ++ [sD C v]) := by simp [hD]
theorem wD_cons (s : Sg) (W : List Sg) : wD (s :: W) = .lst (W.reverse.map (fun s => Du.D.str (sgW s)) ++ [.str (sgW s)]) := by simp [wD]
theorem okE_wD (W : List Sg) : okE (wD W) := (okN_lst (n := 0) fun d hd => by
  obtain ⟨s, _, rfl⟩ := List.mem_map.mp hd
  exact okN_str (sgW_ok s)).e (by decide)
theorem wD_nil (W : List Sg) : eqD (wD W) (.lst []) = decide (W = []) := by
  unfold wD
  rw [eqD_lst0]
  cases W <;> simp
theorem un_sk {a h w' : Addr} {m : MS Sy} : UnfF (skM C Sk fj a h w' m) (skF fj (.ptr h) (.ptr w') m.op) (skF fj (hD C m.H) (wD m.W) m.op) :=
  .cons (.rf _) (.cons (.rf _) (.cons (.rf _) (.cons (.rf _) (.cons (.ptr (List.mem_cons_of_mem _ List.mem_cons_self) (Unfs.rfs _)) (.cons (.ptr (List.mem_cons_of_mem _ (List.mem_cons_of_mem _ List.mem_cons_self)) (Unfs.rfs _)) (.cons (.rf _) .nil))))))
/-- a test of the stack, as of data -/
theorem gt_sk {ρ : Rho} {a h w' : Addr} {m : MS Sy} {tt : TT} {b : Bool} {ΦT : Bool → Mu → Prop} (h0 : ρ[0]? = some (some (.ptr a))) (ht : EvT tt (ρ.set 0 (some (.ins Sk (skF fj (hD C m.H) (wD m.W) m.op)))) b) (q : ΦT b (skM C Sk fj a h w' m)) : GT tt ρ (skM C Sk fj a h w' m) ΦT :=
  gt_nest h0 List.mem_cons_self un_sk ht q
section
variable {ρ : Rho} {a h w' : Addr} {m : MS Sy} {Φ : D → Mu → Prop} (S : SkT K Sk) (h0 : ρ[0]? = some (some (.ptr a)))
include S h0
theorem ge_held (q : Φ (.ptr h) (skM C Sk fj a h w' m)) : GE (tFld K (tVar 0) "held") ρ (skM C Sk fj a h w' m) Φ := ge_fldO (ge_ev (ev_var h0) ⟨a, 0, Sk, _, _, rfl, rfl, S.cl, S.nH, rfl, q⟩)
theorem ge_wait (q : Φ (.ptr w') (skM C Sk fj a h w' m)) : GE (tFld K (tVar 0) "waiting") ρ (skM C Sk fj a h w' m) Φ := ge_fldO (ge_ev (ev_var h0) ⟨a, 0, Sk, _, _, rfl, rfl, S.cl, S.nW, rfl, q⟩)
theorem ge_popH {v : Sy} {H : List Sy} (hH : m.H = v :: H) (q : Φ (sD C v) (skM C Sk fj a h w' ⟨H, m.W, m.op⟩)) : GE (tBM0 K "list" rPop (tFld K (tVar 0) "held")) ρ (skM C Sk fj a h w' m) Φ :=
  ge_pop0 (ge_held S h0 ⟨h, 1, H.reverse.map (sD C), sD C v, rfl, by show some (h, hD C m.H) = _; rw [hH, hD_cons], q⟩)
theorem ge_popW {s : Sg} {W : List Sg} (hW : m.W = s :: W) (q : Φ (.str (sgW s)) (skM C Sk fj a h w' ⟨m.H, W, m.op⟩)) : GE (tBM0 K "list" rPop (tFld K (tVar 0) "waiting")) ρ (skM C Sk fj a h w' m) Φ :=
  ge_pop0 (ge_wait S h0 ⟨w', 2, W.reverse.map (fun s => Du.D.str (sgW s)), _, rfl, by show some (w', wD m.W) = _; rw [hW, wD_cons], q⟩)
theorem ge_push {ta : TA} (hl : m.H.length < 90000) (hq : GEA ta ρ (skM C Sk fj a h w' m) fun es μ => ∃ (v : Sy) (H : List Sy) (W : List Sg) (o : Bool), es = [sD C v] ∧ μ = skM C Sk fj a h w' ⟨H, W, o⟩ ∧ H.length < 90000 ∧ Φ .non (skM C Sk fj a h w' ⟨v :: H, W, o⟩)) : GE (tBM K "list" rAppend (tFld K (tVar 0) "held") ta) ρ (skM C Sk fj a h w' m) Φ :=
  ge_append (ge_held S h0 ⟨h, 1, _, rfl, rfl, fun Z σ H Q k s mm c => hq Z σ H Q k s mm fun vs H' es μ' ⟨v, H1, W1, o, e1, e2, e3, q⟩ n r => c vs H' es μ' ⟨H1.reverse.map (sD C), sD C v, e1, by rw [e2]; rfl, by rw [List.length_map, List.length_reverse]; omega, by
    rw [e2]
    show Φ .non [(a, _), (h, .lst (H1.reverse.map (sD C) ++ [sD C v])), (w', _)]
    rw [← hD_cons]; exact q⟩ n r⟩)
theorem ge_make {ta : TA} {E : XK} (hq : GEA ta ρ (skM C Sk fj a h w' m) fun ds μ => ∃ z, RJoined C ds z ∧ Φ z μ) : GE (tFCall K "makes" fj (spP (RJoined C)) E (tVar 0) ta) ρ (skM C Sk fj a h w' m) Φ :=
  ge_fcall (ge_ev (ev_var h0) ⟨a, 0, Sk, _, rfl, rfl, S.cl, S.nM, rfl, hq⟩)
theorem gs_open {te : TE} {b : Bool} {N : Rho → Mu → Prop} {R : D → Mu → Prop} (he : Ev te ρ (.bl b)) (q : N ρ (skM C Sk fj a h w' ⟨m.H, m.W, b⟩)) : GS (sFld K (tVar 0) te "is_open") ρ (skM C Sk fj a h w' m) N R :=
  gs_fld (ge_ev he (ge_ev (ev_var h0) ⟨a, 0, Sk, _, rfl, rfl, S.cl, S.nO, Nat.lt_of_le_of_lt (m := 20) (Nat.le_of_ble_eq_true rfl) (by decide), q⟩))
end
/-! close -/
def RSkClose (C Sk fj : Addr) (ds : List D) (μ : Mu) (Φ : D → Mu → Prop) : Prop := ∃ (a h w' : Addr) (m : MS Sy), ds = [.ptr a] ∧ μ = skM C Sk fj a h w' m ∧ m.H ≠ [] ∧ (∀ v ∈ m.H, wf v.1 v.2) ∧ (∀ v : Sy, wf v.1 v.2 → wf (ngS v).1 (ngS v).2) ∧ m.H.length < 80000 ∧
  Φ .non (skM C Sk fj a h w' ⟨(closeM ngS m.H m.W).1, (closeM ngS m.H m.W).2, false⟩)
abbrev s_Stack_close : Stmt := inClass (top 19) 1
abbrev n_Stack_close : List Str := ["self"]
theorem sc_Stack_close : FnScope n_Stack_close ["self"] (defScope s_Stack_close) := ⟨rfl, rfl, rfl, by decide +kernel, rfl, by decide +kernel, by decide +kernel⟩

abbrev s_Stack_work : Stmt := inClass (top 19) 2
abbrev n_Stack_work : List Str := ["self", "least", "second", "first"]
theorem sc_Stack_work : FnScope n_Stack_work ["self", "least"] (defScope s_Stack_work) := ⟨rfl, rfl, rfl, by decide +kernel, rfl, by decide +kernel, by decide +kernel⟩

abbrev s_Stack_add_value : Stmt := inClass (top 19) 3
abbrev n_Stack_add_value : List Str := ["self", "value"]
theorem sc_Stack_add_value : FnScope n_Stack_add_value ["self", "value"] (defScope s_Stack_add_value) := ⟨rfl, rfl, rfl, by decide +kernel, rfl, by decide +kernel, by decide +kernel⟩

abbrev s_Stack_add_sign : Stmt := inClass (top 19) 4
abbrev n_Stack_add_sign : List Str := ["self", "sign"]
theorem sc_Stack_add_sign : FnScope n_Stack_add_sign ["self", "sign"] (defScope s_Stack_add_sign) := ⟨rfl, rfl, rfl, by decide +kernel, rfl, by decide +kernel, by decide +kernel⟩

abbrev s_Stack_result : Stmt := inClass (top 19) 5
abbrev n_Stack_result : List Str := ["self"]
theorem sc_Stack_result : FnScope n_Stack_result ["self"] (defScope s_Stack_result) := ⟨rfl, rfl, rfl, by decide +kernel, rfl, by decide +kernel, by decide +kernel⟩

theorem ok_Stack_close {f : Addr} {fd : FuncData} (F : Fun K "close" "Stack.close" s_Stack_close f fd) (T : Tx K mg C) (S : SkT K Sk) (F_makes : FnR P w K mg base CX0 5 fj (spP (RJoined C))) (kp_makes : PySem.W.keepIn K (.ref fj) = true) : FnOk P w K mg base CX0 6 f fd ["self"] (spM (RSkClose C Sk fj)) := by
  refine eff_ok F sc_Stack_close (fun ds μ Φ h => ?_) (fun cdv A outer s H E hr => ?_)
  · obtain ⟨a, h, w', m, rfl, _⟩ := h; rfl
  · refine ⟨_, (pss_cons (ps_while PassesOwn.never (PW.pt (pw_and (pt_cmpR (k_ne (K := K) rfl hr) (k_fld (K := K) rfl (pv 0) rfl) (pe_lst pa_nil) (nomark _)) (pw_and1 (pt_cmpR op_in_sign (pe_ix (k_ix (K := K) rfl) (k_fld (K := K) rfl (pv 0) rfl) (pe_un un_neg pe_int) (fun _ _ => rfl)) (k_fld (K := K) rfl (pv 0) rfl) (by rfl))))) (pss_one (ps_expr (k_bm (K := K) rfl PySem.F.plainAttrs_list PySem.F.slot_list_append PySem.F.type_list_append mt_append (k_fld (K := K) rfl (pv 0) rfl) (pa_cons (pe_fcall (K := K) rfl (pv 0) F_makes kp_makes (hr.mono (by omega)) pass0 (pa_cons (pe_bm0 PySem.F.plainAttrs_list PySem.F.slot_list_pop PySem.F.type_list_pop mt_pop (k_fld (K := K) rfl (pv 0) rfl)) (pa_cons (pe_lst (pa_cons (pe_bm0 PySem.F.plainAttrs_list PySem.F.slot_list_pop PySem.F.type_list_pop mt_pop (k_fld (K := K) rfl (pv 0) rfl)) pa_nil)) pa_nil))) pa_nil))))) (pss_one (ps_fld (pv 0) pe_bl rfl))), ?_⟩
    intro ds μ Φ hh
    obtain ⟨a, h, w', m, rfl, rfl, hne, hwf, hng, hlen, q⟩ := hh
    refine gs_mid (fun ρ' μ' => ρ' = [some (.ptr a)] ∧ μ' = skM C Sk fj a h w' ⟨(closeM ngS m.H m.W).1, (closeM ngS m.H m.W).2, m.op⟩) (gs_while (fun k ρ' μ' => ∃ H W, k = W.length ∧ ρ' = [some (.ptr a)] ∧ μ' = skM C Sk fj a h w' ⟨H, W, m.op⟩ ∧ H ≠ [] ∧ (∀ v ∈ H, wf v.1 v.2) ∧ H.length = m.H.length ∧ closeM ngS H W = closeM ngS m.H m.W) (Lq.rf _) ⟨m.H, m.W, rfl, rfl, rfl, hne, hwf, rfl, rfl⟩ ?_) ?_
    · rintro k ρ' μ' ⟨H, W, rfl, rfl, rfl, hn, hw, hl, he⟩
      have ew : ∀ ρ : Rho, ρ[0]? = some (some (.ins Sk (skF fj (hD C H) (wD W) m.op))) → Ev (tFld K (tVar 0) "waiting") ρ (wD W) := fun ρ h => ev_fld (ev_var h) S.cl S.nW rfl
      have t1 : EvT (tTest (tOp (rNeD K) (tFld K (tVar 0) "waiting") (tLst tNil))) [some (.ins Sk (skF fj (hD C H) (wD W) m.op))] (!decide (W = [])) := by
        rw [← wD_nil]
        exact et_test (ev_op (ew _ rfl) (ev_lst ev_nil (by simp)) (rd_ne (okE_wD W) ((okN_lst (n := 0) fun d hd => by cases hd).e (by decide))))
      cases hW : W with
      | nil =>
        subst hW
        refine gt_sk rfl (b := false) (et_and (b := false) (c := false) t1 fun hb => by cases hb) ?_
        rw [if_neg (by simp)]
        have : closeM ngS H [] = (H, []) := close_ok (l := 0) (W := []) trivial H
        refine ⟨rfl, ?_⟩
        rw [← he, this]
      | cons s W' =>
        subst hW
        obtain ⟨c, hc, hcs⟩ := sgW_sg s
        refine gt_sk rfl (b := true && decide (c ∈ cpl ("~" : Str))) (et_and (b := true) t1 fun _ => et_test (ev_op (ev_op (e := .int (-1)) (z := .str (sg c)) (wD_cons s W' ▸ ew _ rfl) (ev_un ev_int r1_neg1) (hc ▸ rd_lastL)) (ev_fld (ev_var rfl) S.cl S.nP rfl) rd_inSg)) ?_
        rw [hcs]
        cases s with
        | neg =>
          rw [if_pos (by rfl)]
          cases H with
          | nil => exact absurd rfl hn
          | cons v H =>
            have hv := hw v List.mem_cons_self
            refine gs_drop (ge_push S rfl (by simp only [List.length_cons] at hl ⊢; omega) (gea_cons (ge_make S rfl (gea_cons (ge_popW S rfl rfl (gea_cons (ge_lst (gea_cons (ge_popH S rfl rfl (gea_nil ⟨by simp, gea_nil ⟨_, .inl ⟨v, rfl, hv, rfl⟩, gea_nil ⟨ngS v, H, W', m.op, rfl, rfl, by simp only [List.length_cons] at hl; omega, ?_⟩⟩⟩))))))))))
            exact ⟨_, W'.length, by simp, Lq.rf _, ngS v :: H, W', rfl, rfl, rfl, by simp, fun u hu => by
              rcases List.mem_cons.mp hu with rfl | hu
              · exact hng v hv
              · exact hw u (List.mem_cons_of_mem _ hu), by simpa using hl, he⟩
        | lp =>
          rw [if_neg (by simp)]
          exact ⟨rfl, by rw [← he, close_ok (l := 0) (W := .lp :: W') trivial]⟩
        | op r =>
          rw [if_neg (by simp)]
          exact ⟨rfl, by rw [← he, close_ok (l := 3) (W := .op r :: W') r.isLt]⟩
    · rintro ρ' μ' ⟨rfl, rfl⟩
      exact gs_open S rfl ev_bl ⟨rfl, q⟩
/-! work -/
def RSkWork (C Sk fj : Addr) (ds : List D) (μ : Mu) (Φ : D → Mu → Prop) : Prop := ∃ (a h w' : Addr) (m : MS Sy) (l : Nat) (L : List Str), ds = [.ptr a, .int l] ∧ μ = skM C Sk fj a h w' m ∧ m.H.length = nops m.W + 1 ∧ (∀ v ∈ m.H, OkV L v) ∧ L.length ≤ 12 ∧ m.H.length < 80000 ∧
  Φ .non (skM C Sk fj a h w' ⟨(workM binS l m.H m.W).1, (workM binS l m.H m.W).2, m.op⟩)
theorem ok_Stack_work {f : Addr} {fd : FuncData} (F : Fun K "work" "Stack.work" s_Stack_work f fd) (T : Tx K mg C) (S : SkT K Sk) (F_makes : FnR P w K mg base CX0 5 fj (spP (RJoined C))) (kp_makes : PySem.W.keepIn K (.ref fj) = true) : FnOk P w K mg base CX0 6 f fd ["self", "least"] (spM (RSkWork C Sk fj)) := by
  refine eff_ok F sc_Stack_work (fun ds μ Φ h => ?_) (fun cdv A outer s H E hr => ?_)
  · obtain ⟨a, h, w', m, l, L, rfl, _⟩ := h; rfl
  · refine ⟨_, (pss_one (ps_while PassesOwn.never (PW.pt (pw_and (pt_cmpR (k_ne (K := K) rfl hr) (k_fld (K := K) rfl (pv 0) rfl) (pe_lst pa_nil) (nomark _)) (pw_and1 (pt_cmpR op_ge (pe_dget2 (Nat.lt_of_le_of_lt (Nat.add_le_add_left (by omega) _) hr.un) (k_fld (K := K) rfl (pv 0) rfl) (pe_ix (k_ix (K := K) rfl) (k_fld (K := K) rfl (pv 0) rfl) (pe_un un_neg pe_int) (fun _ _ => rfl)) (pe_un un_neg pe_int) ⟨rfl, rfl, rfl, rfl⟩) (pv 1) (nomark _))))) (pss_cons (ps_set (i := 2) sc_Stack_work.nd rfl (by first | exact Or.inl rfl | exact Or.inr rfl) (pe_bm0 PySem.F.plainAttrs_list PySem.F.slot_list_pop PySem.F.type_list_pop mt_pop (k_fld (K := K) rfl (pv 0) rfl))) (pss_cons (ps_set (i := 3) sc_Stack_work.nd rfl (by first | exact Or.inl rfl | exact Or.inr rfl) (pe_bm0 PySem.F.plainAttrs_list PySem.F.slot_list_pop PySem.F.type_list_pop mt_pop (k_fld (K := K) rfl (pv 0) rfl))) (pss_one (ps_expr (k_bm (K := K) rfl PySem.F.plainAttrs_list PySem.F.slot_list_append PySem.F.type_list_append mt_append (k_fld (K := K) rfl (pv 0) rfl) (pa_cons (pe_fcall (K := K) rfl (pv 0) F_makes kp_makes (hr.mono (by omega)) pass0 (pa_cons (pe_bm0 PySem.F.plainAttrs_list PySem.F.slot_list_pop PySem.F.type_list_pop mt_pop (k_fld (K := K) rfl (pv 0) rfl)) (pa_cons (pe_lst (pa_cons (pv 3) (pa_cons (pv 2) pa_nil))) pa_nil))) pa_nil)))))))), ?_⟩
    intro ds μ Φ hh
    obtain ⟨a, h, w', m, l, L, rfl, rfl, hcnt, hok, hL, hlen, q⟩ := hh
    refine (gs_while (fun k ρ' μ' => ∃ H W, k = W.length ∧ (∃ o1 o2, ρ' = [some (.ptr a), some (.int l), o1, o2]) ∧ μ' = skM C Sk fj a h w' ⟨H, W, m.op⟩ ∧ H.length = nops W + 1 ∧ (∀ v ∈ H, OkV L v) ∧ H.length ≤ m.H.length ∧ workM binS l H W = workM binS l m.H m.W) (Lq.rf _) ⟨m.H, m.W, rfl, ⟨none, none, rfl⟩, rfl, hcnt, hok, Nat.le_refl _, rfl⟩ ?_)
    rintro k ρ' μ' ⟨H, W, rfl, ⟨o1, o2, rfl⟩, rfl, hc, hw, hl, he⟩
    have ew : ∀ ρ : Rho, ρ[0]? = some (some (.ins Sk (skF fj (hD C H) (wD W) m.op))) → Ev (tFld K (tVar 0) "waiting") ρ (wD W) := fun ρ h => ev_fld (ev_var h) S.cl S.nW rfl
    have t1 : ∀ ρ : Rho, ρ[0]? = some (some (.ins Sk (skF fj (hD C H) (wD W) m.op))) → EvT (tTest (tOp (rNeD K) (tFld K (tVar 0) "waiting") (tLst tNil))) ρ (!decide (W = [])) := fun ρ h0 => by
      rw [← wD_nil]
      exact et_test (ev_op (ew _ h0) (ev_lst ev_nil (by simp)) (rd_ne (okE_wD W) ((okN_lst (n := 0) fun d hd => by cases hd).e (by decide))))
    have stop : workM binS l H W = (H, W) → (skM C Sk fj a h w' ⟨H, W, m.op⟩).map (·.1) = (skM C Sk fj a h w' m).map (·.1) ∧ Φ .non (skM C Sk fj a h w' ⟨H, W, m.op⟩) := fun e => ⟨rfl, by
      rw [← he, e] at q; exact q⟩
    cases hW : W with
    | nil =>
      subst hW
      refine gt_sk rfl (b := false) (et_and (b := false) (c := false) (t1 _ rfl) fun hb => by cases hb) ?_
      rw [if_neg (by simp)]
      exact stop (work_ok (W := []) trivial H)
    | cons s W' =>
      subst hW
      have hrank : (valD rkD (.inr (sgW s))).getD (.int (-1)) = .int (sgR s) := by
        rw [sgW_rank]; cases s <;> rfl
      refine gt_sk rfl (b := true && decide ((l : Int) ≤ sgR s)) (et_and (b := true) (t1 _ rfl) fun _ => et_test (ev_op (ev_sget2 (ev_fld (ev_var rfl) S.cl S.nR rfl) (ev_op (e := .int (-1)) (z := .str (sgW s)) (wD_cons s W' ▸ ew _ rfl) (ev_un ev_int r1_neg1) rd_lastL) (ev_un ev_int r1_neg1) hrank) (ev_var rfl) rd_ge)) ?_
      cases s with
      | neg =>
        rw [if_neg (by rw [Bool.true_and]; exact fun z => absurd (of_decide_eq_true z) (by show ¬ ((l : Int) ≤ -1); omega))]
        exact stop (by rcases H with _ | ⟨a, _ | ⟨b, H⟩⟩ <;> rfl)
      | lp =>
        rw [if_neg (by rw [Bool.true_and]; exact fun z => absurd (of_decide_eq_true z) (by show ¬ ((l : Int) ≤ -1); omega))]
        exact stop (work_ok (W := .lp :: W') trivial H)
      | op r =>
        by_cases hlr : l ≤ r.val
        · rw [if_pos (by simp [sgR]; omega)]
          match H, hc, hw, hl, he with
          | [], hc, _, _, _ => cases hc
          | [_], hc, _, _, _ => simp [nops] at hc
          | vb :: va :: H, hc, hw, hl, he =>
            have ha := hw va (by simp)
            have hb := hw vb (by simp)
            have hns : (uniq (va.1 ++ vb.1)).length ≤ 12 := few hL fun x hx => (List.mem_append.mp hx).elim (ha.sub x) (hb.sub x)
            simp only [List.length_cons, nops] at hc hl
            refine gs_seq (gs_asg (ge_popH S rfl rfl ?_))
            refine gs_seq (gs_asg (ge_popH S rfl rfl ?_))
            refine gs_drop (ge_push S rfl (by show H.length < _; omega) (gea_cons (ge_make S rfl (gea_cons (ge_popW S rfl rfl (gea_cons (ge_lst (gea_ev (ev_cons (ev_var rfl) (ev_cons (ev_var rfl) ev_nil)) ⟨by simp, gea_nil ⟨_, .inr ⟨r, va, vb, rfl, ha.wf, hb.wf, hns, rfl⟩, gea_nil ⟨binS r va vb, H, W', m.op, rfl, rfl, by omega, ?_⟩⟩⟩))))))))
            refine ⟨_, W'.length, by simp, Lq.rf _, binS r va vb :: H, W', rfl, ⟨_, _, rfl⟩, rfl, by simp only [List.length_cons]; omega, fun u hu => ?_, by simp only [List.length_cons]; omega, ?_⟩
            · rcases List.mem_cons.mp hu with rfl | hu
              · exact ha.bin hL r hb
              · exact hw u (by simp [hu])
            · rw [← he]
              show _ = if l ≤ r.val then workM binS l (binS r va vb :: H) W' else _
              rw [if_pos hlr]
        · rw [if_neg (by simp [sgR]; omega)]
          exact stop (work_ok (l := l) (W := .op r :: W') (by show r.val < l; omega) H)
/-! a value, a sign -/
theorem OkV.all {L : List Str} (hL : L.length ≤ 12) : (∀ r a b, OkV L a → OkV L b → OkV L (binS r a b)) ∧ ∀ v, OkV L v → OkV L (ngS v) := ⟨fun r _ _ ha hb => ha.bin hL r hb, fun _ h => h.ng hL⟩
theorem wf_ng (v : Sy) (h : wf v.1 v.2) : wf (ngS v).1 (ngS v).2 := said_wfG (Nat.le_trans (uniq_len _) h.1) h.2.1
def RAddV (C Sk fj : Addr) (ds : List D) (μ : Mu) (Φ : D → Mu → Prop) (X : Prop) : Prop := ∃ (a h w' : Addr) (m : MS Sy) (v : Sy) (L : List Str) (n : Nat), ds = [.ptr a, sD C v] ∧ μ = skM C Sk fj a h w' m ∧ MOk (OkV L) n m ∧ OkV L v ∧ n < 50000 ∧
  match step binS ngS m (.val v) with | some m' => Φ .non (skM C Sk fj a h w' m') | none => X
theorem ok_Stack_add_value {f : Addr} {fd : FuncData} (F : Fun K "add_value" "Stack.add_value" s_Stack_add_value f fd) (T : Tx K mg C) (S : SkT K Sk) (U_BadText : ErrN P w K mg base 1 CU "BadText") (c_Stack_close : C8.Met P w K mg base 6 Sk "close" (spM (RSkClose C Sk fj)) []) : FnOk P w K mg base (L2.CX P w) 7 f fd ["self", "value"] (spB CU (RAddV C Sk fj)) := by
  refine bad_ok F sc_Stack_add_value (fun ds μ Φ X h => ?_) (fun cdv A outer s H E hr => ?_)
  · obtain ⟨a, h, w', m, v, L, n, rfl, _⟩ := h; rfl
  · refine ⟨_, (pss_cons (ps_if (pt_not (pt_val (k_fld (K := K) rfl (pv 0) rfl))) (pss_one (ps_raise rfl takesX (pmk_N U_BadText hr (by omega) rfl))) pss_nil) (pss_cons (ps_expr (k_bm (K := K) rfl PySem.F.plainAttrs_list PySem.F.slot_list_append PySem.F.type_list_append mt_append (k_fld (K := K) rfl (pv 0) rfl) (pa_cons (pv 1) pa_nil))) (pss_one (ps_expr (C8.pe_mt0 c_Stack_close hr (by omega) (pv 0)))))), ?_⟩
    intro ds μ Φ X hh
    obtain ⟨a, h, w', ⟨H, W, o⟩, v, L, n, rfl, rfl, hk, hv, hn, q⟩ := hh
    have h1 := hk.hl
    refine gnb_seq (gnb_if (gt_not (gt_sk (ΦT := fun b μ' => if (!b) = true then _ else _) rfl (b := o) (et_B (ev_fld (ev_var rfl) S.cl S.nO rfl)) ?_)))
    cases o with
    | false =>
      rw [if_pos (show (!false) = true from rfl)]
      exact gnb_raise q
    | true =>
      rw [if_neg (by simp)]
      refine gnb_next (gnb_seq (gnb_gs (gs_drop (ge_push S rfl (by show H.length < _; dsimp only at h1; omega) (gea_ev (ev_cons (ev_var rfl) ev_nil) ⟨v, H, W, true, rfl, rfl, by dsimp only at h1; omega, ?_⟩)))))
      refine gnb_gs (gs_drop (ge_methO (ge_ev (ev_var rfl) ⟨a, 0, _, rfl, rfl, rfl, gea_nil ⟨[], _, rfl, a, h, w', ⟨v :: H, W, true⟩, rfl, rfl, by simp, fun u hu => ?_, wf_ng, by simp only [List.length_cons]; dsimp only at h1; omega, q⟩⟩)))
      rcases List.mem_cons.mp hu with rfl | hu
      · exact hv.wf
      · exact (hk.okv u hu).wf
/-- a sign's token -/
inductive Sgn : Tk Sy → Str → Prop
  | op (r : _root_.Fin 3) : Sgn (.op r) (opW r)
  | neg : Sgn .neg "~"
  | lp : Sgn .lp "("
  | rp : Sgn .rp ")"
def isCl : Tk Sy → Bool
  | .op _ => true
  | .rp => true
  | _ => false
def rkT : Tk Sy → Option Int
  | .op r => some ((r.val : Nat) : Int)
  | _ => none
theorem Sgn.facts {t : Tk Sy} {s : Str} (h : Sgn t s) : PyData.strOk s = true ∧ (∃ c, s = sg c) ∧ valD rkD (.inr s) = (rkT t).map D.int ∧ (((rkT t).isSome || decide (s = (")" : Str))) = isCl t) := by
  cases h with
  | op r => match r with
    | 0 => exact ⟨by decide +kernel, ⟨124, by decide +kernel⟩, rfl, rfl⟩
    | 1 => exact ⟨by decide +kernel, ⟨94, by decide +kernel⟩, rfl, rfl⟩
    | 2 => exact ⟨by decide +kernel, ⟨38, by decide +kernel⟩, rfl, rfl⟩
  | neg => exact ⟨by decide +kernel, ⟨126, by decide +kernel⟩, rfl, by decide +kernel⟩
  | lp => exact ⟨by decide +kernel, ⟨40, by decide +kernel⟩, rfl, by decide +kernel⟩
  | rp => exact ⟨by decide +kernel, ⟨41, by decide +kernel⟩, rfl, by decide +kernel⟩
def RAddS (C Sk fj : Addr) (ds : List D) (μ : Mu) (Φ : D → Mu → Prop) (X : Prop) : Prop := ∃ (a h w' : Addr) (m : MS Sy) (t : Tk Sy) (s : Str) (L : List Str) (n : Nat), ds = [.ptr a, .str s] ∧ Sgn t s ∧ μ = skM C Sk fj a h w' m ∧ MOk (OkV L) n m ∧ L.length ≤ 12 ∧ n < 50000 ∧
  match step binS ngS m t with | some m' => Φ .non (skM C Sk fj a h w' m') | none => X
theorem ok_Stack_add_sign {f : Addr} {fd : FuncData} (F : Fun K "add_sign" "Stack.add_sign" s_Stack_add_sign f fd) (T : Tx K mg C) (S : SkT K Sk) (F_makes : FnR P w K mg base CX0 5 fj (spP (RJoined C))) (kp_makes : PySem.W.keepIn K (.ref fj) = true) (U_BadText : ErrN P w K mg base 1 CU "BadText") (c_Stack_close : C8.Met P w K mg base 6 Sk "close" (spM (RSkClose C Sk fj)) []) (c_Stack_work : C8.Met P w K mg base 6 Sk "work" (spM (RSkWork C Sk fj)) []) : FnOk P w K mg base (L2.CX P w) 7 f fd ["self", "sign"] (spB CU (RAddS C Sk fj)) := by
  refine bad_ok F sc_Stack_add_sign (fun ds μ Φ X h => ?_) (fun cdv A outer s H E hr => ?_)
  · obtain ⟨a, h, w', m, t, s, L, n, rfl, _⟩ := h; rfl
  · refine ⟨_, (pss_cons (ps_if (pt_cmpR (k_eq (K := K) rfl hr) (k_fld (K := K) rfl (pv 0) rfl) (pe_or (pe_cmp (pc_din (hu_of hr) (pv 1) (k_fld (K := K) rfl (pv 0) rfl)) rfl) (pe_or (pe_cmpR op_in_sign (pv 1) (k_fld (K := K) rfl (pv 0) rfl) (by rfl)) (pe_one (pe_cmpR (k_eq (K := K) rfl hr) (pv 1) pe_str (nomark _))))) (nomark _)) (pss_one (ps_raise rfl takesX (pmk_N U_BadText hr (by omega) rfl))) pss_nil) (pss_one (ps_if (pt_cmpR op_in_sign (pv 1) (k_fld (K := K) rfl (pv 0) rfl) (by rfl)) (pss_one (ps_expr (k_bm (K := K) rfl PySem.F.plainAttrs_list PySem.F.slot_list_append PySem.F.type_list_append mt_append (k_fld (K := K) rfl (pv 0) rfl) (pa_cons (pe_fcall (K := K) rfl (pv 0) F_makes kp_makes (hr.mono (by omega)) pass0 (pa_cons (pv 1) (pa_cons (pe_lst (pa_cons (pe_bm0 PySem.F.plainAttrs_list PySem.F.slot_list_pop PySem.F.type_list_pop mt_pop (k_fld (K := K) rfl (pv 0) rfl)) pa_nil)) pa_nil))) pa_nil)))) (pss_one (ps_if (pt_cmp (pc_din (hu_of hr) (pv 1) (k_fld (K := K) rfl (pv 0) rfl))) (pss_cons (ps_expr (C8.pe_mt c_Stack_work hr (by omega) (pv 0) (pa_cons (pe_dget (hu_of hr) (k_fld (K := K) rfl (pv 0) rfl) (pv 1) (fun _ _ => rfl)) pa_nil))) (pss_cons (ps_expr (k_bm (K := K) rfl PySem.F.plainAttrs_list PySem.F.slot_list_append PySem.F.type_list_append mt_append (k_fld (K := K) rfl (pv 0) rfl) (pa_cons (pv 1) pa_nil))) (pss_one (ps_fld (pv 0) pe_bl rfl)))) (pss_one (ps_if (pt_cmpR (k_eq (K := K) rfl hr) (pv 1) pe_str (nomark _)) (pss_cons (ps_expr (C8.pe_mt c_Stack_work hr (by omega) (pv 0) (pa_cons pe_int pa_nil))) (pss_cons (ps_if (pt_cmpR (k_eq (K := K) rfl hr) (k_fld (K := K) rfl (pv 0) rfl) (pe_lst pa_nil) (nomark _)) (pss_one (ps_raise rfl takesX (pmk_N U_BadText hr (by omega) rfl))) pss_nil) (pss_cons (ps_expr (pe_bm0 PySem.F.plainAttrs_list PySem.F.slot_list_pop PySem.F.type_list_pop mt_pop (k_fld (K := K) rfl (pv 0) rfl))) (pss_one (ps_expr (C8.pe_mt0 c_Stack_close hr (by omega) (pv 0))))))) (pss_one (ps_expr (k_bm (K := K) rfl PySem.F.plainAttrs_list PySem.F.slot_list_append PySem.F.type_list_append mt_append (k_fld (K := K) rfl (pv 0) rfl) (pa_cons (pv 1) pa_nil))))))))))), ?_⟩
    intro ds μ Φ X hh
    obtain ⟨a, h, w', ⟨H, W, o⟩, t, s, L, n, rfl, hst, rfl, hk, hL, hn, q⟩ := hh
    obtain ⟨hso, ⟨c, hc⟩, hrk, hcl⟩ := hst.facts
    have h1 := hk.hl
    have h2 := hk.wl
    have h3 := hk.cnt
    have h4 := hk.okv
    dsimp only at h1 h2 h3 h4
    have esig : ∀ ρ : Rho, ρ[1]? = some (some (.str s)) → Ev (tVar 1) ρ (.str s) := fun ρ h => ev_var h
    have eins : ∀ ρ : Rho, ρ[0]? = some (some (.ins Sk (skF fj (hD C H) (wD W) o))) → Ev (tFld K (tVar 0) "ranks") ρ (.dK rkD) := fun ρ h => ev_fld (ev_var h) S.cl S.nR rfl
    have erk : ∀ ρ : Rho, ρ[0]? = some (some (.ins Sk (skF fj (hD C H) (wD W) o))) → ρ[1]? = some (some (.str s)) → Ev (tDIn (tVar 1) (tFld K (tVar 0) "ranks")) ρ (.bl (rkT t).isSome) := fun ρ h h' => by
      have := ev_sin (esig _ h') (eins _ h)
      rw [hrk] at this
      cases hr : rkT t with
      | none => rw [hr] at this; exact this
      | some k => rw [hr] at this; exact this
    have esuf : ∀ ρ : Rho, ρ[0]? = some (some (.ins Sk (skF fj (hD C H) (wD W) o))) → ρ[1]? = some (some (.str s)) → Ev (tOp (fun x y H Q => ∃ (c : Nat) (z : Str), x = .str ⟨#[c]⟩ ∧ y = .str z ∧ Q (.bl (decide (c ∈ z.cps.toList))) H) (tVar 1) (tFld K (tVar 0) "suffix")) ρ (.bl false) := fun ρ h h' => by
      have : decide (c ∈ cpl ("" : Str)) = false := by
        have : cpl ("" : Str) = [] := by decide +kernel
        rw [this]; simp
      rw [← this]
      exact ev_op (hc ▸ esig _ h') (ev_fld (ev_var h) S.cl S.nS rfl) rd_inSg
    have erp : ∀ ρ : Rho, ρ[1]? = some (some (.str s)) → Ev (tOp (rEqD K) (tVar 1) (tC (.str ")"))) ρ (.bl (decide (s = (")" : Str)))) := fun ρ h => by
      rw [← eqD_str]; exact ev_op (esig _ h) ev_str (rd_eq (ok_str hso) (ok_str sOk_rp))
    refine gnb_seq (gnb_if (gt_sk rfl (b := decide (o = isCl t)) ?_ ?_))
    · rw [← hcl]
      have e : decide (o = ((rkT t).isSome || decide (s = (")" : Str)))) = eqD (.bl o) (.bl ((rkT t).isSome || (false || decide (s = (")" : Str))))) := by
        rw [Bool.false_or]
        cases o <;> cases ((rkT t).isSome || decide (s = (")" : Str))) <;> rfl
      rw [e]
      exact et_test (ev_op (ev_fld (ev_var rfl) S.cl S.nO rfl) (ev_orV (erk _ rfl rfl) fun _ => ev_orV (esuf _ rfl rfl) fun _ => erp _ rfl) (rd_eq ok_bl ok_bl))
    by_cases hoc : o = isCl t
    · rw [if_pos (by simpa using hoc)]
      refine gnb_raise ?_
      have : step binS ngS ⟨H, W, o⟩ t = none := by
        subst hoc
        cases hst <;> rfl
      rw [this] at q; exact q
    · rw [if_neg (by simpa using hoc)]
      refine gnb_next (gnb_if (gt_sk rfl (b := false) (et_test (esuf _ rfl rfl)) ?_))
      rw [if_neg Bool.false_ne_true]
      have push : ∀ {m : MS Sy} {s' : Sg} {N R}, sgW s' = s → m.W.length < 90000 → N [some (.ptr a), some (.str s)] (skM C Sk fj a h w' ⟨m.H, s' :: m.W, m.op⟩) → GNB (tDrop (tBM K "list" rAppend (tFld K (tVar 0) "waiting") (tCons (tVar 1) tNil))) [some (.ptr a), some (.str s)] (skM C Sk fj a h w' m) N R X E CU := fun {m s' N R} es hl hN => by
        subst es
        refine gnb_gs (gs_drop (ge_append (ge_wait S rfl ⟨w', 2, _, rfl, rfl, gea_ev (ev_cons (ev_var rfl) ev_nil) ⟨m.W.reverse.map (fun s => Du.D.str (sgW s)), _, rfl, rfl, by rw [List.length_map, List.length_reverse]; omega, ?_⟩⟩)))
        show N _ [(a, _), (h, _), (w', .lst (m.W.reverse.map (fun s => Du.D.str (sgW s)) ++ [.str (sgW s')]))]
        rw [← wD_cons]; exact hN
      have work : ∀ {l : Nat} {te : TE} {N R}, o = false → Ev te [some (.ins Sk (skF fj (hD C H) (wD W) o)), some (.str s)] (.int l) → N [some (.ptr a), some (.str s)] (skM C Sk fj a h w' ⟨(workM binS l H W).1, (workM binS l H W).2, o⟩) → GNB (tDrop (tMeth Sk "work" (spM (RSkWork C Sk fj)) [] C8.E0 (tVar 0) (tCons te tNil))) [some (.ptr a), some (.str s)] (skM C Sk fj a h w' ⟨H, W, o⟩) N R X E CU := fun {l te N R} ho hl hN => by
        subst ho
        exact gnb_gs (gs_drop (ge_methO (ge_ev (ev_var rfl) ⟨a, 0, _, rfl, rfl, rfl, gea_cons (ge_nest (i := 0) rfl List.mem_cons_self un_sk hl rfl (gea_nil ⟨[], _, rfl, a, h, w', ⟨H, W, false⟩, l, L, rfl, rfl, h3, h4, hL, by show H.length < _; omega, hN⟩))⟩)))
      refine gnb_if (gt_sk rfl (b := (rkT t).isSome) (et_B (erk _ rfl rfl)) ?_)
      cases hst with
      | op r =>
        rw [if_pos (show (rkT (.op r)).isSome = true from rfl)]
        have ho : o = false := by cases o; rfl; exact absurd rfl hoc
        have hwl := work_len (bin := binS) (l := r.val) W H (by rw [h3, ho]; rfl)
        refine gnb_seq (work ho (ev_kget (eins _ rfl) (esig _ rfl) (z := .int (r.val : Nat)) (by rw [hrk]; rfl)) (gnb_seq (push (s' := .op r) rfl (by have := hwl.2.2.1; show (workM binS r.val H W).2.length < _; omega) (gnb_gs (gs_open S rfl ev_bl ?_)))))
        subst ho; exact q
      | neg =>
        rw [if_neg (by simp [rkT])]
        have ho : o = true := by cases o; exact absurd rfl hoc; rfl
        refine gnb_if (gt_ev (et_test (erp _ rfl)) ?_)
        rw [if_neg (by decide +kernel)]
        subst ho
        exact push (s' := .neg) rfl (by show W.length < _; omega) q
      | lp =>
        rw [if_neg (by simp [rkT])]
        have ho : o = true := by cases o; exact absurd rfl hoc; rfl
        refine gnb_if (gt_ev (et_test (erp _ rfl)) ?_)
        rw [if_neg (by decide +kernel)]
        subst ho
        exact push (s' := .lp) rfl (by show W.length < _; omega) q
      | rp =>
        rw [if_neg (by simp [rkT])]
        have ho : o = false := by cases o; rfl; exact absurd rfl hoc
        subst ho
        refine gnb_if (gt_ev (et_test (erp _ rfl)) ?_)
        rw [if_pos (by decide +kernel)]
        have hwl := work_len (bin := binS) (l := 0) W H h3
        have hwa := work_all (bin := binS) (p := OkV L) (OkV.all hL).1 (l := 0) W H h4
        refine gnb_seq (work (l := 0) rfl ev_int ?_)
        have q' : match (match (workM binS 0 H W).2 with
          | [] => none
          | _ :: W' => some (⟨(closeM ngS (workM binS 0 H W).1 W').1, (closeM ngS (workM binS 0 H W).1 W').2, false⟩ : MS Sy)) with | some m' => Φ .non (skM C Sk fj a h w' m') | none => X := q
        generalize (workM binS 0 H W).2 = W1 at *
        generalize (workM binS 0 H W).1 = H1 at *
        refine gnb_seq (gnb_if (gt_sk rfl (b := decide (W1 = [])) (by
          rw [← wD_nil]
          exact et_test (ev_op (ev_fld (ev_var rfl) S.cl S.nW rfl) (ev_lst ev_nil (by simp)) (rd_eq (okE_wD W1) ((okN_lst (n := 0) fun d hd => by cases hd).e (by decide))))) ?_))
        cases W1 with
        | nil => rw [if_pos (by simp)]; exact gnb_raise q'
        | cons s1 W2 =>
          rw [if_neg (by simp)]
          refine gnb_next (gnb_seq (gnb_gs (gs_drop (ge_popW S rfl rfl ?_))))
          refine gnb_gs (gs_drop (ge_methO (ge_ev (ev_var rfl) ⟨a, 0, _, rfl, rfl, rfl, gea_nil ⟨[], _, rfl, a, h, w', ⟨H1, W2, false⟩, rfl, rfl, fun z => ?_, fun u hu => (hwa u hu).wf, wf_ng, by have := hwl.2.1; show H1.length < _; omega, q'⟩⟩)))
          have z : H1 = [] := z
          rw [z] at hwl
          exact absurd hwl.1 (by simp)
/-! the result -/
def RSkRes (C Sk fj : Addr) (ds : List D) (μ : Mu) (Φ : D → Mu → Prop) (X : Prop) : Prop := ∃ (a h w' : Addr) (m : MS Sy) (L : List Str) (n : Nat), ds = [.ptr a] ∧ μ = skM C Sk fj a h w' m ∧ MOk (OkV L) n m ∧ L.length ≤ 12 ∧ n < 50000 ∧
  match fin binS m with | some v => ∀ m', Φ (sD C v) (skM C Sk fj a h w' m') | none => X
theorem ok_Stack_result {f : Addr} {fd : FuncData} (F : Fun K "result" "Stack.result" s_Stack_result f fd) (T : Tx K mg C) (S : SkT K Sk) (U_BadText : ErrN P w K mg base 1 CU "BadText") (c_Stack_work : C8.Met P w K mg base 6 Sk "work" (spM (RSkWork C Sk fj)) []) : FnOk P w K mg base (L2.CX P w) 7 f fd ["self"] (spB CU (RSkRes C Sk fj)) := by
  refine bad_ok F sc_Stack_result (fun ds μ Φ X h => ?_) (fun cdv A outer s H E hr => ?_)
  · obtain ⟨a, h, w', m, L, n, rfl, _⟩ := h; rfl
  · refine ⟨_, (pss_cons (ps_if (pt_val (k_fld (K := K) rfl (pv 0) rfl)) (pss_one (ps_raise rfl takesX (pmk_N U_BadText hr (by omega) rfl))) pss_nil) (pss_cons (ps_expr (C8.pe_mt c_Stack_work hr (by omega) (pv 0) (pa_cons pe_int pa_nil))) (pss_cons (ps_if (pt_cmpR (k_ne (K := K) rfl hr) (k_fld (K := K) rfl (pv 0) rfl) (pe_lst pa_nil) (nomark _)) (pss_one (ps_raise rfl takesX (pmk_N U_BadText hr (by omega) rfl))) pss_nil) (pss_one (ps_ret (pe_ix (k_ix (K := K) rfl) (k_fld (K := K) rfl (pv 0) rfl) pe_int (fun _ _ => rfl))))))), ?_⟩
    intro ds μ Φ X hh
    obtain ⟨a, h, w', ⟨H, W, o⟩, L, n, rfl, rfl, hk, hL, hn, q⟩ := hh
    have h1 := hk.hl
    have h3 := hk.cnt
    have h4 := hk.okv
    dsimp only at h1 h3 h4
    refine gnb_seq (gnb_if (gt_sk rfl (b := o) (et_B (ev_fld (ev_var rfl) S.cl S.nO rfl)) ?_))
    cases o with
    | true => rw [if_pos rfl]; exact gnb_raise q
    | false =>
      rw [if_neg Bool.false_ne_true]
      have hwl := work_len (bin := binS) (l := 0) W H h3
      refine gnb_next (gnb_seq (gnb_gs (gs_drop (ge_methO (ge_ev (ev_var rfl) ⟨a, 0, _, rfl, rfl, rfl, gea_cons (ge_ev ev_int (gea_nil ⟨[], _, rfl, a, h, w', ⟨H, W, false⟩, 0, L, rfl, rfl, h3, h4, hL, by show H.length < _; omega, ?_⟩))⟩)))))
      have q' : match (match (workM binS 0 H W).2 with
          | [] => (workM binS 0 H W).1.getLast?
          | _ => none) with | some v => ∀ m', Φ (sD C v) (skM C Sk fj a h w' m') | none => X := q
      dsimp only
      generalize (workM binS 0 H W).2 = W1 at *
      generalize (workM binS 0 H W).1 = H1 at *
      refine gnb_seq (gnb_if (gt_sk rfl (b := !decide (W1 = [])) (by
        rw [← wD_nil]
        exact et_test (ev_op (ev_fld (ev_var rfl) S.cl S.nW rfl) (ev_lst ev_nil (by simp)) (rd_ne (okE_wD W1) ((okN_lst (n := 0) fun d hd => by cases hd).e (by decide))))) ?_))
      cases W1 with
      | cons s1 W2 => rw [if_pos (by simp)]; exact gnb_raise q'
      | nil =>
        rw [if_neg (by simp)]
        have hH : H1.length = 1 := hwl.1
        match H1, hH with
        | [v], _ =>
          refine gnb_next (gnb_gs (gs_ret (ge_ixO (ge_held S rfl (ge_ev ev_int ⟨h, 1, [sD C v], 0, sD C v, rfl, rfl, rfl, rfl, q' _⟩)))))
end
end Du
namespace Du
open PySem L2 PySem.Spec PyProof.Rows LamX
/-! several clauses 'except x as n' -/
def asEnds (i : Nat) (D : Ends) : Ends := { nx := fun σ' H' => D.nx (σ'.set i none) H', rt := D.rt, bk := fun σ' H' => D.bk (σ'.set i none) H', ct := fun σ' H' => D.ct (σ'.set i none) H' }
def wManyAs (K : PySem.W.Frag) (i : Nat) (Wout : WX) (D : Ends) : List (Value × (Addr → Value → Option Addr → TS)) → WX
  | [] => Wout
  | (c, ts) :: r => fun cls d σ H => ∃ b, PySem.W.exmOne K cls c = some b ∧ (b = true → i < σ.length → ∀ a, H a = none → ts a cls d (asEnds i D) (σ.set i (some (.ref a))) H) ∧ (b = false → wManyAs K i Wout D r cls d σ H)
inductive HdsAs (X : Cx) (n : Str) : List ExceptHandler → List (Value × (Addr → Value → Option Addr → TS)) → Prop
  | nil : HdsAs X n [] []
  | cons {x : Str} {c : Value} {ts : Addr → Value → Option Addr → TS} {b₀ : Stmt} {suite : List Stmt} {np pos' : Pos} {hds : List ExceptHandler} {l : List (Value × (Addr → Value → Option Addr → TS))} (hc : Names X x c)
      (hsu : ∀ (a : Addr) (oe : Obj) (cls : Value) (d : Option Addr) (pn : List (Addr × Obj)), Zc cls d oe → (∃ vs, oe.data = .fields vs) → PSs (X.suite a ((a, oe) :: pn)) (b₀ :: suite) (ts a cls d)) (r : HdsAs X n hds l) :
      HdsAs X n (.ExceptHandler (some (.Name x np)) (some n) (b₀ :: suite) pos' :: hds) ((c, ts) :: l)
section
variable {X : Cx} {n : Str} {i : Nat} {body : List Stmt} {h₀ : ExceptHandler} {hds : List ExceptHandler} {l : List (Value × (Addr → Value → Option Addr → TS))} {pos : Pos} {tb : WX → TS} {Wout : WX}
end
end Du
namespace Du
open PySem L2 PySem.Spec PyProof.Rows LamX
/-! errors that bear one field -/
def spInF (C : Addr) (f : Str) : Sp := fun vs H Q _ => ∃ (a : Addr) (v : V), vs = [.ref a, v] ∧ H a = some (exo a C none) ∧ ∀ dx, H dx = none → dx ≠ a → Q .non (upd (upd H dx (exd dx [(f, v)])) a (exo a C (some dx)))
section
variable (P : Program) (w : World) (K : PySem.W.Frag) (mg : Str → Option Value) (base : Heap) (k : Nat) (C : Addr)
structure ErrF (x f : Str) : Prop where
  oex : OexC K C
  g : mg x = some (.ref C)
  xf : XfC K C
  no : PySem.W.findIn K (.ref C) f = some none
  init : ∃ (fa : Addr) (fd : FuncData) (ps : List Str), PySem.W.findIn K (.ref C) "__init__" = some (some (.ref fa)) ∧ PySem.W.typeIn K (.ref fa) = some (.type "function") ∧ FnOk P w K mg base L2.CX0 k fa fd ps (spInF C f) ∧ L2.Binds K fd ps []
structure CalX (x : Str) (sp : Sp) : Prop where
  ex : ∃ (f : Addr) (fd : FuncData) (ps : List Str), FnOk P w K mg base (L2.CX P w) k f fd ps sp ∧ mg x = some (.ref f) ∧ PySem.W.keepIn K (.ref f) = true ∧ L2.Binds K fd ps []
structure OSmX (m : Str) (sp : Sp) : Prop where
  ex : ∃ mc p g, ClX.CRead K C mc ∧ SMet K C mc m p g ∧ FnR P w K mg base (L2.CX P w) k g sp
end
section
variable {X : Cx} {E : XK} {k j : Nat} {C : Addr} {sp : Sp} {o e : Expr} {es : List Expr} {m x f : Str} {p pos apos : Pos} {te : TE} {ta : TE} {t : TA} {pl : Sem Bool}
theorem pe_cX (c : CalX X.prog X.w X.K X.mg X.base k x sp) (hr : Room j X.A) (hk : k ≤ j) (hx : Passes (L2.CX X.prog X.w) X E) (hg : Gl X x) (ha : PA X (e :: es) t)
    (hdb : (x == ("__debug__" : Str)) = false := by decide) (he : starEach (e :: es) X.env = (false, eval e X.env) :: starEach es X.env := by rfl) (hpl : (backTo pos (starEach es X.env)).any (·.1) = false := by rfl) :
    PE X (.Call (.Name x p) (e :: es) [] pos) (tCall sp [] E t) := by
  obtain ⟨f, fd, ps, F, hm, kp, b⟩ := c.ex
  exact pe_call F (hr.mono hk) hg hm kp b .nil hx ha hdb he hpl
end
section
variable {X : Cx} {A : Around} {outer : List Env} {s : Shared} {H : Hp} {E : XK} {scope : Scope} {fz c' : Addr} {k j : Nat} {C : Addr} {sp : Sp} {o e : Expr} {es : List Expr} {m : Str} {pos apos : Pos} {ta : TE} {t : TA} {pl : Sem Bool}
end
/-! in data: told, or an error that bears one datum -/
abbrev ErK := Addr → Str → D → Mu → Prop
def XGo (E : XK) (Ψ : ErK) (Z : Addr → Prop) (H : Hp) (μ : Mu) : Prop := ∀ (Z' : Addr → Prop) (H' : Hp) (dx : Addr) (v : V) (C : Addr) (f : Str) (d : D) (μ' : Mu), Ψ C f d μ' → Nz Z H μ Z' H' μ' → H' dx = some (.xd [(f, v)]) → Rep Z' H' v d → E (.ref C) (some dx) H'
theorem XGo.tr {E : XK} {Ψ : ErK} {Z Z1 : Addr → Prop} {H H1 : Hp} {μ μ1 : Mu} (x : XGo E Ψ Z H μ) (n : Nz Z H μ Z1 H1 μ1) : XGo E Ψ Z1 H1 μ1 := fun Z' H' dx v C f d μ' h n' => x Z' H' dx v C f d μ' h (n.tr n')
theorem XGo.imp {E : XK} {Ψ Ψ' : ErK} {Z : Addr → Prop} {H : Hp} {μ : Mu} (x : XGo E Ψ Z H μ) (h : ∀ C f d μ', Ψ' C f d μ' → Ψ C f d μ') : XGo E Ψ' Z H μ := fun Z' H' dx v C f d μ' hh => x Z' H' dx v C f d μ' (h _ _ _ _ hh)
def GEX (te : TE) (ρ : Rho) (μ : Mu) (Φ : D → Mu → Prop) (Ψ : ErK) (E : XK) : Prop := ∀ (Z : Addr → Prop) (σ : L2.St) (H : Hp) (Q : VK), okZ Z H → SRep Z H σ ρ → Mem Z H μ → (∀ v H' d μ', Φ d μ' → Nxt Z H μ H' μ' → Rep Z H' v d → Q v H') → XGo E Ψ Z H μ → te σ H Q
def GSX (ts : TS) (ρ : Rho) (μ : Mu) (N : Rho → Mu → Prop) (R : D → Mu → Prop) (Ψ : ErK) (E : XK) : Prop := ∀ (Z : Addr → Prop) (σ : L2.St) (H : Hp) (D : Ends), okZ Z H → SRep Z H σ ρ → Mem Z H μ →
  (∀ σ' H' ρ' μ' Z', N ρ' μ' → Nz Z H μ Z' H' μ' → SRep Z' H' σ' ρ' → D.nx σ' H') → (∀ v H' d μ' Z', R d μ' → Nz Z H μ Z' H' μ' → Rep Z' H' v d → D.rt v H') → XGo E Ψ Z H μ → ts D σ H
/-- what a def answers: a datum, or an error with a datum -/
def spF (R : List D → D → Prop) (Rx : List D → Addr → Str → D → Prop) : Sp := fun vs H Q E => ∃ (Z : Addr → Prop) (ds : List D), okZ Z H ∧ Reps Z H vs ds ∧
  ((∃ d, R ds d ∧ ∀ v H', Ex H H' → Rep Z H' v d → Q v H') ∨ ∃ C f d, Rx ds C f d ∧ ∀ H' dx v, Ex H H' → H' dx = some (.xd [(f, v)]) → Rep Z H' v d → E (.ref C) (some dx) H')
def spXF (Rx : List D → Addr → Str → D → Prop) : Sp := fun vs H Q E => ∃ (Z : Addr → Prop) (ds : List D), okZ Z H ∧ Reps Z H vs ds ∧ ∃ C f d, Rx ds C f d ∧ ∀ H' dx v, Ex H H' → H' dx = some (.xd [(f, v)]) → Rep Z H' v d → E (.ref C) (some dx) H'
section
variable {ρ : Rho} {μ : Mu} {Φ : D → Mu → Prop} {Ψ : ErK} {E : XK} {te ta tb : TE} {ts us : TS} {N : Rho → Mu → Prop} {R : D → Mu → Prop} {C : Addr} {f : Str}
theorem GEX.mono {Φ' : D → Mu → Prop} (h : GEX te ρ μ Φ Ψ E) (hp : ∀ d μ, Φ d μ → Φ' d μ) : GEX te ρ μ Φ' Ψ E := fun Z σ H Q k s m c x => h Z σ H Q k s m (fun v H' d μ' q => c v H' d μ' (hp _ _ q)) x
section
variable {R0 : List D → D → Prop} {Rx : List D → Addr → Str → D → Prop} {t : TA}
end
end
/-! defs -/
section
variable {P : Program} {w : World} {K : PySem.W.Frag} {mg : Str → Option Value} {base : Heap} {x qual : Str} {stm : Stmt} {fa : Addr} {fd : FuncData} {N ps : List Str} {k : Nat} {R : List D → D → Prop} {Rx : List D → Addr → Str → D → Prop}
end
/-! f(lambda: ..), where f hands back what was borne by the error -/
def HsT (K : PySem.W.Frag) : List (Addr × Str × Str) → Value → Option Addr → Hp → VK → Prop
  | [], _, _, _, _ => False
  | (C, f, tag) :: l, cls, d, H, Q => ∃ b, PySem.W.exmOne K cls (.ref C) = some b ∧ (b = true → cls = .ref C ∧ ∃ dd fs v, d = some dd ∧ H dd = some (.xd fs) ∧ fs.lookup f = some v ∧ ∀ p, H p = none → Q (.ref p) (upd H p (.tup [.str tag, v]))) ∧ (b = false → HsT K l cls d H Q)
def TTr (K : PySem.W.Frag) (l : List (Addr × Str × Str)) (told : Str) (z : Int) : (XK → Hp → VK → Prop) → Hp → VK → Prop := fun tl H Q =>
  tl (fun cls d H' => HsT K l cls d H' Q) H fun _ H' => [V.str told, V.int z].length ≤ sizeLine ∧ ∀ p, H' p = none → Q (.ref p) (upd H' p (.tup [.str told, .int z]))
def tsC (i : Nat) (c : Addr × Str × Str) : Addr → Value → Option Addr → TS := fun a cls d => tRet (tTup (tCons (tC (.str c.2.2)) (tCons (tXf a cls d c.1 c.2.1 (tVar i)) tNil)))
/-- the clause that takes errors of the class C is this one -/
def Hits (K : PySem.W.Frag) : List (Addr × Str × Str) → Addr → Str → Str → Prop
  | [], _, _, _ => False
  | (C', f', tag') :: l, C, f, tag => (C' = C ∧ f' = f ∧ tag' = tag ∧ PySem.W.exmOne K (.ref C) (.ref C) = some true) ∨ (PySem.W.exmOne K (.ref C) (.ref C') = some false ∧ Hits K l C f tag)
end Du
namespace Du
open PySem L2 Pz
/-! read_say -/
def tkW (s : Str) : Tk Sy := if s = ("0" : Str) then .val ([], []) else if s = ("1" : Str) then .val ([], [[]]) else if s = ("~" : Str) then .neg else if s = ("&" : Str) then .op 2 else if s = ("^" : Str) then .op 1 else if s = ("|" : Str) then .op 0 else
  if s = ("(" : Str) then .lp else if s = (")" : Str) then .rp else .val ([s], [[s]])
def readW (ws : List Str) : Option Sy := run binS ngS ⟨[], [], true⟩ (ws.map tkW)
def readF (s : Str) : Option Sy := (tokS inSay s).bind readW
theorem nm_strOk {s : Str} (h : nmOk s = true) : PyData.strOk s = true := strOk_of fun c hc => by
  unfold nmOk at h
  have h2 := (Bool.and_eq_true _ _).mp h |>.2
  have h3 := List.all_eq_true.mp h2 (decide (c ∈ letters.cps.toList)) (List.mem_map.mpr ⟨c, hc, rfl⟩)
  have h4 : c ∈ letters.cps.toList := of_decide_eq_true h3
  have : ∀ x ∈ letters.cps.toList, x < 0x110000 := by decide +kernel
  exact this c h4
/-- a word of a text: a name, or one of the signs -/
theorem tok_word {q : Nat → Bool} : ∀ {n : Nat} {cs : List Nat} {ws : List Str}, toks q n cs = some ws → ∀ w ∈ ws, (∃ c, q c = true ∧ w = sg c) ∨ nmOk w = true := by
  intro n
  induction n with
  | zero => intro cs ws h w hw; cases h; cases hw
  | succ n ih =>
    intro cs ws h w hw
    cases cs with
    | nil => cases h; cases hw
    | cons c cs =>
      rw [toks_cons] at h
      cases hL : isL c with
      | true =>
        rw [hL, if_pos rfl] at h
        by_cases h8 : 8 < (cs.takeWhile isL).length + 1
        · rw [if_pos h8] at h; cases h
        · rw [if_neg h8] at h
          obtain ⟨r, hr, rfl⟩ := Option.map_eq_some_iff.mp h
          rcases List.mem_cons.mp hw with rfl | hw
          · right
            unfold nmOk
            have hl : (⟨(c :: cs.takeWhile isL).toArray⟩ : Str).length = (cs.takeWhile isL).length + 1 := by simp [Str.length]
            rw [hl, Bool.and_eq_true, Bool.and_eq_true]
            refine ⟨⟨decide_eq_true (by omega), decide_eq_true (by omega)⟩, List.all_eq_true.mpr fun b hb => ?_⟩
            obtain ⟨d, hd, rfl⟩ := List.mem_map.mp hb
            have hd : d ∈ c :: cs.takeWhile isL := hd
            rcases List.mem_cons.mp hd with rfl | hd
            · exact hL
            · exact take_all (p := isL) hd
          · exact ih hr w hw
      | false =>
        rw [hL, if_neg Bool.false_ne_true] at h
        cases hq : q c with
        | true =>
          rw [hq, if_pos rfl] at h
          obtain ⟨r, hr, rfl⟩ := Option.map_eq_some_iff.mp h
          rcases List.mem_cons.mp hw with rfl | hw
          · exact .inl ⟨c, hq, rfl⟩
          · exact ih hr w hw
        | false =>
          rw [hq, if_neg Bool.false_ne_true] at h
          by_cases h3 : c = 32
          · rw [if_pos h3] at h; exact ih h w hw
          · rw [if_neg h3] at h; cases h
theorem toks_len {q : Nat → Bool} : ∀ {n : Nat} {cs : List Nat} {ws : List Str}, toks q n cs = some ws → ws.length ≤ n := by
  intro n
  induction n with
  | zero => intro cs ws h; cases h; exact Nat.le_refl _
  | succ n ih =>
    intro cs ws h
    cases cs with
    | nil => cases h; exact Nat.zero_le _
    | cons c cs =>
      rw [toks_cons] at h
      by_cases hL : isL c = true
      · rw [if_pos hL] at h
        by_cases h8 : 8 < (cs.takeWhile isL).length + 1
        · rw [if_pos h8] at h; cases h
        · rw [if_neg h8] at h
          obtain ⟨r, hr, rfl⟩ := Option.map_eq_some_iff.mp h
          have := ih hr
          simp only [List.length_cons]; omega
      · rw [if_neg hL] at h
        by_cases hq : q c = true
        · rw [if_pos hq] at h
          obtain ⟨r, hr, rfl⟩ := Option.map_eq_some_iff.mp h
          have := ih hr
          simp only [List.length_cons]; omega
        · rw [if_neg hq] at h
          by_cases h3 : c = 32
          · rw [if_pos h3] at h; have := ih h; omega
          · rw [if_neg h3] at h; cases h
def signs8 : List Str := ["0", "1", "~", "&", "^", "|", "(", ")"]
theorem nm_none : ∀ s ∈ signs8, nmOk s = false := by decide +kernel
theorem say_word {s : Str} {ws : List Str} (h : tokS inSay s = some ws) (w : Str) (hw : w ∈ ws) : w ∈ signs8 ∨ (nmOk w = true ∧ ¬ w ∈ signs8) := by
  rcases tok_word h w hw with ⟨c, hc, rfl⟩ | hn
  · left
    have h1 : c ∈ cpl sayS := of_decide_eq_true hc
    have : ∀ x ∈ cpl sayS, sg x ∈ signs8 := by decide +kernel
    exact this c h1
  · exact .inr ⟨hn, fun hs => by rw [nm_none w hs] at hn; cases hn⟩
theorem tk_name {w : Str} (h : ¬ w ∈ signs8) : tkW w = .val ([w], [[w]]) := by
  unfold signs8 at h
  simp only [List.mem_cons, List.not_mem_nil, or_false, not_or] at h
  obtain ⟨h1, h2, h3, h4, h5, h6, h7, h8⟩ := h
  unfold tkW
  rw [if_neg h1, if_neg h2, if_neg h3, if_neg h4, if_neg h5, if_neg h6, if_neg h7, if_neg h8]
theorem tk_sign : ∀ {w : Str}, w ∈ signs8 → ¬ w ∈ (["0", "1"] : List Str) → Sgn (tkW w) w := by
  intro w h hn
  unfold signs8 at h
  simp only [List.mem_cons, List.not_mem_nil, or_false] at h hn
  have e3 : tkW "~" = .neg := by unfold tkW; rw [if_neg (by decide +kernel), if_neg (by decide +kernel), if_pos rfl]
  have e4 : tkW "&" = .op 2 := by unfold tkW; rw [if_neg (by decide +kernel), if_neg (by decide +kernel), if_neg (by decide +kernel), if_pos rfl]
  have e5 : tkW "^" = .op 1 := by unfold tkW; rw [if_neg (by decide +kernel), if_neg (by decide +kernel), if_neg (by decide +kernel), if_neg (by decide +kernel), if_pos rfl]
  have e6 : tkW "|" = .op 0 := by unfold tkW; rw [if_neg (by decide +kernel), if_neg (by decide +kernel), if_neg (by decide +kernel), if_neg (by decide +kernel), if_neg (by decide +kernel), if_pos rfl]
  have e7 : tkW "(" = .lp := by unfold tkW; rw [if_neg (by decide +kernel), if_neg (by decide +kernel), if_neg (by decide +kernel), if_neg (by decide +kernel), if_neg (by decide +kernel), if_neg (by decide +kernel), if_pos rfl]
  have e8 : tkW ")" = .rp := by unfold tkW; rw [if_neg (by decide +kernel), if_neg (by decide +kernel), if_neg (by decide +kernel), if_neg (by decide +kernel), if_neg (by decide +kernel), if_neg (by decide +kernel), if_neg (by decide +kernel), if_pos rfl]
  rcases h with rfl | rfl | rfl | rfl | rfl | rfl | rfl | rfl
  · exact absurd (.inl rfl) hn
  · exact absurd (.inr rfl) hn
  · rw [e3]; exact .neg
  · rw [e4]; exact .op 2
  · rw [e5]; exact .op 1
  · rw [e6]; exact .op 0
  · rw [e7]; exact .lp
  · rw [e8]; exact .rp
theorem tk_01 : tkW "0" = .val ([], []) ∧ tkW "1" = .val ([], [[]]) := ⟨by unfold tkW; rw [if_pos rfl], by unfold tkW; rw [if_neg (by decide +kernel), if_pos rfl]⟩
abbrev ks_SAY_RANKS : List (Str × Int) := rks
section
variable {P : Program} {w : World} {K : PySem.W.Frag} {mg : Str → Option Value} {base : Heap} {C CU Sk fj SR : Addr}
theorem isi_strT {d : Du.D} {t : String} (h : tyD d = some t) : PySem.W.kitOne K (.type t) (.type "str") = some (decide (t = "str")) := by
  cases d <;> simp only [tyD, Option.some.injEq, reduceCtorEq] at h <;> subst h <;> rfl
theorem ev_tyS {ρ : Rho} {n : String} : Ev (tC (.ty n)) ρ (.ty n) := fun _ _ H _ _ _ q => q _ H (Ex.rf H) (.ty n)
theorem rl_isiN {fs : List (Str × Du.D)} {T : String} (TX : Tx K mg C) (h : PySem.W.kitOne K (.ref C) (.type T) = some false) : RLD (rIsi K) [.ins C fs, .ty T] (.bl false) := fun Z H xs Q k r q => by
  cases r with
  | cons r rs => cases rs with
    | cons r' rs =>
      cases r'; cases rs
      cases r with
      | ins n h0 f => exact ⟨_, _, _, _, false, rfl, .ty T, .base (.ins h0 TX.cl TX.ic TX.isg TX.itk TX.imr), h, q _ H (Ex.rf H) (.bl false)⟩
structure TRd (K : PySem.W.Frag) (mg : Str → Option Value) (w : World) (C Sk fj SR : Addr) : Prop extends Tx K mg C where
  S : SkT K Sk
  g_SAY_RANKS : mg "SAY_RANKS" = some (.ref SR)
  g_joined_say : mg "joined_say" = some (.ref fj)
  ks : KIs K w SR rks
  noS : PySem.W.kitOne K (.ref C) (.type "str") = some false
/-- read_say of a text whose names are few, and of what is no text -/
def RRead (C : Addr) (ds : List D) (μ : Mu) (Φ : D → Mu → Prop) (X : Prop) : Prop := μ = [] ∧ ((∃ (s : Str) (L : List Str), ds = [.str s] ∧ s.length ≤ 3000 ∧ PyData.strOk s = true ∧ L.length ≤ 12 ∧ (∀ ws, tokS inSay s = some ws → ∀ x ∈ ws, nmOk x = true → x ∈ L) ∧
    match readF s with | some v => Φ (sD C v) [] | none => X) ∨ (∃ d, ds = [d] ∧ ((∃ t, tyD d = some t ∧ t ≠ "str") ∨ ∃ fs, d = .ins C fs) ∧ X))
abbrev s_read_say : Stmt := top 23
abbrev n_read_say : List Str := ["text", "stack", "word"]
theorem sc_read_say : FnScope n_read_say ["text"] (defScope s_read_say) := ⟨rfl, rfl, rfl, by decide +kernel, rfl, by decide +kernel, by decide +kernel⟩

theorem ok_read_say {f : Addr} {fd : FuncData} (F : Fun K "read_say" "read_say" s_read_say f fd) (T : TRd K mg w C Sk fj SR) (U_BadText : ErrN P w K mg base 1 CU "BadText") (c_Stack : C8.Mak P w K mg base 1 "Stack" Sk (spN (RSkInit Sk)) []) (x_words_of : CalX P w K mg base 3 "words_of" (spB CU RWords)) (x_Stack_add_value : MetX P w K mg base 7 Sk "add_value" (spB CU (RAddV C Sk fj))) (x_Stack_add_sign : MetX P w K mg base 7 Sk "add_sign" (spB CU (RAddS C Sk fj))) (x_Stack_result : MetX P w K mg base 7 Sk "result" (spB CU (RSkRes C Sk fj)))
    (s_test : OSm P w K mg base 3 C "test" (spP (RTest C))) (s_yes : OSm P w K mg base 3 C "yes" (spP (RYes C))) (s_no : OSm P w K mg base 3 C "no" (spP (RNo C))) : FnOk P w K mg base (L2.CX P w) 8 f fd ["text"] (spB CU (RRead C)) := by
  refine bad_okM F sc_read_say (fun ds μ Φ X h => ?_) (fun cdv A outer s H E hr => ?_)
  · obtain ⟨_, ⟨s, L, rfl, _⟩ | ⟨d, rfl, _⟩⟩ := h <;> rfl
  · refine ⟨_, (pss_cons (ps_if (pt_not (pt_val (pe_callB (k_isi (K := K) rfl) (by rfl) T.isinstance (by decide +kernel) (pa_cons (pv 0) (pa_cons (pe_bltn (v := .ty "str") (by rfl) T.str (by decide +kernel) rfl) pa_nil))))) (pss_one (ps_raise rfl takesX (pmk_N U_BadText hr (by omega) rfl))) pss_nil) (pss_cons (ps_set (i := 1) sc_read_say.nd rfl (by first | exact Or.inl rfl | exact Or.inr rfl) (C8.pe_mk c_Stack hr (by omega) rfl (pa_cons (pe_callTy (k_dictKd (K := K) (w := w) (kvs := ks_SAY_RANKS) rfl rfl) (by rfl) T.dict (by decide +kernel) (pa_cons (pe_glob (v := .ref _) rfl T.g_SAY_RANKS rfl) pa_nil)) (pa_cons pe_str (pa_cons pe_str (pa_cons (pe_glob (v := .ref _) rfl T.g_joined_say rfl) pa_nil)))))) (pss_cons (ps_for (passes_of rfl) rfl (k_seq (K := K) rfl (pe_cX x_words_of hr (by omega) passX rfl (pa_cons (pv 0) (pa_cons pe_str pa_nil)))) (pg_name (i := 2) sc_read_say.nd rfl (by first | exact Or.inl rfl | exact Or.inr rfl)) (pss_one (ps_if (pt_cmpR (k_inU (K := K) rfl hr) (pv 2) (pe_tup (pa_cons pe_str (pa_cons pe_str pa_nil))) (by rfl)) (pss_one (ps_expr (pe_mtX x_Stack_add_value hr (by omega) passX (pv 1) (pa_cons (pe_ifExp (pt_cmpR (k_eq (K := K) rfl hr) (pv 2) pe_str (nomark _)) (k_sm0 s_yes hr (by omega) (pe_glob (v := .ref _) rfl T.g_Say rfl)) (k_sm0 s_no hr (by omega) (pe_glob (v := .ref _) rfl T.g_Say rfl))) pa_nil)))) (pss_one (ps_if (pt_cmpR (k_inU (K := K) rfl hr) (pv 2) (pe_tup (pa_cons pe_str (pa_cons pe_str (pa_cons pe_str (pa_cons pe_str (pa_cons pe_str (pa_cons pe_str pa_nil))))))) (by rfl)) (pss_one (ps_expr (pe_mtX x_Stack_add_sign hr (by omega) passX (pv 1) (pa_cons (pv 2) pa_nil)))) (pss_one (ps_expr (pe_mtX x_Stack_add_value hr (by omega) passX (pv 1) (pa_cons (k_sm s_test hr (by omega) (pe_glob (v := .ref _) rfl T.g_Say rfl) (pa_cons (pv 2) pa_nil)) pa_nil))))))))) (pss_one (ps_ret (pe_mtX0 x_Stack_result hr (by omega) passX (pv 1))))))), ?_⟩
    intro ds μ Φ X hh
    have evC : ∀ {ρ : Rho}, Ev (tC (.ref C)) ρ (.ptr C) := fun {ρ} _ _ H _ _ _ q => q _ H (Ex.rf H) (.ptr C)
    obtain ⟨rfl, ⟨s, L, rfl, hl, ho, hL, hnm, q⟩ | ⟨d, rfl, hd, hx⟩⟩ := hh
    · refine gnb_seq (gnb_if (gt_not (gt_ev (et_B (ev_cb (ev_cons (ev_var rfl) (ev_cons ev_tyS ev_nil)) (rl_isi rfl (isi_same "str")))) ?_)))
      rw [if_neg (show ¬ (!true) = true from Bool.false_ne_true)]
      refine gnb_next (gnb_seq (gnb_gn (gn_pm (gn_asg (gx_makeO (gea_ev (ev_cons (ev_cb (ev_cons (fun _ _ H _ _ _ q => q _ H (Ex.rf H) (.ptr SR)) ev_nil) (rl_dictKd T.ks)) (ev_cons ev_str (ev_cons ev_str (ev_cons (fun _ _ H _ _ _ q => q _ H (Ex.rf H) (.ptr fj)) ev_nil)))) fun p hp => ⟨p, fj, rfl, rfl, fun h w' => ⟨rfl, skM C Sk fj p h w' ⟨[], [], true⟩, (List.reverse_perm _).symm, ?_⟩⟩))))))
      cases ht : tokS inSay s with
      | none =>
        have : readF s = none := by unfold readF; rw [ht]; rfl
        rw [this] at q
        refine gnb_seq (gnb_forX (gxb_call (gea_ev (ev_cons (ev_var rfl) (ev_cons ev_str ev_nil)) ⟨_, [], (List.append_nil _).symm, s, sayS, rfl, by decide +kernel, hl, ho, ?_⟩)))
        have : tokS (fun c => decide (c ∈ cpl sayS)) s = none := ht
        rw [this]; exact q
      | some ws =>
        have hr0 : readF s = run binS ngS ⟨[], [], true⟩ (ws.map tkW) := by unfold readF; rw [ht]; rfl
        have hwl : ws.length ≤ 3000 := Nat.le_trans (toks_len ht) hl
        refine gnb_mid (fun ρ' μ' => ∃ (m : MS Sy) (o : Option Du.D), ρ' = [some (.str s), some (.ptr p), o] ∧ μ' = skM C Sk fj p h w' m ∧ MOk (OkV L) ws.length m ∧ readF s = fin binS m) (gnb_forX (gxb_call (gea_ev (ev_cons (ev_var rfl) (ev_cons ev_str ev_nil)) ⟨skM C Sk fj p h w' ⟨[], [], true⟩, [], (List.append_nil _).symm, s, sayS, rfl, by decide +kernel, hl, ho, ?_⟩))) ?_
        · have : tokS (fun c => decide (c ∈ cpl sayS)) s = some ws := ht
          rw [this]
          refine ⟨ws.map D.str, fun i ρ' μ' => ∃ (m : MS Sy) (o : Option Du.D), ρ' = [some (.str s), some (.ptr p), o] ∧ μ' = skM C Sk fj p h w' m ∧ MOk (OkV L) i m ∧ readF s = run binS ngS m ((ws.drop i).map tkW), _, rfl, Lq.rf _, ⟨⟨[], [], true⟩, none, rfl, by rw [List.append_nil], ⟨fun _ h => absurd h (by simp), rfl, Nat.le_refl _, Nat.le_refl _⟩, by rw [List.drop_zero]; exact hr0⟩, ?_, ?_⟩
          · rintro i d ρ' μ' hd ⟨m, o, rfl, rfl, hm, he⟩
            rw [List.getElem?_map] at hd
            obtain ⟨x, hx, rfl⟩ := Option.map_eq_some_iff.mp hd
            have hi : i < ws.length := (List.getElem?_eq_some_iff.mp hx).1
            have hdr : ws.drop i = x :: ws.drop (i + 1) := by
              rw [List.drop_eq_getElem_cons hi]; congr 1
              exact Option.some.inj ((List.getElem?_eq_getElem _).symm.trans hx)
            rw [hdr, List.map_cons] at he
            have he' : readF s = (step binS ngS m (tkW x)).bind fun m' => run binS ngS m' ((ws.drop (i + 1)).map tkW) := he
            have hxm := List.mem_of_getElem? hx
            have hsw := say_word ht x hxm
            have hxo : PyData.strOk x = true := by
              rcases hsw with h | ⟨h, _⟩
              · have : ∀ y ∈ signs8, PyData.strOk y = true := by decide +kernel
                exact this x h
              · exact nm_strOk h
            have fin' : ∀ {t : TE}, (∀ v, tkW x = .val v → OkV L v) → (∀ (Φ' : Du.D → Mu → Prop), (match step binS ngS m (tkW x) with | some m' => Φ' .non (skM C Sk fj p h w' m') | none => X) → GXB t [some (.str s), some (.ptr p), some (.str x)] (skM C Sk fj p h w' m) Φ' X E CU) → GNB (tDrop t) [some (.str s), some (.ptr p), some (.str x)] (skM C Sk fj p h w' m) (fun ρ'' μ'' => ∃ ρ1, Lq ρ1 ρ'' ∧ ∃ (m : MS Sy) (o : Option Du.D), ρ1 = [some (.str s), some (.ptr p), o] ∧ μ'' = skM C Sk fj p h w' m ∧ MOk (OkV L) (i + 1) m ∧ readF s = run binS ngS m ((ws.drop (i + 1)).map tkW)) (fun d μ' => ∃ ν μ'', μ' = ν ++ μ'' ∧ μ''.map (·.1) = ([] : Mu).map (·.1) ∧ Φ d μ'') X E CU := fun {t} hv ht => by
              refine gnb_drop (ht _ ?_)
              cases hs : step binS ngS m (tkW x) with
              | none => rw [hs] at he'; rw [he'] at q; exact q
              | some m' => rw [hs] at he'; exact ⟨_, Lq.rf _, m', _, rfl, rfl, hm.step (OkV.all hL).1 (OkV.all hL).2 hv hs, he'⟩
            refine ⟨_, ga_name, ?_⟩
            have evx : ∀ {ρ : Rho}, ρ[2]? = some (some (.str x)) → Ev (tVar 2) ρ (.str x) := fun h => ev_var h
            refine gnb_if (gt_ev (b := decide (x ∈ (["0", "1"] : List Str))) (by
              rw [← inD_strs]
              exact et_test (ev_op (ev_var rfl) (ev_tup (ev_cons ev_str (ev_cons ev_str ev_nil)) (by simp)) (rd_inT (ok_str hxo) ((okN_tup (n := 0) fun d hd => by
                rcases List.mem_cons.mp hd with rfl | hd
                · exact okN_str (by decide +kernel)
                · have := List.mem_singleton.mp hd; subst this; exact okN_str (by decide +kernel)).e (by decide))))) ?_)
            have e0 : ∀ {ρ : Rho}, Ev (tSMeth C (spP (RNo C)) C8.E0 (tC (.ref C)) tNil) ρ (sD C ([], [])) := ev_sm0 evC ⟨rfl, rfl⟩
            have e1 : ∀ {ρ : Rho}, Ev (tSMeth C (spP (RYes C)) C8.E0 (tC (.ref C)) tNil) ρ (sD C ([], [[]])) := ev_sm0 evC ⟨rfl, rfl⟩
            have ok0 : OkV L ([], []) := ⟨wf_nil, fun _ h => absurd h (by simp)⟩
            have ok1 : OkV L ([], [[]]) := ⟨⟨by decide, fun _ h => absurd h (by simp), fun p hp => by rw [List.mem_singleton.mp hp]; exact fun _ h => absurd h (by simp), by decide⟩, fun _ h => absurd h (by simp)⟩
            have addv : ∀ {te : TE} {v : Sy}, tkW x = .val v → OkV L v → Ev te [some (.str s), some (.ptr p), some (.str x)] (sD C v) → ∀ (Φ' : Du.D → Mu → Prop), (match step binS ngS m (tkW x) with | some m' => Φ' .non (skM C Sk fj p h w' m') | none => X) → GXB (tMeth Sk "add_value" (spB CU (RAddV C Sk fj)) [] E (tVar 1) (tCons te tNil)) [some (.str s), some (.ptr p), some (.str x)] (skM C Sk fj p h w' m) Φ' X E CU := fun {te v} hx' hv hev Φ' hq => by
              rw [hx'] at hq
              exact gxb_meth (ge_ev (ev_var rfl) ⟨p, 0, _, rfl, rfl, rfl, gea_ev (ev_cons hev ev_nil) ⟨[], _, rfl, p, h, w', m, v, L, i, rfl, rfl, hm, hv, by omega, hq⟩⟩)
            have inj : ∀ {v v' : Sy}, (Tk.val v : Tk Sy) = .val v' → v = v' := fun e => by cases e; rfl
            by_cases h01 : x ∈ (["0", "1"] : List Str)
            · rw [if_pos (decide_eq_true h01)]
              simp only [List.mem_cons, List.not_mem_nil, or_false] at h01
              rcases h01 with rfl | rfl
              · exact fin' (fun v hv => by rw [tk_01.1] at hv; rw [← inj hv]; exact ok0) (addv tk_01.1 ok0 (ev_if (b := false) ((show decide (("0" : Str) = "1") = false by decide +kernel) ▸ et_eqS (ev_var rfl) hxo (by decide +kernel)) (fun h => by cases h) fun _ => e0))
              · exact fin' (fun v hv => by rw [tk_01.2] at hv; rw [← inj hv]; exact ok1) (addv tk_01.2 ok1 (ev_if (b := true) ((show decide (("1" : Str) = "1") = true by decide +kernel) ▸ et_eqS (ev_var rfl) hxo (by decide +kernel)) (fun _ => e1) fun h => by cases h))
            · rw [if_neg (by simpa using h01)]
              refine gnb_if (gt_ev (b := decide (x ∈ (["~", "&", "^", "|", "(", ")"] : List Str))) (by
                rw [← inD_strs]
                have ok6 : ∀ y ∈ (["~", "&", "^", "|", "(", ")"] : List Str), PyData.strOk y = true := by decide +kernel
                exact et_test (ev_op (ev_var rfl) (ev_tup (ev_cons ev_str (ev_cons ev_str (ev_cons ev_str (ev_cons ev_str (ev_cons ev_str (ev_cons ev_str ev_nil)))))) (by simp)) (rd_inT (ok_str hxo) ((okN_tup (n := 0) (ds := (["~", "&", "^", "|", "(", ")"] : List Str).map Du.D.str) fun d hd => by
                  obtain ⟨y, hy, rfl⟩ := List.mem_map.mp hd
                  exact okN_str (ok6 y hy)).e (by decide))))) ?_)
              have e6 : x ∈ signs8 ↔ x ∈ (["~", "&", "^", "|", "(", ")"] : List Str) := ⟨fun h => by
                unfold signs8 at h
                simp only [List.mem_cons, List.not_mem_nil, or_false, not_or] at h h01 ⊢
                rcases h with h | h | h
                · exact absurd h h01.1
                · exact absurd h h01.2
                · exact h, fun h => List.mem_cons_of_mem _ (List.mem_cons_of_mem _ h)⟩
              by_cases h8 : x ∈ signs8
              · rw [if_pos (decide_eq_true (e6.mp h8))]
                have hs := tk_sign h8 h01
                refine fin' (fun v hv => by rw [hv] at hs; cases hs) fun Φ' hq => ?_
                exact gxb_meth (ge_ev (ev_var rfl) ⟨p, 0, _, rfl, rfl, rfl, gea_ev (ev_cons (ev_var rfl) ev_nil) ⟨[], _, rfl, p, h, w', m, tkW x, x, L, i, rfl, hs, rfl, hm, hL, by omega, hq⟩⟩)
              · rw [if_neg (fun z => h8 (e6.mpr (of_decide_eq_true z)))]
                have hnx : nmOk x = true := (hsw.resolve_left h8).1
                have okx : OkV L ([x], [[x]]) := ⟨⟨by simp, fun y hy => by rw [List.mem_singleton.mp hy]; exact hxo, fun r hr => by rw [List.mem_singleton.mp hr]; exact fun y hy => by rw [List.mem_singleton.mp hy]; exact hxo, by simp⟩, fun y hy => by rw [List.mem_singleton.mp hy]; exact hnm ws ht x hxm hnx⟩
                exact fin' (fun v hv => by rw [tk_name h8] at hv; rw [← inj hv]; exact okx) (addv (tk_name h8) okx (ev_sm evC (ev_cons (ev_var rfl) ev_nil) ⟨x, rfl, hnx, rfl⟩))
          · rintro ρ' μ' ⟨m, o, rfl, rfl, hm, he⟩
            rw [List.length_map] at hm he
            rw [List.drop_length] at he
            exact ⟨m, o, rfl, rfl, hm, he⟩
        · rintro ρ' μ' ⟨m, o, rfl, rfl, hm, he⟩
          refine gnb_ret (gxb_meth (ge_ev (ev_var rfl) ⟨p, 0, _, rfl, rfl, rfl, gea_nil ⟨[], _, rfl, p, h, w', m, L, ws.length, rfl, rfl, hm, hL, by omega, ?_⟩⟩))
          rw [← he]
          cases hr : readF s with
          | none => rw [hr] at q; exact q
          | some v => rw [hr] at q; exact fun m' => ⟨skM C Sk fj p h w' m', [], (List.append_nil _).symm, rfl, q⟩
    · refine gnb_seq (gnb_if (gt_not (gt_ev (b := false) (et_B ?_) ?_)))
      · rcases hd with ⟨t, ht, hne⟩ | ⟨fs, rfl⟩
        · exact ev_cb (ev_cons (ev_var rfl) (ev_cons ev_tyS ev_nil)) (rl_isi ht (by rw [isi_strT ht]; simp [hne]))
        · exact ev_cb (ev_cons (ev_var rfl) (ev_cons ev_tyS ev_nil)) (rl_isiN T.toTx T.noS)
      · rw [if_pos (show (!false) = true from rfl)]
        exact gnb_raise hx
end
end Du
namespace Du
open PySem L2
section
variable {P : Program} {w : World} {K : PySem.W.Frag} {mg : Str → Option Value} {base : Heap} {C : Addr}
/-! picks -/
def RPk (ds : List D) (μ : Mu) (Φ : D → Mu → Prop) : Prop := ∃ (a c : Addr) (N : Nat) (xs : List D), ds = [.ptr a, .lst xs] ∧ BxS a c N μ ∧ N < 100000 ∧ 0 < xs.length ∧ xs.length < 100000 ∧
  ∀ (μ' : Mu) (d : D), BxS a c (N + 1) μ' → d ∈ xs → Φ d μ'
abbrev s_law_pick : Stmt := top 27
abbrev n_law_pick : List Str := ["_law_box_here", "_law_things"]
theorem sc_law_pick : FnScope n_law_pick ["_law_box_here", "_law_things"] (defScope s_law_pick) := ⟨rfl, rfl, rfl, by decide +kernel, rfl, by decide +kernel, by decide +kernel⟩

theorem ok_law_pick {f : Addr} {fd : FuncData} (F : Fun K "_law_pick" "_law_pick" s_law_pick f fd) (T : Bn mg) (c_law_take : C8.Cal P w K mg base 1 "_law_take" (spM RTake) []) : FnOk P w K mg base CX0 2 f fd ["_law_box_here", "_law_things"] (spM RPk) := by
  refine eff_ok F sc_law_pick (fun ds μ Φ h => ?_) (fun cdv A outer s H E hr => ?_)
  · obtain ⟨a, c, N, xs, rfl, _⟩ := h; rfl
  · refine ⟨_, (pss_one (ps_ret (pe_ix (k_ix (K := K) rfl) (pv 1) (C8.pe_c c_law_take hr (by omega) rfl (pa_cons (pv 0) (pa_cons (pe_callB (k_len (K := K) rfl) (by rfl) T.len (by decide +kernel) (pa_cons (pv 1) pa_nil)) pa_nil))) (fun _ _ => rfl)))), ?_⟩
    intro ds μ Φ h
    obtain ⟨a, c, N, xs, rfl, hs, hN, h0, h1, q⟩ := h
    refine gs_ret (ge_op (ge_ev (ev_var rfl) (ge_callA (gea_ev (ev_cons (ev_var rfl) (ev_cons (ev_cb (ev_cons (ev_var rfl) ev_nil) rl_lenL) ev_nil)) ⟨a, c, N, xs.length, rfl, hs, hN, h0, h1, fun μ' d hs' hd => ⟨xs[d], rd_ixL (List.getElem?_eq_getElem hd), ?_, q μ' _ hs' (List.getElem_mem hd)⟩⟩))))
    rw [hs'.fst, hs.fst]
/-! gaps -/
def gaps : List Str := ["", "", " ", "  "]
def RGap (ds : List D) (μ : Mu) (Φ : D → Mu → Prop) : Prop := ∃ (a c : Addr) (N : Nat), ds = [.ptr a] ∧ BxS a c N μ ∧ N < 100000 ∧ ∀ (μ' : Mu) (g : Str), BxS a c (N + 1) μ' → g ∈ gaps → Φ (.str g) μ'
abbrev s_law_gap : Stmt := top 29
abbrev n_law_gap : List Str := ["_law_box_here"]
theorem sc_law_gap : FnScope n_law_gap ["_law_box_here"] (defScope s_law_gap) := ⟨rfl, rfl, rfl, by decide +kernel, rfl, by decide +kernel, by decide +kernel⟩

theorem ok_law_gap {f : Addr} {fd : FuncData} (F : Fun K "_law_gap" "_law_gap" s_law_gap f fd) (T : Bn mg) (c_law_pick : C8.Cal P w K mg base 2 "_law_pick" (spM RPk) []) : FnOk P w K mg base CX0 3 f fd ["_law_box_here"] (spM RGap) := by
  refine eff_ok F sc_law_gap (fun ds μ Φ h => ?_) (fun cdv A outer s H E hr => ?_)
  · obtain ⟨a, c, N, rfl, _⟩ := h; rfl
  · refine ⟨_, (pss_one (ps_ret (C8.pe_c c_law_pick hr (by omega) rfl (pa_cons (pv 0) (pa_cons (pe_lst (pa_cons pe_str (pa_cons pe_str (pa_cons pe_str (pa_cons pe_str pa_nil))))) pa_nil))))), ?_⟩
    intro ds μ Φ h
    obtain ⟨a, c, N, rfl, hs, hN, q⟩ := h
    refine gs_ret (ge_callA (gea_ev (ds := [.ptr a, .lst (gaps.map D.str)]) (ev_cons (ev_var rfl) (ev_cons (ev_lst (ev_cons ev_str (ev_cons ev_str (ev_cons ev_str (ev_cons ev_str ev_nil)))) (by simp [gaps])) ev_nil)) ⟨a, c, N, gaps.map D.str, rfl, hs, hN, by simp [gaps], by simp [gaps], fun μ' d hs' hd => ?_⟩))
    obtain ⟨g, hg, rfl⟩ := List.mem_map.mp hd
    exact ⟨by rw [hs'.fst, hs.fst], q μ' g hs' hg⟩
/-! words -/
theorem cpl_join0 : ∀ cs : List Nat, cpl (Str.join "" (cs.map sg)) = cs
  | [] => rfl
  | [c] => rfl
  | c :: d :: r => by
    show cpl (sg c ++ "" ++ Str.join "" ((d :: r).map sg)) = _
    rw [cpl_app, cpl_app, cpl_join0 (d :: r)]
    have : cpl ("" : Str) = [] := by decide +kernel
    rw [this]; rfl
theorem cpl_joinT (cs : List Nat) : cpl (Txt.join "" (cs.map sg)) = cs := by
  show cpl (PySem.Builtin.Str.glued _ _) = _
  rw [PySem.StrLaws.glued_eq_join]; exact cpl_join0 cs
theorem sum_sg : ∀ cs : List Nat, ((cs.map sg).map (·.length)).sum = cs.length
  | [] => rfl
  | c :: cs => by
    have := sum_sg cs
    simp only [List.map_cons, List.sum_cons, this, List.length_cons]
    show 1 + cs.length = _
    omega
theorem nm_of {s : Str} (h1 : 1 ≤ (cpl s).length) (h8 : (cpl s).length ≤ 8) (h : ∀ c ∈ cpl s, isL c = true) : nmOk s = true := by
  unfold nmOk
  rw [cpl_len] at h1 h8
  rw [Bool.and_eq_true, Bool.and_eq_true]
  refine ⟨⟨decide_eq_true (by omega), decide_eq_true (by omega)⟩, List.all_eq_true.mpr fun b hb => ?_⟩
  obtain ⟨d, hd, rfl⟩ := List.mem_map.mp hb
  exact h d hd
def qs : List Str := ["qa", "qb", "qc", "qd", "qe", "qf", "qg", "qh", "qi", "qj", "qk", "ql", "qm", "qn", "qo", "qp"]
theorem qs_nd : qs.Nodup := by decide +kernel
theorem qs_ok : ∀ x ∈ qs, nmOk x = true := by decide +kernel
/-- one of sixteen names is not among few -/
theorem spare {l : List Str} (h : l.length < 16) (x : Str) : ∃ y r, (x :: qs).filter (fun y => !decide (y ∈ l)) = y :: r := by
  cases e : (x :: qs).filter (fun y => !decide (y ∈ l)) with
  | cons y r => exact ⟨y, r, rfl⟩
  | nil =>
    exfalso
    have h1 : ∀ y ∈ srt qs, y ∈ uniq l := fun y hy => by
      have hq := srt_mem.mp hy
      have := List.filter_eq_nil_iff.mp e y (List.mem_cons_of_mem _ hq)
      exact uniq_mem.mpr (by simpa using this)
    have h2 := ((srt_SS qs_nd).sublist (SS.uniq l) h1).length_le
    rw [(srt_perm qs).length_eq] at h2
    have h3 : qs.length = 16 := rfl
    have := uniq_len l
    omega
def RWordsL (ds : List D) (μ : Mu) (Φ : D → Mu → Prop) : Prop := ∃ (a c : Addr) (N k : Nat) (tk : List Str), ds = [.ptr a, .int k, lS tk] ∧ BxS a c N μ ∧ N + 9 * k < 90000 ∧ k ≤ 5 ∧ tk.length ≤ 5 ∧ okS tk ∧
  ∀ (μ' : Mu) (ns : List Str), BxS a c (N + 9 * k) μ' → ns.length = k → ns.Nodup → (∀ n ∈ ns, nmOk n = true ∧ ¬ n ∈ tk) → Φ (lS ns) μ'
abbrev s_law_words : Stmt := top 28
abbrev n_law_words : List Str := ["_law_box_here", "_law_many", "_law_taken", "_law_found", "_law_k", "_law_size", "_law_name", "_law_spare", "_law_sign", "_law_one"]
theorem sc_law_words : FnScope n_law_words ["_law_box_here", "_law_many", "_law_taken"] (defScope s_law_words) := ⟨rfl, rfl, rfl, by decide +kernel, rfl, by decide +kernel, by decide +kernel⟩

theorem ok_law_words {f : Addr} {fd : FuncData} (F : Fun K "_law_words" "_law_words" s_law_words f fd) (T : Bn mg) (c_law_take : C8.Cal P w K mg base 1 "_law_take" (spM RTake) []) (c_law_pick : C8.Cal P w K mg base 2 "_law_pick" (spM RPk) []) : FnOk P w K mg base CX0 3 f fd ["_law_box_here", "_law_many", "_law_taken"] (spM RWordsL) := by
  refine eff_okM F sc_law_words (fun ds μ Φ h => ?_) (fun cdv A outer s H E hr => ?_)
  · obtain ⟨a, c, N, k, tk, rfl, _⟩ := h; rfl
  · refine ⟨_, (pss_cons (ps_set (i := 3) sc_law_words.nd rfl (by first | exact Or.inl rfl | exact Or.inr rfl) (pe_lst pa_nil)) (pss_cons (ps_for PassesOwn.never rfl (pi_range1 (by rfl) T.range (pa_cons (pv 1) pa_nil)) (pg_name (i := 4) sc_law_words.nd rfl (by first | exact Or.inl rfl | exact Or.inr rfl)) (pss_cons (ps_set (i := 5) sc_law_words.nd rfl (by first | exact Or.inl rfl | exact Or.inr rfl) (pe_ix (k_ix (K := K) rfl) (pe_lst (pa_cons pe_int (pa_cons pe_int (pa_cons pe_int (pa_cons pe_int (pa_cons pe_int pa_nil)))))) (C8.pe_c c_law_take hr (by omega) rfl (pa_cons (pv 0) (pa_cons pe_int pa_nil))) (fun _ _ => rfl))) (pss_cons (ps_set (i := 6) sc_law_words.nd rfl (by first | exact Or.inl rfl | exact Or.inr rfl) (k_join (K := K) rfl pe_str (pe_lc (own := [("_law_sign", 8)]) rfl sc_law_words.nd (pi_range1 (by rfl) T.range (pa_cons (pv 5) pa_nil)) (blkOk_by (own := [("_law_sign", 8)]) (N := n_law_words) (sc := defScope s_law_words) (by decide +kernel)) (fun _ _ _ _ _ => (pg_name (i := 8) sc_law_words.nd rfl (by first | exact Or.inl rfl | exact Or.inr rfl))) (fun _ _ _ _ _ => pts_nil) (fun _ _ _ _ _ => (C8.pe_c c_law_pick hr (by omega) rfl (pa_cons (pv 0) (pa_cons (pe_callTy (call_listStr rfl) (by rfl) T.list (by decide +kernel) (pa_cons pe_str pa_nil)) pa_nil))))))) (pss_cons (ps_set (i := 7) sc_law_words.nd rfl (by first | exact Or.inl rfl | exact Or.inr rfl) (pe_op (k_addU (K := K) rfl) (pe_lst (pa_cons (pv 6) pa_nil)) (pe_lc (own := [("_law_sign", 8)]) rfl sc_law_words.nd (pi_str pe_str) (blkOk_by (own := [("_law_sign", 8)]) (N := n_law_words) (sc := defScope s_law_words) (by decide +kernel)) (fun _ _ _ _ _ => (pg_name (i := 8) sc_law_words.nd rfl (by first | exact Or.inl rfl | exact Or.inr rfl))) (fun _ _ _ _ _ => pts_nil) (fun _ _ _ _ _ => (pe_op k_addS pe_str (pv 8)))))) (pss_one (ps_expr (k_bm (K := K) rfl PySem.F.plainAttrs_list PySem.F.slot_list_append PySem.F.type_list_append mt_append (pv 3) (pa_cons (pe_ix (k_ix (K := K) rfl) (pe_lc (own := [("_law_one", 9)]) rfl sc_law_words.nd (k_seq (K := K) rfl (pv 7)) (blkOk_by (own := [("_law_one", 9)]) (N := n_law_words) (sc := defScope s_law_words) (by decide +kernel)) (fun _ _ _ _ _ => (pg_name (i := 9) sc_law_words.nd rfl (by first | exact Or.inl rfl | exact Or.inr rfl))) (fun _ _ _ _ _ => pts_one (pt_cmpR (k_notInU (K := K) rfl hr) (pv 9) (pe_op (k_addU (K := K) rfl) (pv 3) (pv 2)) (by rfl))) (fun _ _ _ _ _ => (pv 9))) pe_int (fun _ _ => rfl)) pa_nil)))))))) (pss_one (ps_ret (pv 3))))), ?_⟩
    intro ds μ Φ h
    obtain ⟨a, c, N, k, tk, rfl, hs, hN, hk, htk, hok, q⟩ := h
    refine gn_own ef_nil fun b hb => ?_
    refine gn_mid (fun ρ' μ' => ∃ (ns : List Str) (μs : Mu), Lq [some (.ptr a), some (.int k), some (lS tk), some (.ptr b), none, none, none, none, none, none] ρ' ∧ μ' = (b, lS ns) :: μs ∧ BxS a c (N + 9 * k) μs ∧ ns.length = k ∧ ns.Nodup ∧ ∀ n ∈ ns, nmOk n = true ∧ ¬ n ∈ tk) (gn_for (fun i ρ' μ' => ∃ (ns : List Str) (μs : Mu), ρ' = [some (.ptr a), some (.int k), some (lS tk), some (.ptr b), none, none, none, none, none, none] ∧ μ' = (b, lS ns) :: μs ∧ BxS a c (N + 9 * i) μs ∧ ns.length = i ∧ ns.Nodup ∧ ∀ n ∈ ns, nmOk n = true ∧ ¬ n ∈ tk) (ei_range1 (n := k) (ev_cons (ev_var rfl) ev_nil) (by omega)) (Lq.rf _) ⟨[], μ, rfl, rfl, hs, rfl, .nil, fun _ h => absurd h (by simp)⟩ ?_ ?_) ?_
    · rintro i d ρ' μ' hd ⟨ns, μs, rfl, rfl, hs', hl, hnd, hns⟩
      have hi : i < k := by have := (List.getElem?_eq_some_iff.mp hd).1; simpa using this
      refine ⟨_, ga_name, gn_seq (gn_gs (gs_asg (ge_op (ge_ev (d := .lst [.int 1, .int 1, .int 2, .int 3, .int 8]) (ev_lst (ev_cons ev_int (ev_cons ev_int (ev_cons ev_int (ev_cons ev_int (ev_cons ev_int ev_nil))))) (by simp)) (ge_callL (gea_ev (ev_cons (ev_var rfl) (ev_cons ev_int ev_nil)) ⟨[(b, lS ns)], μs, rfl, a, c, N + 9 * i, 5, rfl, hs', by omega, by omega, by omega, fun μ1 j hs1 hj => ?_⟩))))))⟩
      obtain ⟨z, hz, hz1, hz8⟩ : ∃ z : Nat, [Du.D.int 1, .int 1, .int 2, .int 3, .int 8][j]? = some (.int (z : Nat)) ∧ 1 ≤ z ∧ z ≤ 8 := by
        match j, hj with
        | 0, _ => exact ⟨1, rfl, by omega, by omega⟩
        | 1, _ => exact ⟨1, rfl, by omega, by omega⟩
        | 2, _ => exact ⟨2, rfl, by omega, by omega⟩
        | 3, _ => exact ⟨3, rfl, by omega, by omega⟩
        | 4, _ => exact ⟨8, rfl, by omega, by omega⟩
      refine ⟨_, rd_ixL hz, ?_⟩
      refine gn_seq (gn_gs (gs_asg (ge_join (ge_ev ev_str ⟨rfl, ge_lc (fun t acc μ' => ∃ (cs : List Nat) (μ2 : Mu), acc = cs.map (fun c => Du.D.str (sg c)) ∧ μ' = (b, lS ns) :: μ2 ∧ BxS a c (N + 9 * i + 1 + t) μ2 ∧ cs.length = t ∧ ∀ c ∈ cs, isL c = true) (ei_range1 (n := z) (ev_cons (ev_var rfl) ev_nil) (by omega)) (by simp; omega) ⟨[], μ1, rfl, rfl, hs1, rfl, fun _ h => absurd h (by simp)⟩ ?_ ?_⟩))))
      · rintro t d2 acc μ2' hd2 ⟨cs, μ2, rfl, rfl, hs2, hcl, hcs⟩
        have ht : t < z := by have := (List.getElem?_eq_some_iff.mp hd2).1; simpa using this
        have hz26 : (cpl letters).length = 26 := by decide +kernel
        refine ⟨_, true, gw_name (by simp), et_yes, fun _ => ge_callL (gea_ev (ev_cons (ev_var rfl) (ev_cons (ev_cb (ev_cons ev_str ev_nil) (rl_listS (by decide +kernel))) ev_nil)) ⟨[(b, lS ns)], μ2, rfl, a, c, N + 9 * i + 1 + t, (cpl letters).map (fun c => Du.D.str (sg c)), rfl, hs2, by omega, by rw [List.length_map, hz26]; omega, by rw [List.length_map, hz26]; omega, fun μ3 d3 hs3 hd3 => ?_⟩), fun h => by cases h⟩
        obtain ⟨c3, hc3, rfl⟩ := List.mem_map.mp hd3
        refine ⟨cs ++ [c3], μ3, by simp, rfl, hs3, by simp [hcl], fun x hx => ?_⟩
        rcases List.mem_append.mp hx with hx | hx
        · exact hcs x hx
        · rw [List.mem_singleton.mp hx]; exact decide_eq_true hc3
      · rintro acc μ' ⟨cs, μ2, rfl, rfl, hs2, hcl, hcs⟩
        rw [List.length_map, List.length_range] at hs2 hcl
        refine ⟨cs.map sg, by simp, ?_, ?_⟩
        · have h0 : (("" : Str)).length = 0 := by decide +kernel
          rw [sum_sg, h0]; omega
        have hnm : nmOk (Txt.join "" (cs.map sg)) = true := nm_of (by rw [cpl_joinT]; omega) (by rw [cpl_joinT]; omega) (by rw [cpl_joinT]; exact hcs)
        generalize Txt.join "" (cs.map sg) = nm at hnm
        refine gn_seq (gn_gs (gs_asg (ge_ev (d := lS (nm :: qs)) ?_ ?_)))
        · have e : lS (nm :: qs) = .lst ([.str nm] ++ qs.map D.str) := rfl
          rw [e]
          refine ev_op (ev_lst (ev_cons (ev_var rfl) ev_nil) (by simp)) ?_ (rd_addL (by simp [qs]))
          have e2 : (qs.map D.str) = (cpl ("abcdefghijklmnop" : Str)).map fun c => D.str ("q" ++ sg c) := by
            have : qs = (cpl ("abcdefghijklmnop" : Str)).map fun c => ("q" ++ sg c : Str) := by decide +kernel
            rw [this, List.map_map]; rfl
          rw [e2]
          exact ev_lc1 (φ := fun c => D.str (sg c)) (ei_str ev_str) (by decide +kernel) fun c hc => ⟨_, gw_name (by simp), ev_op ev_str (ev_var rfl) (rd_addS (by show (("q" : Str)).length + 1 ≤ _; decide +kernel))⟩
        obtain ⟨y, r, hy⟩ := spare (l := ns ++ tk) (by rw [List.length_append]; omega) nm
        have hym : y ∈ (nm :: qs).filter (fun y => !decide (y ∈ ns ++ tk)) := by rw [hy]; exact List.mem_cons_self
        obtain ⟨hy1, hy2⟩ := List.mem_filter.mp hym
        have hy3 : ¬ y ∈ ns ++ tk := by simpa using hy2
        have hyn : nmOk y = true := by
          rcases List.mem_cons.mp hy1 with rfl | hy1
          · exact hnm
          · exact qs_ok y hy1
        have hok2 : okS (ns ++ tk) := okS_app (fun n hn => nm_strOk (hns n hn).1) hok
        have hok3 : okS (nm :: qs) := fun x hx => by
          rcases List.mem_cons.mp hx with rfl | hx
          · exact nm_strOk hnm
          · exact nm_strOk (qs_ok x hx)
        refine gn_gs (gs_drop (ge_append (ge_ev (ev_var rfl) ⟨b, 0, _, rfl, rfl, gea_cons (ge_lendU (l := false) (d := .str y) [(b, lS ns)] (fun p hp => by rw [List.mem_singleton.mp hp]; exact ⟨List.mem_cons_self, rfl⟩) (.no (.no (.yes (.rf _) (.yes (.ptr (List.mem_singleton.mpr rfl) (Unfs.rfs _)) (.no (.no (.no (.yes (.rf _) (.no (.no .nil)))))))))) (ev_op (d := lS ((nm :: qs).filter fun y => !decide (y ∈ ns ++ tk))) ?_ ev_int (by rw [hy]; exact rd_ixL (i := 0) rfl)) rfl (gea_nil ⟨ns.map D.str, _, rfl, rfl, by rw [List.length_map]; omega, ?_⟩))⟩)))
        · refine ev_lc (xs := nm :: qs) (φ := D.str) (fe := D.str) (ei_seqL (ev_var rfl)) (by simp [qs]) fun x hx => ⟨_, gw_name (by simp), ?_, fun _ => ev_var rfl⟩
          rw [← inD_strs]
          have e : (ns ++ tk).map D.str = ns.map D.str ++ tk.map D.str := List.map_append
          rw [e]
          exact et_test (ev_op (ev_var rfl) (ev_op (ev_var rfl) (ev_var rfl) (rd_addL (by simp; omega))) (rd_notInL (ok_str (hok3 x hx)) (by rw [← e]; exact (okE_lS hok2).e (by decide))))
        · refine ⟨_, .keep (.keep (.keep (.keep (.skip (.skip (.skip (.skip (.skip (.skip .nil))))))))), ns ++ [y], μ2, rfl, by simp [lS], hs2.up (by omega), by simp [hl], ?_, fun x hx => ?_⟩
          · exact List.nodup_append.mpr ⟨hnd, by simp, fun u hu v hv e => by rw [List.mem_singleton.mp hv] at e; exact hy3 (List.mem_append_left _ (e ▸ hu))⟩
          · rcases List.mem_append.mp hx with hx | hx
            · exact hns x hx
            · rw [List.mem_singleton.mp hx]; exact ⟨hyn, fun z => hy3 (List.mem_append_right _ z)⟩
    · rintro ρ' μ' ⟨ns, μs, rfl, rfl, h1, h2, h3, h4⟩
      rw [List.length_map, List.length_range] at h1 h2
      exact ⟨ns, μs, Lq.rf _, rfl, h1, h2, h3, h4⟩
    · rintro ρ' μ' ⟨ns, μs, hl, rfl, h1, h2, h3, h4⟩
      refine gn_lq hl (gn_freeze (μ1 := []) (i := 3) rfl (gn_ret (gx_ge (ge_ev (ev_var rfl) ⟨[], μs, rfl, by rw [h1.fst, hs.fst], q μs ns h1 h2 h3 h4⟩))))
end
end Du
namespace Du
open PySem L2 Pz
/-! texts of says, with what they tell -/
inductive ExT (ns : List Str) : Nat → Str → Sy → Prop
  | zero {d : Nat} : ExT ns d "0" ([], [])
  | one {d : Nat} : ExT ns d "1" ([], [[]])
  | name {d : Nat} {n : Str} : n ∈ ns → ExT ns d n ([n], [[n]])
  | neg {d : Nat} {s g : Str} {v : Sy} : ExT ns d s v → g ∈ gaps → ExT ns (d + 1) ("~" ++ g ++ s) (ngS v)
  | bin {d : Nat} {s s2 g1 g2 g3 g4 : Str} {v v2 : Sy} (r : _root_.Fin 3) : ExT ns d s v → ExT ns d s2 v2 → g1 ∈ gaps → g2 ∈ gaps → g3 ∈ gaps → g4 ∈ gaps → ExT ns (d + 1) ("(" ++ g1 ++ (s ++ g2 ++ opW r ++ g3 ++ s2) ++ g4 ++ ")") (binS r v v2)
def lenX : Nat → Nat
  | 0 => 8
  | d + 1 => 2 * lenX d + 11
theorem gap_len : ∀ g ∈ gaps, g.length ≤ 2 := by decide +kernel
theorem gap_ok : ∀ g ∈ gaps, PyData.strOk g = true := by decide +kernel
theorem opW_len (r : _root_.Fin 3) : (opW r).length = 1 := by
  match r with
  | 0 => decide +kernel
  | 1 => decide +kernel
  | 2 => decide +kernel
theorem one_len : (("~" : Str)).length = 1 ∧ (("(" : Str)).length = 1 ∧ ((")" : Str)).length = 1 ∧ (("0" : Str)).length = 1 ∧ (("1" : Str)).length = 1 := by decide +kernel
theorem strOk_app {a b : Str} (h : PyData.strOk a = true) (g : PyData.strOk b = true) : PyData.strOk (a ++ b) = true := strOk_of fun c hc => by
  rw [cpl_app] at hc
  exact (List.mem_append.mp hc).elim (strOk_cp h) (strOk_cp g)
theorem lenX_pos (d : Nat) : 8 ≤ lenX d := by induction d with
  | zero => exact Nat.le_refl _
  | succ d ih => unfold lenX; omega
theorem ExT.len {ns : List Str} (hn : ∀ n ∈ ns, nmOk n = true) {d : Nat} {s : Str} {v : Sy} (h : ExT ns d s v) : s.length ≤ lenX d := by
  obtain ⟨o1, o2, o3, o4, o5⟩ := one_len
  induction h with
  | @zero d => have := lenX_pos d; omega
  | @one d => have := lenX_pos d; omega
  | @name d n hm => exact Nat.le_trans (nmOk_len (hn n hm)) (lenX_pos d)
  | @neg d s g v _ hg ih =>
    have := gap_len g hg
    have := lenX_pos d
    simp only [Str.length_append, lenX]; omega
  | @bin d s s2 g1 g2 g3 g4 v v2 r _ _ h1 h2 h3 h4 ih1 ih2 =>
    have := gap_len _ h1
    have := gap_len _ h2
    have := gap_len _ h3
    have := gap_len _ h4
    have := opW_len r
    simp only [Str.length_append, lenX]; omega
theorem ExT.ok {ns : List Str} (hn : ∀ n ∈ ns, nmOk n = true) (hl : ns.length ≤ 12) {d : Nat} {s : Str} {v : Sy} (h : ExT ns d s v) : PyData.strOk s = true ∧ OkV ns v := by
  induction h with
  | zero => exact ⟨by decide +kernel, ⟨wf_nil, fun _ h => absurd h (by simp)⟩⟩
  | one => exact ⟨by decide +kernel, ⟨⟨by decide, fun _ h => absurd h (by simp), fun p hp => by rw [List.mem_singleton.mp hp]; exact fun _ h => absurd h (by simp), by decide⟩, fun _ h => absurd h (by simp)⟩⟩
  | @name d n hm =>
    have hxo := nm_strOk (hn n hm)
    exact ⟨hxo, ⟨by simp, fun y hy => by rw [List.mem_singleton.mp hy]; exact hxo, fun r hr => by rw [List.mem_singleton.mp hr]; exact fun y hy => by rw [List.mem_singleton.mp hy]; exact hxo, by simp⟩, fun y hy => by rw [List.mem_singleton.mp hy]; exact hm⟩
  | neg _ hg ih => exact ⟨strOk_app (strOk_app (by decide +kernel) (gap_ok _ hg)) ih.1, ih.2.ng hl⟩
  | bin r _ _ h1 h2 h3 h4 ih1 ih2 => exact ⟨strOk_app (strOk_app (strOk_app (strOk_app (by decide +kernel) (gap_ok _ h1)) (strOk_app (strOk_app (strOk_app (strOk_app ih1.1 (gap_ok _ h2)) (sOk_opW r)) (gap_ok _ h3)) ih2.1)) (gap_ok _ h4)) (by decide +kernel), ih1.2.bin hl r ih2.2⟩
theorem le_app {a b : Str} {m n : Nat} (ha : a.length ≤ m) (hb : b.length ≤ n) : (a ++ b).length ≤ m + n := by rw [Str.length_append]; omega
theorem rd_addB {a b : Str} {m n : Nat} (ha : a.length ≤ m) (hb : b.length ≤ n) (h : m + n ≤ 100000) : R2D rAddS (.str a) (.str b) (.str (a ++ b)) := rd_addS (by omega)
theorem lenX3 {d : Nat} (h : d ≤ 3) : lenX d ≤ 141 := by
  match d, h with
  | 0, _ => decide
  | 1, _ => decide
  | 2, _ => decide
  | 3, _ => decide
theorem pick4 (C : Addr) (v1 v2 : Sy) {x : Nat} (h : x < 4) : ∃ r : _root_.Fin 3, [Du.D.str "&", .str "^", .str "|", .str "&"][x]? = some (.str (opW r)) ∧ [sD C (binS 2 v1 v2), sD C (binS 1 v1 v2), sD C (binS 0 v1 v2), sD C (binS 2 v1 v2)][x]? = some (sD C (binS r v1 v2)) := by
  match x, h with
  | 0, _ => exact ⟨2, rfl, rfl⟩
  | 1, _ => exact ⟨1, rfl, rfl⟩
  | 2, _ => exact ⟨0, rfl, rfl⟩
  | 3, _ => exact ⟨2, rfl, rfl⟩
def costX : Nat → Nat
  | 0 => 2
  | d + 1 => 2 * costX d + 5
theorem costX_pos (d : Nat) : 2 ≤ costX d := by induction d with
  | zero => exact Nat.le_refl _
  | succ d ih => unfold costX; omega
section
variable {P : Program} {w : World} {K : PySem.W.Frag} {mg : Str → Option Value} {base : Heap} {C : Addr}
theorem mkCalX {x : Str} {st : Stmt} {f : Addr} {fd : FuncData} {ps : List Str} {k : Nat} {sp : Sp} (F : Fun K x x st f fd) (hm : mg x = some (.ref f)) (hb : Binds K fd ps []) (ok : FnOk P w K mg base CX0 k f fd ps sp) : C8.Cal P w K mg base k x sp [] := ⟨f, fd, ps, [], ok, hm, F.kp, hb, .nil⟩
theorem fn_noneX {x qual : Str} {st : Stmt} {f : Addr} {fd : FuncData} {N ps : List Str} {sp : Sp} {k : Nat} (F : Fun K x qual st f fd) (S : FnScope N ps (defScope st)) (h : ∀ vs H Q E, ¬ sp vs H Q E) : FnOk P w K mg base CX0 (k + 1) f fd ps sp := F.ok S (fun vs H Q E g => (h _ _ _ _ g).elim) (fun cdv A outer s H vs Q E hr g => (h _ _ _ _ g).elim)
def RExpr (C : Addr) (d : Nat) (ds : List D) (μ : Mu) (Φ : D → Mu → Prop) : Prop := ∃ (a c : Addr) (N : Nat) (ns : List Str), ds = [.ptr a, lS ns, .int d] ∧ BxS a c N μ ∧ N + costX d < 90000 ∧ ns.length ≤ 12 ∧ (∀ n ∈ ns, nmOk n = true) ∧ d ≤ 4 ∧
  ∀ (μ' : Mu) (s : Str) (v : Sy), BxS a c (N + costX d) μ' → ExT ns d s v → Φ (.tup [.str s, sD C v]) μ'
def RExprP (C : Addr) (k : Nat) (ds : List D) (μ : Mu) (Φ : D → Mu → Prop) : Prop := ∃ d, k = d + 1 ∧ RExpr C d ds μ Φ
abbrev s_law_expression : Stmt := top 30
abbrev n_law_expression : List Str := ["_law_box_here", "_law_names", "_law_deep", "_law_way", "_law_sign", "_law_told", "_law_inner", "_law_word", "_law_text", "_law_say", "_law_more", "_law_other"]
theorem sc_law_expression : FnScope n_law_expression ["_law_box_here", "_law_names", "_law_deep"] (defScope s_law_expression) := ⟨rfl, rfl, rfl, by decide +kernel, rfl, by decide +kernel, by decide +kernel⟩

theorem ok_law_expression {f : Addr} {fd : FuncData} (k : Nat) (F : Fun K "_law_expression" "_law_expression" s_law_expression f fd) (T : Tx K mg C) (c_law_take : C8.Cal P w K mg base 1 "_law_take" (spM RTake) []) (c_law_pick : C8.Cal P w K mg base 2 "_law_pick" (spM RPk) []) (c_law_gap : C8.Cal P w K mg base 3 "_law_gap" (spM RGap) [])
    (o_and : OBin P w K mg base 4 C .BitAnd (spP (ROpG C (· && ·)))) (o_or : OBin P w K mg base 4 C .BitOr (spP (ROpG C (· || ·)))) (o_xor : OBin P w K mg base 4 C .BitXor (spP (ROpG C (fun a b => !eqD (.bl a) (.bl b))))) (o_inv : OInv P w K mg base 4 C (spP (RInv C)))
    (s_test : OSm P w K mg base 3 C "test" (spP (RTest C))) (s_yes : OSm P w K mg base 3 C "yes" (spP (RYes C))) (s_no : OSm P w K mg base 3 C "no" (spP (RNo C)))
    (c_law_expression : C8.Cal P w K mg base (k + 5) "_law_expression" (spM (RExprP C k)) []) : FnOk P w K mg base CX0 (k + 6) f fd ["_law_box_here", "_law_names", "_law_deep"] (spM (RExpr C k)) := by
  refine eff_ok F sc_law_expression (fun ds μ Φ h => ?_) (fun cdv A outer s H E hr => ?_)
  · obtain ⟨a, c, N, ns, rfl, _⟩ := h; rfl
  · refine ⟨_, (pss_cons (ps_set (i := 3) sc_law_expression.nd rfl (by first | exact Or.inl rfl | exact Or.inr rfl) (pe_ifExp (pt_cmpR op_gt (pv 2) pe_int (nomark _)) (C8.pe_c c_law_take hr (by omega) rfl (pa_cons (pv 0) (pa_cons pe_int pa_nil))) pe_int)) (pss_cons (ps_if (pt_cmpR op_lt (pv 3) pe_int (nomark _)) (pss_cons (ps_set (i := 7) sc_law_expression.nd rfl (by first | exact Or.inl rfl | exact Or.inr rfl) (C8.pe_c c_law_pick hr (by omega) rfl (pa_cons (pv 0) (pa_cons (pe_op (k_addU (K := K) rfl) (pv 1) (pe_lst (pa_cons pe_str (pa_cons pe_str pa_nil)))) pa_nil)))) (pss_cons (ps_if (pt_cmpR (k_inU (K := K) rfl hr) (pv 7) (pe_tup (pa_cons pe_str (pa_cons pe_str pa_nil))) (by rfl)) (pss_one (ps_ret (pe_tup (pa_cons (pv 7) (pa_cons (pe_ifExp (pt_cmpR (k_eq (K := K) rfl hr) (pv 7) pe_str (nomark _)) (k_sm0 s_yes hr (by omega) (pe_glob (v := .ref _) rfl T.g_Say rfl)) (k_sm0 s_no hr (by omega) (pe_glob (v := .ref _) rfl T.g_Say rfl))) pa_nil))))) pss_nil) (pss_one (ps_ret (pe_tup (pa_cons (pv 7) (pa_cons (k_sm s_test hr (by omega) (pe_glob (v := .ref _) rfl T.g_Say rfl) (pa_cons (pv 7) pa_nil)) pa_nil))))))) pss_nil) (pss_cons (ps_asg (C8.pe_c c_law_expression hr (by omega) rfl (pa_cons (pv 0) (pa_cons (pv 1) (pa_cons (pe_op op_sub (pv 2) pe_int) pa_nil)))) (k_pgt (K := K) (n := 2) rfl rfl (pgs_cons (pg_name (i := 8) sc_law_expression.nd rfl (by first | exact Or.inl rfl | exact Or.inr rfl)) (pgs_cons (pg_name (i := 9) sc_law_expression.nd rfl (by first | exact Or.inl rfl | exact Or.inr rfl)) pgs_nil)))) (pss_cons (ps_if (pt_cmpR (k_eq (K := K) rfl hr) (pv 3) pe_int (nomark _)) (pss_one (ps_ret (pe_tup (pa_cons (pe_op k_addS (pe_op k_addS pe_str (C8.pe_c c_law_gap hr (by omega) rfl (pa_cons (pv 0) pa_nil))) (pv 8)) (pa_cons (pe_un (k_inv o_inv hr (by omega)) (pv 9)) pa_nil))))) pss_nil) (pss_cons (ps_asg (C8.pe_c c_law_expression hr (by omega) rfl (pa_cons (pv 0) (pa_cons (pv 1) (pa_cons (pe_op op_sub (pv 2) pe_int) pa_nil)))) (k_pgt (K := K) (n := 2) rfl rfl (pgs_cons (pg_name (i := 10) sc_law_expression.nd rfl (by first | exact Or.inl rfl | exact Or.inr rfl)) (pgs_cons (pg_name (i := 11) sc_law_expression.nd rfl (by first | exact Or.inl rfl | exact Or.inr rfl)) pgs_nil)))) (pss_cons (ps_set (i := 4) sc_law_expression.nd rfl (by first | exact Or.inl rfl | exact Or.inr rfl) (pe_ix (k_ix (K := K) rfl) (pe_lst (pa_cons pe_str (pa_cons pe_str (pa_cons pe_str (pa_cons pe_str pa_nil))))) (pe_op op_sub (pv 3) pe_int) (fun _ _ => rfl))) (pss_cons (ps_set (i := 5) sc_law_expression.nd rfl (by first | exact Or.inl rfl | exact Or.inr rfl) (pe_ix (k_ix (K := K) rfl) (pe_lst (pa_cons (pe_op (k_bin o_and hr (by omega)) (pv 9) (pv 11)) (pa_cons (pe_op (k_bin o_xor hr (by omega)) (pv 9) (pv 11)) (pa_cons (pe_op (k_bin o_or hr (by omega)) (pv 9) (pv 11)) (pa_cons (pe_op (k_bin o_and hr (by omega)) (pv 9) (pv 11)) pa_nil))))) (pe_op op_sub (pv 3) pe_int) (fun _ _ => rfl))) (pss_cons (ps_set (i := 6) sc_law_expression.nd rfl (by first | exact Or.inl rfl | exact Or.inr rfl) (pe_op k_addS (pe_op k_addS (pe_op k_addS (pe_op k_addS (pv 8) (C8.pe_c c_law_gap hr (by omega) rfl (pa_cons (pv 0) pa_nil))) (pv 4)) (C8.pe_c c_law_gap hr (by omega) rfl (pa_cons (pv 0) pa_nil))) (pv 10))) (pss_one (ps_ret (pe_tup (pa_cons (pe_op k_addS (pe_op k_addS (pe_op k_addS (pe_op k_addS pe_str (C8.pe_c c_law_gap hr (by omega) rfl (pa_cons (pv 0) pa_nil))) (pv 6)) (C8.pe_c c_law_gap hr (by omega) rfl (pa_cons (pv 0) pa_nil))) pe_str) (pa_cons (pv 5) pa_nil))))))))))))), ?_⟩
    intro ds μ Φ h
    obtain ⟨a, c, N, ns, rfl, hs, hN, hl, hnm, hk4, q⟩ := h
    have hcp := costX_pos k
    have evC : ∀ {ρ : Rho}, Ev (tC (.ref C)) ρ (.ptr C) := fun {ρ} _ _ H _ _ _ q => q _ H (Ex.rf H) (.ptr C)
    have sgl : ∀ {n : Str}, n ∈ ns → OkV ns ([n], [[n]]) := fun hm => ((ExT.name (d := 0) hm).ok hnm hl).2
    have hq : ∀ {μ' : Mu} {s : Str} {v : Sy} {M : Nat}, BxS a c M μ' → M ≤ N + costX k → ExT ns k s v → μ'.map (·.1) = μ.map (·.1) ∧ Φ (.tup [.str s, sD C v]) μ' := fun h1 h2 h3 => ⟨by rw [h1.fst, hs.fst], q _ _ _ (h1.up h2) h3⟩
    refine gs_mid (fun ρ' μ' => ∃ way : Nat, ρ' = [some (.ptr a), some (lS ns), some (.int k), some (.int way), none, none, none, none, none, none, none, none] ∧ BxS a c (N + 1) μ' ∧ way < 7 ∧ (k = 0 → way = 0)) (gs_asg (ge_ifE (gt_ev (b := decide ((0 : Int) < k)) (et_test (ev_op (ev_var rfl) ev_int rd_gt)) ?_))) ?_
    · by_cases h0 : k = 0
      · rw [if_neg (by simp [h0])]
        exact ge_ev ev_int ⟨0, rfl, hs.up (by omega), by omega, fun _ => rfl⟩
      · rw [if_pos (by simp; omega)]
        exact ge_callA (gea_ev (ev_cons (ev_var rfl) (ev_cons ev_int ev_nil)) ⟨a, c, N, 7, rfl, hs, by omega, by omega, by omega, fun μ1 way hs1 hw => ⟨way, rfl, hs1, hw, fun z => absurd z h0⟩⟩)
    rintro ρ' μ1 ⟨way, rfl, hs1, hw7, hw0⟩
    refine gs_mid (fun ρ' μ' => ρ' = [some (.ptr a), some (lS ns), some (.int k), some (.int way), none, none, none, none, none, none, none, none] ∧ μ' = μ1 ∧ 2 ≤ way) (gs_if (gt_ev (b := decide ((way : Int) < 2)) (et_test (ev_op (ev_var rfl) ev_int rd_lt)) ?_)) ?_
    · by_cases h2 : way < 2
      · rw [if_pos (by simp; omega)]
        have e : Du.D.lst ((ns ++ (["0", "1"] : List Str)).map Du.D.str) = .lst (ns.map Du.D.str ++ [.str "0", .str "1"]) := by simp
        refine gs_seq (gs_asg (ge_callA (gea_ev (ds := [.ptr a, .lst ((ns ++ (["0", "1"] : List Str)).map Du.D.str)]) (ev_cons (ev_var rfl) (ev_cons (by rw [e]; exact ev_op (ev_var rfl) (ev_lst (ev_cons ev_str (ev_cons ev_str ev_nil)) (by simp)) (rd_addL (by simp; omega))) ev_nil)) ⟨a, c, N + 1, _, rfl, hs1, by omega, by simp, by simp; omega, fun μ2 d hs2 hd => ?_⟩)))
        obtain ⟨x, hx, rfl⟩ := List.mem_map.mp hd
        have hxo : PyData.strOk x = true := by
          rcases List.mem_append.mp hx with h | h
          · exact nm_strOk (hnm x h)
          · have : ∀ y ∈ (["0", "1"] : List Str), PyData.strOk y = true := by decide +kernel
            exact this x h
        refine gs_seq (gs_if (gt_ev (b := decide (x ∈ (["0", "1"] : List Str))) (by
          rw [← inD_strs]
          exact et_test (ev_op (ev_var rfl) (ev_tup (ev_cons ev_str (ev_cons ev_str ev_nil)) (by simp)) (rd_inT (ok_str hxo) ((okN_tup (n := 0) fun d hd => by
            rcases List.mem_cons.mp hd with rfl | hd
            · exact okN_str (by decide +kernel)
            · have := List.mem_singleton.mp hd; subst this; exact okN_str (by decide +kernel)).e (by decide))))) ?_))
        by_cases h01 : x ∈ (["0", "1"] : List Str)
        · rw [if_pos (decide_eq_true h01)]
          simp only [List.mem_cons, List.not_mem_nil, or_false] at h01
          rcases h01 with rfl | rfl
          · exact gs_ret (ge_ev (ev_tup (ev_cons (ev_var rfl) (ev_cons (ev_if (b := false) ((show decide (("0" : Str) = "1") = false by decide +kernel) ▸ et_eqS (ev_var rfl) hxo (by decide +kernel)) (fun h => by cases h) fun _ => ev_sm0 evC ⟨rfl, rfl⟩) ev_nil)) (by simp)) (hq hs2 (by omega) .zero))
          · exact gs_ret (ge_ev (ev_tup (ev_cons (ev_var rfl) (ev_cons (ev_if (b := true) ((show decide (("1" : Str) = "1") = true by decide +kernel) ▸ et_eqS (ev_var rfl) hxo (by decide +kernel)) (fun _ => ev_sm0 evC ⟨rfl, rfl⟩) fun h => by cases h) ev_nil)) (by simp)) (hq hs2 (by omega) .one))
        · rw [if_neg (by simpa using h01)]
          have hxn : x ∈ ns := (List.mem_append.mp hx).resolve_right h01
          exact gs_next (gs_ret (ge_ev (ev_tup (ev_cons (ev_var rfl) (ev_cons (ev_sm evC (ev_cons (ev_var rfl) ev_nil) ⟨x, rfl, hnm x hxn, rfl⟩) ev_nil)) (by simp)) (hq hs2 (by omega) (.name hxn))))
      · rw [if_neg (by simp; omega)]
        exact gs_next ⟨rfl, rfl, by omega⟩
    rintro ρ' μ1 ⟨rfl, rfl, hw2⟩
    obtain ⟨d, rfl⟩ : ∃ d, k = d + 1 := by
      cases k with
      | zero => have := hw0 rfl; omega
      | succ d => exact ⟨d, rfl⟩
    have hcd : costX (d + 1) = 2 * costX d + 5 := rfl
    have hd1 : (((d + 1 : Nat) : Int) - 1) = (d : Int) := by omega
    have hld : lenX d ≤ 141 := lenX3 (by omega)
    refine gs_seq (gs_asgG (ge_callA (gea_ev (ev_cons (ev_var rfl) (ev_cons (ev_var rfl) (ev_cons (ev_op (ev_var rfl) ev_int rd_sub) ev_nil))) ⟨d, rfl, a, c, N + 1, ns, by rw [hd1], hs1, by omega, hl, hnm, by omega, fun μ2 s1 v1 hs2 ht1 => ⟨_, ga_tup (gas_cons ga_name (gas_cons ga_name gas_nil)) rfl, ?_⟩⟩)))
    have ok1 := ht1.ok hnm hl
    have l1 := ht1.len hnm
    refine gs_mid (fun ρ' μ' => ρ' = [some (.ptr a), some (lS ns), some (.int ((d + 1 : Nat) : Int)), some (.int way), none, none, none, none, some (.str s1), some (sD C v1), none, none] ∧ μ' = μ2 ∧ way ≠ 2) (gs_if (gt_ev (b := decide (way = 2)) ?_ ?_)) ?_
    · have e : decide (way = 2) = eqD (.int (way : Int)) (.int 2) := by rw [eqD_int]; exact decide_eq_decide.mpr (by omega)
      rw [e]
      exact et_test (ev_op (ev_var rfl) ev_int (rd_eq ok_int ok_int))
    · by_cases h2 : way = 2
      · rw [if_pos (decide_eq_true h2)]
        refine gs_ret (ge_tup (gea_cons (ge_op (ge_op (ge_ev ev_str (ge_callA (gea_ev (ev_cons (ev_var rfl) ev_nil) ⟨a, c, N + 1 + costX d, rfl, hs2, by omega, fun μ3 g hs3 hg => ⟨_, rd_addS (by have := gap_len g hg; have := one_len.1; omega), ge_ev (ev_var rfl) ⟨_, rd_addS (by rw [Str.length_append]; have := gap_len g hg; have := one_len.1; omega), ?_⟩⟩⟩)))))))
        exact gea_ev (ev_cons (ev_un (ev_var rfl) (r1_inv ⟨v1.1, v1.2, rfl, ok1.2.wf, rfl⟩)) ev_nil) ⟨by simp, hq hs3 (by omega) (.neg ht1 hg)⟩
      · rw [if_neg (by simpa using h2)]
        exact gs_next ⟨rfl, rfl, h2⟩
    rintro ρ' μ2 ⟨rfl, rfl, hwn⟩
    refine gs_seq (gs_asgG (ge_callA (gea_ev (ev_cons (ev_var rfl) (ev_cons (ev_var rfl) (ev_cons (ev_op (ev_var rfl) ev_int rd_sub) ev_nil))) ⟨d, rfl, a, c, N + 1 + costX d, ns, by rw [hd1], hs2, by omega, hl, hnm, by omega, fun μ3 s2 v2 hs3 ht2 => ⟨_, ga_tup (gas_cons ga_name (gas_cons ga_name gas_nil)) rfl, ?_⟩⟩)))
    have ok2 := ht2.ok hnm hl
    have l2 := ht2.len hnm
    have few2 : (uniq (v1.1 ++ v2.1)).length ≤ 12 := few hl fun x hx => (List.mem_append.mp hx).elim (ok1.2.sub x) (ok2.2.sub x)
    have hw3 : ((way : Int) - 3) = ((way - 3 : Nat) : Int) := by omega
    obtain ⟨r, hr1, hr2⟩ := pick4 C v1 v2 (show way - 3 < 4 by omega)
    refine gs_seq (gs_asg (ge_ev (d := .str (opW r)) (ev_op (ev_lst (ev_cons ev_str (ev_cons ev_str (ev_cons ev_str (ev_cons ev_str ev_nil)))) (by simp)) (ev_op (ev_var rfl) ev_int rd_sub) (by rw [hw3]; exact rd_ixL hr1)) ?_))
    refine gs_seq (gs_asg (ge_ev (d := sD C (binS r v1 v2)) (ev_op (ev_lst (ds := [sD C (binS 2 v1 v2), sD C (binS 1 v1 v2), sD C (binS 0 v1 v2), sD C (binS 2 v1 v2)]) (ev_cons (ev_op (ev_var rfl) (ev_var rfl) (rd_bin ⟨v1.1, v1.2, v2.1, v2.2, rfl, ok1.2.wf, ok2.2.wf, few2, rfl⟩)) (ev_cons (ev_op (ev_var rfl) (ev_var rfl) (rd_bin ⟨v1.1, v1.2, v2.1, v2.2, rfl, ok1.2.wf, ok2.2.wf, few2, rfl⟩)) (ev_cons (ev_op (ev_var rfl) (ev_var rfl) (rd_bin ⟨v1.1, v1.2, v2.1, v2.2, rfl, ok1.2.wf, ok2.2.wf, few2, rfl⟩)) (ev_cons (ev_op (ev_var rfl) (ev_var rfl) (rd_bin ⟨v1.1, v1.2, v2.1, v2.2, rfl, ok1.2.wf, ok2.2.wf, few2, rfl⟩)) ev_nil)))) (by simp)) (ev_op (ev_var rfl) ev_int rd_sub) (by rw [hw3]; exact rd_ixL hr2)) ?_))
    have lr := opW_len r
    have lp := one_len.2.1
    have lq := one_len.2.2.1
    have gap : ∀ {ρ : Rho} {M : Nat} {μ' : Mu} {Φ' : Du.D → Mu → Prop}, ρ[0]? = some (some (.ptr a)) → BxS a c M μ' → M < 90000 → (∀ μ'' g, BxS a c (M + 1) μ'' → g ∈ gaps → Φ' (.str g) μ'') → GE (tCall (spM RGap) [] C8.E0 (tCons (tVar 0) tNil)) ρ μ' Φ' := fun h0 hb hM hq => ge_callA (gea_ev (ev_cons (ev_var h0) ev_nil) ⟨a, c, _, rfl, hb, by omega, hq⟩)
    have b1 : s1.length ≤ 141 := by omega
    have b2 : s2.length ≤ 141 := by omega
    refine gs_seq (gs_asg (ge_op (ge_op (ge_op (ge_op (ge_ev (ev_var rfl) (gap rfl hs3 (by omega) fun μ4 g2 hs4 hg2 => ?_)))))))
    have k1 := le_app b1 (gap_len _ hg2)
    have k2 := le_app k1 (Nat.le_of_eq lr)
    refine ⟨_, rd_addB b1 (gap_len _ hg2) (by omega), ge_ev (ev_var rfl) ⟨_, rd_addB k1 (Nat.le_of_eq lr) (by omega), gap rfl hs4 (by omega) fun μ5 g3 hs5 hg3 => ?_⟩⟩
    have k3 := le_app k2 (gap_len _ hg3)
    have k4 := le_app k3 b2
    refine ⟨_, rd_addB k2 (gap_len _ hg3) (by omega), ge_ev (ev_var rfl) ⟨_, rd_addB k3 b2 (by omega), ?_⟩⟩
    refine gs_ret (ge_tup (gea_cons (ge_op (ge_op (ge_op (ge_op (ge_ev ev_str (gap rfl hs5 (by omega) fun μ6 g1 hs6 hg1 => ?_))))))))
    have j1 := le_app (Nat.le_of_eq lp) (gap_len _ hg1)
    have j2 := le_app j1 k4
    refine ⟨_, rd_addB (Nat.le_of_eq lp) (gap_len _ hg1) (by omega), ge_ev (ev_var rfl) ⟨_, rd_addB j1 k4 (by omega), gap rfl hs6 (by omega) fun μ7 g4 hs7 hg4 => ?_⟩⟩
    have j3 := le_app j2 (gap_len _ hg4)
    refine ⟨_, rd_addB j2 (gap_len _ hg4) (by omega), ge_ev ev_str ⟨_, rd_addB j3 (Nat.le_of_eq lq) (by omega), ?_⟩⟩
    exact gea_ev (ev_cons (ev_var rfl) ev_nil) ⟨by simp, hq hs7 (by omega) (.bin r ht1 ht2 hg1 hg2 hg3 hg4)⟩
theorem all_law_expression {f : Addr} {fd : FuncData} (F : Fun K "_law_expression" "_law_expression" s_law_expression f fd) (hm : mg "_law_expression" = some (.ref f)) (hb : Binds K fd ["_law_box_here", "_law_names", "_law_deep"] []) (T : Tx K mg C) (c_law_take : C8.Cal P w K mg base 1 "_law_take" (spM RTake) []) (c_law_pick : C8.Cal P w K mg base 2 "_law_pick" (spM RPk) []) (c_law_gap : C8.Cal P w K mg base 3 "_law_gap" (spM RGap) [])
    (o_and : OBin P w K mg base 4 C .BitAnd (spP (ROpG C (· && ·)))) (o_or : OBin P w K mg base 4 C .BitOr (spP (ROpG C (· || ·)))) (o_xor : OBin P w K mg base 4 C .BitXor (spP (ROpG C (fun a b => !eqD (.bl a) (.bl b))))) (o_inv : OInv P w K mg base 4 C (spP (RInv C)))
    (s_test : OSm P w K mg base 3 C "test" (spP (RTest C))) (s_yes : OSm P w K mg base 3 C "yes" (spP (RYes C))) (s_no : OSm P w K mg base 3 C "no" (spP (RNo C))) : ∀ k, C8.Cal P w K mg base (k + 6) "_law_expression" (spM (RExpr C k)) []
  | 0 => mkCalX F hm hb (ok_law_expression 0 F T c_law_take c_law_pick c_law_gap o_and o_or o_xor o_inv s_test s_yes s_no (mkCalX F hm hb (fn_noneX F sc_law_expression fun vs H Q E h => by obtain ⟨Z, ds, μ, Φ, _, _, _, ⟨d, h, _⟩, _⟩ := h; cases h)))
  | k + 1 => mkCalX F hm hb (ok_law_expression (k + 1) F T c_law_take c_law_pick c_law_gap o_and o_or o_xor o_inv s_test s_yes s_no (by
      obtain ⟨f', fd', ps', ds', ok, h1, h2, h3, h4⟩ := (all_law_expression F hm hb T c_law_take c_law_pick c_law_gap o_and o_or o_xor o_inv s_test s_yes s_no k).ex
      have e : spM (RExprP C (k + 1)) = spM (RExpr C k) := by
        have : RExprP C (k + 1) = RExpr C k := by
          funext ds μ Φ
          apply propext
          exact ⟨fun ⟨d, e, h⟩ => by cases e; exact h, fun h => ⟨k, rfl, h⟩⟩
        rw [this]
      rw [e]
      exact ⟨f', fd', ps', ds', ok, h1, h2, h3, h4⟩))
end
end Du
namespace Du
open PySem L2 Pz
/-! the law's own reading -/
def partsD (s : Str) : D := match tokS inSay s with
  | some ws => .lst (ws.map D.str)
  | none => .non
section
variable {P : Program} {w : World} {K : PySem.W.Frag} {mg : Str → Option Value} {base : Heap} {C : Addr}
def RParts (ds : List D) (d : D) : Prop := ∃ s : Str, ds = [.str s] ∧ s.length ≤ 3000 ∧ PyData.strOk s = true ∧ d = partsD s
abbrev s_law_parts : Stmt := top 31
abbrev n_law_parts : List Str := ["_law_text", "_law_found", "_law_at", "_law_letters", "_law_end"]
theorem sc_law_parts : FnScope n_law_parts ["_law_text"] (defScope s_law_parts) := ⟨rfl, rfl, rfl, by decide +kernel, rfl, by decide +kernel, by decide +kernel⟩

theorem ok_law_parts {f : Addr} {fd : FuncData} (F : Fun K "_law_parts" "_law_parts" s_law_parts f fd) (T : Bn mg) : FnOk P w K mg base CX0 3 f fd ["_law_text"] (spP RParts) := by
  refine FnOk.imp (sp := spM (fun ds μ Φ => ∃ d, RParts ds d ∧ Φ d μ)) ?_ spP_ofM
  refine eff_okM F sc_law_parts (fun ds μ Φ h => ?_) (fun cdv A outer s H E hr => ?_)
  · obtain ⟨d, ⟨s, rfl, _⟩, _⟩ := h; rfl
  · refine ⟨_, (pss_cons (ps_par3 (i := 1) (j := 2) (l := 3) rfl sc_law_parts.nd rfl rfl rfl (by decide) (by decide) (by decide) rfl rfl rfl (pa_cons (pe_lst pa_nil) (pa_cons pe_int (pa_cons pe_str pa_nil))) (by rfl)) (pss_cons (ps_while PassesOwn.never (pt_cmpR op_lt (pv 2) (pe_callB (k_len (K := K) rfl) (by rfl) T.len (by decide +kernel) (pa_cons (pv 0) pa_nil)) (nomark _)) (pss_cons (ps_set (i := 4) sc_law_parts.nd rfl (by first | exact Or.inl rfl | exact Or.inr rfl) (pe_op (k_addU (K := K) rfl) (pv 2) pe_int)) (pss_cons (ps_if (pt_cmpR op_in_sign (pe_ix (k_ix (K := K) rfl) (pv 0) (pv 2) (fun _ _ => rfl)) (pv 3) (by rfl)) (pss_one (ps_while PassesOwn.never (PW.pt (pw_and (pt_cmpR op_lt (pv 4) (pe_callB (k_len (K := K) rfl) (by rfl) T.len (by decide +kernel) (pa_cons (pv 0) pa_nil)) (nomark _)) (pw_and1 (pt_cmpR op_in_sign (pe_ix (k_ix (K := K) rfl) (pv 0) (pv 4) (fun _ _ => rfl)) (pv 3) (by rfl))))) (pss_one (ps_set (i := 4) sc_law_parts.nd rfl (by first | exact Or.inl rfl | exact Or.inr rfl) (pe_op (k_addU (K := K) rfl) (pv 4) pe_int))))) pss_nil) (pss_cons (ps_if (PW.pt (pw_or (pt_cmpR op_notIn_sign (pe_ix (k_ix (K := K) rfl) (pv 0) (pv 2) (fun _ _ => rfl)) (pe_op k_addS (pv 3) pe_str) (by rfl)) (pw_or1 (pt_cmpR op_gt (pe_op op_sub (pv 4) (pv 2)) pe_int (nomark _))))) (pss_one (ps_ret pe_non)) pss_nil) (pss_cons (ps_if (pt_cmpR (k_ne (K := K) rfl hr) (pe_ix (k_ix (K := K) rfl) (pv 0) (pv 2) (fun _ _ => rfl)) pe_str (nomark _)) (pss_one (ps_expr (k_bm (K := K) rfl PySem.F.plainAttrs_list PySem.F.slot_list_append PySem.F.type_list_append mt_append (pv 1) (pa_cons (pe_slice k_slS (pv 0) (po_some (pv 2)) (po_some (pv 4))) pa_nil)))) pss_nil) (pss_one (ps_set (i := 2) sc_law_parts.nd rfl (by first | exact Or.inl rfl | exact Or.inr rfl) (pv 4)))))))) (pss_one (ps_ret (pv 1))))), ?_⟩
    intro ds μ Φ h
    obtain ⟨d, ⟨s, rfl, hl, ho, rfl⟩, hq⟩ := h
    refine gn_of_gnb (E := fun _ _ _ => False) (CU := 0) ?_
    unfold partsD at hq
    have hlen : (cpl s).length = s.length := cpl_len s
    refine gnb_seq (gnb_gn (gn_par3X (gxa_cons (gx_new ef_nil fun a ha => gxa_cons (gx_ge (ge_ev ev_int (gxa_cons (gx_ge (ge_ev ev_str (gxa_nil ⟨_, _, _, rfl, ?_⟩))))))))))
    refine gnb_mid (fun ρ' μ' => ∃ (acc : List Str) (e : Option D), ρ' = [some (.str s), some (.ptr a), some (.int s.length), some (.str letters), e] ∧ μ' = (a, .lst (acc.map D.str)) :: μ ∧ tokS inSay s = some acc) (gnb_while (fun m ρ' μ' => ∃ (at_ : Nat) (acc : List Str) (e : Option D), m = s.length - at_ ∧ at_ ≤ s.length ∧ ρ' = [some (.str s), some (.ptr a), some (.int at_), some (.str letters), e] ∧ μ' = (a, .lst (acc.map D.str)) :: μ ∧ acc.length ≤ at_ ∧
        tokS inSay s = (toks inSay (s.length - at_) ((cpl s).drop at_)).map (acc ++ ·)) (Lq.rf _) ⟨0, [], none, rfl, Nat.zero_le _, rfl, rfl, Nat.le_refl _, ?_⟩ ?_) ?_
    · show tokS _ s = (toks _ (s.length - 0) ((cpl s).drop 0)).map ([] ++ ·)
      rw [Nat.sub_zero, List.drop_zero]
      unfold tokS
      cases toks inSay s.length (cpl s) <;> rfl
    · rintro m ρ' μ' ⟨i, acc, e, rfl, hi, rfl, rfl, hac, ht⟩
      refine gt_ev (et_test (ev_op (ev_var rfl) (ev_cb (ev_cons (ev_var rfl) ev_nil) (rl_lenS (by omega))) rd_lt)) ?_
      by_cases hlt : i < s.length
      · rw [if_pos (by simp; omega)]
        obtain ⟨c, hc⟩ : ∃ c, (cpl s)[i]? = some c := ⟨_, List.getElem?_eq_getElem (by rw [hlen]; exact hlt)⟩
        have hdr : (cpl s).drop i = c :: (cpl s).drop (i + 1) := by
          rw [List.drop_eq_getElem_cons (by rw [hlen]; exact hlt)]
          congr 1
          exact Option.some.inj ((List.getElem?_eq_getElem _).symm.trans hc)
        have hcm : c < 0x110000 := strOk_cp ho (List.mem_of_getElem? hc)
        have evc : ∀ {ρ : Rho}, ρ[0]? = some (some (.str s)) → ρ[2]? = some (some (.int i)) → Ev (tOp (rIx K) (tVar 0) (tVar 2)) ρ (.str (sg c)) := fun h0 h3 => ev_op (ev_var h0) (ev_var h3) (rd_ixS (by omega) hc)
        generalize hrs : (cpl s).drop (i + 1) = rs at hdr
        generalize hk : (rs.takeWhile isL).length = k
        have hrl : rs.length = s.length - (i + 1) := by rw [← hrs, List.length_drop, hlen]
        have hkr : k ≤ rs.length := by rw [← hk]; exact (List.takeWhile_sublist _).length_le
        have hgt : ∀ j, j < k → ∃ d, (cpl s)[i + 1 + j]? = some d ∧ isL d = true := fun j hj => by
          have h1 : j < (rs.takeWhile isL).length := by omega
          have h2 : (rs.takeWhile isL)[j] ∈ rs.takeWhile isL := List.getElem_mem _
          refine ⟨(rs.takeWhile isL)[j], ?_, take_all h2⟩
          have h3 : rs[j]? = some ((rs.takeWhile isL)[j]) := by
            have := (List.takeWhile_prefix (l := rs) isL).getElem h1
            rw [this]; exact List.getElem?_eq_getElem _
          rw [← h3, ← hrs, List.getElem?_drop]
        have hge : ∀ d, (cpl s)[i + 1 + k]? = some d → isL d = false := fun d hd => by
          rw [← List.getElem?_drop, hrs, ← hk] at hd
          exact take_stop hd
        obtain ⟨n, hn⟩ : ∃ n, n = if isL c then k else 0 := ⟨_, rfl⟩
        have hnk : n ≤ k := by rw [hn]; split <;> omega
        refine gnb_seq (gnb_gs (gs_asg (ge_ev (ev_op (ev_var rfl) ev_int rd_addI) ?_)))
        refine gnb_mid (fun ρ' μ' => ρ' = [some (.str s), some (.ptr a), some (.int i), some (.str letters), some (.int (i + 1 + n : Nat))] ∧ μ' = (a, .lst (acc.map D.str)) :: μ) (gnb_if (gt_ev (b := isL c) (et_test (ev_op (evc rfl rfl) (ev_var rfl) rd_inSg)) ?_)) ?_
        · by_cases hL : isL c = true
          · rw [if_pos hL]
            rw [if_pos hL] at hn
            refine gnb_while (fun m ρ' μ' => ∃ j, m = n - j ∧ j ≤ n ∧ ρ' = [some (.str s), some (.ptr a), some (.int i), some (.str letters), some (.int (i + 1 + j : Nat))] ∧ μ' = (a, .lst (acc.map D.str)) :: μ) (Lq.rf _) ⟨0, rfl, Nat.zero_le _, rfl, rfl⟩ ?_
            rintro m ρ' μ' ⟨j, rfl, hj, rfl, rfl⟩
            refine gt_ev (b := decide (j < n)) ?_ ?_
            · have e : (decide (((i + 1 + j : Nat) : Int) < s.length) && decide (((cpl s)[i + 1 + j]?.getD 0) ∈ cpl letters)) = decide (j < n) := by
                show (decide (((i + 1 + j : Nat) : Int) < s.length) && isL ((cpl s)[i + 1 + j]?.getD 0)) = decide (j < n)
                by_cases hjk : j < k
                · obtain ⟨d, h1, h2⟩ := hgt j hjk
                  rw [h1]
                  have : i + 1 + j < s.length := by omega
                  simp [h2, hn, hjk]; omega
                · have : j = k := by omega
                  subst this
                  by_cases hlt2 : i + 1 + j < s.length
                  · obtain ⟨d, h1⟩ : ∃ d, (cpl s)[i + 1 + j]? = some d := ⟨_, List.getElem?_eq_getElem (by rw [hlen]; exact hlt2)⟩
                    have h2 := hge d h1
                    rw [h1]
                    simp [h2, hn]
                  · have : ¬ (((i + 1 + j : Nat) : Int) < s.length) := by omega
                    simp [hn]; omega
              rw [← e]
              exact et_and (et_test (ev_op (ev_var rfl) (ev_cb (ev_cons (ev_var rfl) ev_nil) (rl_lenS (by omega))) rd_lt)) fun h2 => et_test (ev_op (ev_op (ev_var rfl) (ev_var rfl) (rd_ixS (by omega) (by
                have : i + 1 + j < (cpl s).length := by rw [hlen]; have := of_decide_eq_true h2; omega
                rw [List.getElem?_eq_getElem this]; rfl))) (ev_var rfl) rd_inSg)
            · by_cases hjn : j < n
              · rw [if_pos (by simpa using hjn)]
                exact gnb_gs (gs_asg (ge_ev (ev_op (ev_var rfl) ev_int rd_addI) ⟨_, n - (j + 1), by omega, Lq.rf _, j + 1, rfl, hjn, rfl, rfl⟩))
              · rw [if_neg (by simpa using hjn)]
                have : j = n := by omega
                subst this
                exact ⟨rfl, rfl⟩
          · rw [if_neg hL]
            rw [if_neg hL] at hn
            subst hn
            exact gnb_next ⟨rfl, rfl⟩
        · rintro ρ' μ' ⟨rfl, rfl⟩
          have htk : toks inSay (s.length - i) ((cpl s).drop i) = if isL c then (if 8 < k + 1 then none else (toks inSay (s.length - (i + 1 + n)) ((cpl s).drop (i + 1 + n))).map (cutN s i (i + 1 + n) :: ·))
              else if inSay c then (toks inSay (s.length - (i + 1 + n)) ((cpl s).drop (i + 1 + n))).map (cutN s i (i + 1 + n) :: ·) else if c = 32 then toks inSay (s.length - (i + 1 + n)) ((cpl s).drop (i + 1 + n)) else none := by
            rw [hdr, show s.length - i = (s.length - (i + 1)) + 1 by omega, toks_cons]
            have hd1 : (cpl s).drop (i + 1 + n) = rs.drop n := by rw [← List.drop_drop, hrs]
            have ecut : cutN s i (i + 1 + n) = ⟨(c :: rs.take n).toArray⟩ := by
              unfold cutN
              rw [hdr, show i + 1 + n - i = n + 1 by omega, List.take_succ_cons]
            rw [hd1, ecut, hk]
            cases hL : isL c with
            | true =>
              rw [hL] at hn
              have hn' : n = k := hn
              have et : rs.take n = rs.takeWhile isL := by rw [hn', ← hk]; exact take_len
              rw [et, hn']
              rw [toks_more (n := s.length - (i + 1)) (m := s.length - (i + 1 + k)) (by rw [List.length_drop]; omega) (by rw [List.length_drop]; omega), if_pos rfl, if_pos rfl]
            | false =>
              rw [hL] at hn
              have hn' : n = 0 := hn
              subst hn'
              rw [List.drop_zero, List.take_zero, if_neg Bool.false_ne_true, if_neg Bool.false_ne_true]
          refine gnb_seq (gnb_if (gt_ev (et_or (et_test (ev_op (evc rfl rfl) (ev_op (ev_var rfl) ev_str (rd_addS (by decide +kernel))) rd_notInSg)) fun _ => et_test (ev_op (ev_op (ev_var rfl) (ev_var rfl) rd_sub) ev_int rd_gt)) ?_))
          have eb : ((!decide (c ∈ cpl (letters ++ "01~&^|() "))) || decide ((8 : Int) < ((i + 1 + n : Nat) : Int) - i)) = ((!isL c && (!inSay c && !decide (c = 32))) || decide (8 < n + 1)) := by
            have h8 : decide ((8 : Int) < ((i + 1 + n : Nat) : Int) - i) = decide (8 < n + 1) := decide_eq_decide.mpr (by omega)
            have hs : cpl ("01~&^|() " : Str) = cpl sayS ++ [32] := by decide +kernel
            have hm : decide (c ∈ cpl (letters ++ "01~&^|() ")) = (isL c || (inSay c || decide (c = 32))) := by
              rw [cpl_app, hs]
              unfold isL inSay
              rw [← Bool.decide_or, ← Bool.decide_or]
              exact decide_eq_decide.mpr (by simp only [List.mem_append, List.mem_singleton])
            rw [h8, hm]
            cases isL c <;> cases inSay c <;> rfl
          rw [eb]
          by_cases hbad : ((!isL c && (!inSay c && !decide (c = 32))) || decide (8 < n + 1)) = true
          · rw [if_pos hbad]
            have hnone : tokS inSay s = none := by
              rw [ht, htk]
              cases hL : isL c with
              | true =>
                rw [hL] at hn hbad
                have hn' : n = k := hn
                have : 8 < k + 1 := by simpa [hn'] using hbad
                simp [this]
              | false =>
                rw [hL] at hn hbad
                have hn' : n = 0 := hn
                have : inSay c = false ∧ ¬ c = 32 := by simpa [hn'] using hbad
                rw [if_neg Bool.false_ne_true, if_neg (by rw [this.1]; exact Bool.false_ne_true), if_neg this.2]; rfl
            rw [hnone] at hq
            exact gnb_gn (gn_ret (gx_ge (ge_ev ev_non ⟨[(a, .lst (acc.map D.str))], μ, rfl, rfl, hq⟩)))
          · rw [if_neg hbad]
            refine gnb_next (gnb_seq (gnb_if (gt_ev (et_neS (evc rfl rfl) (strOk_sg hcm) sp_ok) ?_)))
            rw [sg_sp]
            have hgood : (isL c = true → ¬ 8 < k + 1) ∧ (isL c = false → inSay c = false → c = 32) := by
              refine ⟨fun hL => ?_, fun hL hnq => ?_⟩
              · rw [hL] at hn hbad
                have hn' : n = k := hn
                simpa [hn'] using hbad
              · rw [hL] at hn hbad
                have hn' : n = 0 := hn
                simpa [hn', hnq] using hbad
            by_cases hsp : c = 32
            · have hL : isL c = false := by rw [hsp]; decide +kernel
              have hq0 : inSay c = false := by rw [hsp]; decide +kernel
              rw [if_neg (by simp [hsp])]
              refine gnb_next (gnb_gs (gs_asg (ge_ev (ev_var rfl) ⟨_, s.length - (i + 1 + n), by omega, Lq.rf _, i + 1 + n, acc, _, rfl, by omega, rfl, rfl, by omega, ?_⟩)))
              rw [ht, htk, hL, if_neg Bool.false_ne_true, if_neg (by rw [hq0]; exact Bool.false_ne_true), if_pos hsp]
            · rw [if_pos (by simp [hsp])]
              refine gnb_gs (gs_drop (ge_append (ge_ev (ev_var rfl) ⟨a, 0, _, rfl, rfl, gea_ev (ev_cons (ev_cutS (i := i) (j := i + 1 + n) (ev_var rfl) (eo_some (ev_var rfl)) (eo_some (ev_var rfl)) (by omega) (sIx_le' _ _ (by omega)) (by rw [HT.sIx_nat]; omega)) ev_nil) ⟨_, _, rfl, rfl, by rw [List.length_map]; omega, ?_⟩⟩)))
              refine gnb_gs (gs_asg (ge_ev (ev_var rfl) ⟨_, s.length - (i + 1 + n), by omega, Lq.rf _, i + 1 + n, acc ++ [cutN s i (i + 1 + n)], _, rfl, by omega, rfl, ?_, by rw [List.length_append, List.length_singleton]; omega, ?_⟩))
              · rw [List.map_append]; rfl
              · rw [ht, htk]
                have e : ∀ o : Option (List Str), Option.map (acc ++ ·) (Option.map (cutN s i (i + 1 + n) :: ·) o) = Option.map ((acc ++ [cutN s i (i + 1 + n)]) ++ ·) o := fun o => by cases o <;> simp
                cases hL : isL c with
                | true =>
                  rw [if_pos rfl, if_neg (hgood.1 hL), e]
                | false =>
                  have : inSay c = true := by
                    cases hq2 : inSay c with
                    | true => rfl
                    | false => exact absurd (hgood.2 hL hq2) hsp
                  rw [if_neg (by simp), if_pos this, e]
      · rw [if_neg (by simp; omega)]
        have : i = s.length := by omega
        subst this
        refine ⟨acc, e, rfl, rfl, ?_⟩
        rw [ht, Nat.sub_self]
        simp [toks]
    · rintro ρ' μ' ⟨acc, e, rfl, rfl, ht⟩
      rw [ht] at hq
      exact gnb_gn (gn_freeze (μ1 := []) (i := 1) rfl (gn_ret (gx_ge (ge_ev (ev_var rfl) ⟨[], μ, rfl, rfl, hq⟩))))
end
end Du
namespace Du
open PySem L2 Pz
/-! the law's parser -/
abbrev tkL (ws : List Str) (i : Nat) : List (Tk Sy) := (ws.drop i).map tkW
def resD (C : Addr) (ws : List Str) : Option (Sy × List (Tk Sy)) → D
  | none => .non
  | some (v, rest) => .tup [sD C v, .int ((ws.length - rest.length : Nat) : Int)]
def sgsX : Nat → Str
  | 0 => "|^&"
  | 1 => "^&"
  | 2 => "&"
  | _ => ""
/-- what is known of the parts -/
structure PtK (L ws : List Str) : Prop where
  lw : ws.length ≤ 3000
  lL : L.length ≤ 12
  wd : ∀ w ∈ ws, w ∈ signs8 ∨ (nmOk w = true ∧ ¬ w ∈ signs8)
  nm : ∀ w ∈ ws, nmOk w = true → w ∈ L
theorem PtK.ok {L ws : List Str} (h : PtK L ws) : okS ws := fun w hw => by
  rcases h.wd w hw with h | ⟨h, _⟩
  · have : ∀ y ∈ signs8, PyData.strOk y = true := by decide +kernel
    exact this w h
  · exact nm_strOk h
theorem okSing {L : List Str} {x : Str} (hxo : PyData.strOk x = true) (hx : x ∈ L) : OkV L ([x], [[x]]) := ⟨⟨by simp, fun y hy => by rw [List.mem_singleton.mp hy]; exact hxo, fun r hr => by rw [List.mem_singleton.mp hr]; exact fun y hy => by rw [List.mem_singleton.mp hy]; exact hxo, by simp⟩, fun y hy => by rw [List.mem_singleton.mp hy]; exact hx⟩
theorem ok_no (L : List Str) : OkV L ([], []) := ⟨wf_nil, fun _ h => absurd h (by simp)⟩
theorem ok_yes (L : List Str) : OkV L ([], [[]]) := ⟨⟨by decide, fun _ h => absurd h (by simp), fun p hp => by rw [List.mem_singleton.mp hp]; exact fun _ h => absurd h (by simp), by decide⟩, fun _ h => absurd h (by simp)⟩
theorem not01 {w : Str} (h : ¬ w = ("0" : Str)) (g : ¬ w = ("1" : Str)) : ¬ w ∈ (["0", "1"] : List Str) := by simp [h, g]
theorem PtK.val {L ws : List Str} (h : PtK L ws) {w : Str} (hw : w ∈ ws) {u : Sy} (e : tkW w = .val u) : OkV L u := by
  rcases h.wd w hw with h8 | ⟨hn, h8⟩
  · by_cases h0 : w = ("0" : Str)
    · rw [h0, tk_01.1] at e; cases e; exact ok_no L
    · by_cases h1 : w = ("1" : Str)
      · rw [h1, tk_01.2] at e; cases e; exact ok_yes L
      · have := tk_sign h8 (not01 h0 h1)
        rw [e] at this; cases this
  · rw [tk_name h8] at e; cases e
    exact okSing (nm_strOk hn) (h.nm w hw hn)
theorem PtK.vals {L ws : List Str} (h : PtK L ws) (i : Nat) : ∀ u, Tk.val u ∈ tkL ws i → OkV L u := fun u hu => by
  obtain ⟨w, hw, e⟩ := List.mem_map.mp hu
  exact h.val (List.mem_of_mem_drop hw) e
theorem tkL_suffix {ws : List Str} {i : Nat} {rest : List (Tk Sy)} (h : rest <:+ tkL ws i) : rest = tkL ws (ws.length - rest.length) := by
  obtain ⟨pre, e⟩ := h
  have h1 : (tkL ws i).length = ws.length - i := by simp [tkL]
  have h2 : pre.length + rest.length = ws.length - i := by rw [← h1, ← e, List.length_append]
  have h3 : rest = (tkL ws i).drop pre.length := by rw [← e]; simp
  rw [h3]
  unfold tkL
  rw [← List.map_drop, List.drop_drop, List.length_map, List.length_drop]
  by_cases hr : rest.length = 0
  · have a : (ws.drop (i + pre.length)) = [] := List.drop_eq_nil_of_le (by omega)
    rw [a]
    simp
    omega
  · congr 2; omega
theorem tkL_cons {ws : List Str} {i : Nat} {x : Str} (h : ws[i]? = some x) : tkL ws i = tkW x :: tkL ws (i + 1) := by
  have hi : i < ws.length := (List.getElem?_eq_some_iff.mp h).1
  unfold tkL
  rw [List.drop_eq_getElem_cons hi, List.map_cons]
  congr 2
  exact Option.some.inj ((List.getElem?_eq_getElem _).symm.trans h)
theorem tkL_nil {ws : List Str} {i : Nat} (h : ws.length ≤ i) : tkL ws i = [] := by unfold tkL; rw [List.drop_eq_nil_of_le h]; rfl
theorem tkW_op {x : Str} {r : _root_.Fin 3} (h : tkW x = .op r) : x = opW r := by
  unfold tkW at h
  by_cases h1 : x = ("0" : Str)
  · rw [if_pos h1] at h; cases h
  rw [if_neg h1] at h
  by_cases h2 : x = ("1" : Str)
  · rw [if_pos h2] at h; cases h
  rw [if_neg h2] at h
  by_cases h3 : x = ("~" : Str)
  · rw [if_pos h3] at h; cases h
  rw [if_neg h3] at h
  by_cases h4 : x = ("&" : Str)
  · rw [if_pos h4] at h; cases h; exact h4
  rw [if_neg h4] at h
  by_cases h5 : x = ("^" : Str)
  · rw [if_pos h5] at h; cases h; exact h5
  rw [if_neg h5] at h
  by_cases h6 : x = ("|" : Str)
  · rw [if_pos h6] at h; cases h; exact h6
  rw [if_neg h6] at h
  by_cases h7 : x = ("(" : Str)
  · rw [if_pos h7] at h; cases h
  rw [if_neg h7] at h
  by_cases h8 : x = (")" : Str)
  · rw [if_pos h8] at h; cases h
  rw [if_neg h8] at h; cases h
theorem opW_mem (r : _root_.Fin 3) : opW r ∈ signs8 ∧ ¬ opW r ∈ (["0", "1"] : List Str) := by
  match r with
  | 0 => decide +kernel
  | 1 => decide +kernel
  | 2 => decide +kernel
theorem opW_inj {r q : _root_.Fin 3} (h : opW r = opW q) : r = q := by
  have : ∀ r q : _root_.Fin 3, opW r = opW q → r = q := by decide +kernel
  exact this _ _ h
theorem tk_op (r : _root_.Fin 3) : tkW (opW r) = .op r := by
  have h := tk_sign (opW_mem r).1 (opW_mem r).2
  generalize e : opW r = x at h
  cases hk : tkW x with
  | op q => rw [tkW_op hk] at e; rw [opW_inj e]
  | val v => rw [hk] at h; cases h
  | neg => rw [hk] at h; cases h; exact absurd e (by match r with | 0 => decide +kernel | 1 => decide +kernel | 2 => decide +kernel)
  | lp => rw [hk] at h; cases h; exact absurd e (by match r with | 0 => decide +kernel | 1 => decide +kernel | 2 => decide +kernel)
  | rp => rw [hk] at h; cases h; exact absurd e (by match r with | 0 => decide +kernel | 1 => decide +kernel | 2 => decide +kernel)
section
variable {P : Program} {w : World} {K : PySem.W.Frag} {mg : Str → Option Value} {base : Heap} {C : Addr}
def RSing (C : Addr) (n : Nat) (ds : List D) (d : D) : Prop := ∃ (ws L : List Str) (i : Nat), ds = [lS ws, .int i] ∧ PtK L ws ∧ i ≤ ws.length ∧ opens (tkL ws i) ≤ n ∧ d = resD C ws (pS binS ngS n (tkL ws i))
def RLev (C : Addr) (n l : Nat) (ds : List D) (d : D) : Prop := ∃ (ws L : List Str) (i : Nat), ds = [lS ws, .int i, .str (sgsX l)] ∧ PtK L ws ∧ i ≤ ws.length ∧ opens (tkL ws i) ≤ n ∧ d = resD C ws (lv binS (pS binS ngS n) (3 - l) (tkL ws i))
def RLevP (C : Addr) (n l : Nat) (ds : List D) (d : D) : Prop := ∃ l', l' < 4 ∧ l' = l + 1 ∧ RLev C n l' ds d
abbrev s_law_level : Stmt := top 32
abbrev n_law_level : List Str := ["_law_parts_here", "_law_at", "_law_signs", "_law_told", "_law_more", "_law_both", "_law_one", "_law_other"]
theorem sc_law_level : FnScope n_law_level ["_law_parts_here", "_law_at", "_law_signs"] (defScope s_law_level) := ⟨rfl, rfl, rfl, by decide +kernel, rfl, by decide +kernel, by decide +kernel⟩

abbrev s_law_single : Stmt := top 33
abbrev n_law_single : List Str := ["_law_parts_here", "_law_at", "_law_told", "_law_is_closed"]
theorem sc_law_single : FnScope n_law_single ["_law_parts_here", "_law_at"] (defScope s_law_single) := ⟨rfl, rfl, rfl, by decide +kernel, rfl, by decide +kernel, by decide +kernel⟩

theorem res_some {ws : List Str} {v : Sy} {rest : List (Tk Sy)} : resD C ws (some (v, rest)) = .tup [sD C v, .int ((ws.length - rest.length : Nat) : Int)] := rfl
theorem sgs0 (l : _root_.Fin 3) : (cpl (sgsX l.val))[0]? = some ((cpl (opW l)).head!) ∧ sg ((cpl (opW l)).head!) = opW l ∧ cutN (sgsX l.val) 1 (sgsX l.val).length = sgsX (l.val + 1) ∧ decide (sgsX l.val = ("" : Str)) = false ∧ (sgsX l.val).length ≤ 10 ∧ 1 ≤ (sgsX l.val).length ∧ PyData.strOk (sgsX l.val) = true := by
  match l with
  | 0 => decide +kernel
  | 1 => decide +kernel
  | 2 => decide +kernel
theorem ok_law_level {f : Addr} {fd : FuncData} (n l k : Nat) (hl4 : l < 4) (hk : 4 ≤ k) (F : Fun K "_law_level" "_law_level" s_law_level f fd) (T : Tx K mg C)
    (o_and : OBin P w K mg base 4 C .BitAnd (spP (ROpG C (· && ·)))) (o_or : OBin P w K mg base 4 C .BitOr (spP (ROpG C (· || ·)))) (o_xor : OBin P w K mg base 4 C .BitXor (spP (ROpG C (fun a b => !eqD (.bl a) (.bl b)))))
    (c_law_single : C8.Cal P w K mg base k "_law_single" (spP (fun ds d => l = 3 ∧ RSing C n ds d)) []) (c_law_level : C8.Cal P w K mg base k "_law_level" (spP (RLevP C n l)) []) : FnOk P w K mg base CX0 (k + 1) f fd ["_law_parts_here", "_law_at", "_law_signs"] (spP (RLev C n l)) := by
  refine pure_ok F sc_law_level (fun ds d h => ?_) (fun cdv A outer s H E hr => ?_)
  · obtain ⟨ws, L, i, rfl, _⟩ := h; rfl
  · refine ⟨_, (pss_cons (ps_if (pt_cmpR (k_eq (K := K) rfl hr) (pv 2) pe_str (nomark _)) (pss_one (ps_ret (C8.pe_c c_law_single hr (by omega) rfl (pa_cons (pv 0) (pa_cons (pv 1) pa_nil))))) pss_nil) (pss_cons (ps_set (i := 3) sc_law_level.nd rfl (by first | exact Or.inl rfl | exact Or.inr rfl) (C8.pe_c c_law_level hr (by omega) rfl (pa_cons (pv 0) (pa_cons (pv 1) (pa_cons (pe_slice k_slS (pv 2) (po_some pe_int) po_none) pa_nil))))) (pss_cons (ps_while PassesOwn.never (PW.pt (pw_and (pt_cmpR op_notN (pv 3) pe_non (nomark _)) (pw_and (pt_cmpR op_lt (pe_ix (k_ix (K := K) rfl) (pv 3) pe_int (fun _ _ => rfl)) (pe_callB (k_len (K := K) rfl) (by rfl) T.len (by decide +kernel) (pa_cons (pv 0) pa_nil)) (nomark _)) (pw_and1 (pt_cmpR (k_eq (K := K) rfl hr) (pe_ix (k_ix (K := K) rfl) (pv 0) (pe_ix (k_ix (K := K) rfl) (pv 3) pe_int (fun _ _ => rfl)) (fun _ _ => rfl)) (pe_ix (k_ix (K := K) rfl) (pv 2) pe_int (fun _ _ => rfl)) (nomark _)))))) (pss_cons (ps_set (i := 4) sc_law_level.nd rfl (by first | exact Or.inl rfl | exact Or.inr rfl) (C8.pe_c c_law_level hr (by omega) rfl (pa_cons (pv 0) (pa_cons (pe_op (k_addU (K := K) rfl) (pe_ix (k_ix (K := K) rfl) (pv 3) pe_int (fun _ _ => rfl)) pe_int) (pa_cons (pe_slice k_slS (pv 2) (po_some pe_int) po_none) pa_nil))))) (pss_cons (ps_if (pt_cmpR op_isN (pv 4) pe_non (nomark _)) (pss_one (ps_ret pe_non)) pss_nil) (pss_cons (ps_par (i := 6) (j := 7) rfl sc_law_level.nd rfl rfl (by decide) rfl rfl (pa_cons (pe_ix (k_ix (K := K) rfl) (pv 3) pe_int (fun _ _ => rfl)) (pa_cons (pe_ix (k_ix (K := K) rfl) (pv 4) pe_int (fun _ _ => rfl)) pa_nil)) (by rfl)) (pss_cons (ps_set (i := 5) sc_law_level.nd rfl (by first | exact Or.inl rfl | exact Or.inr rfl) (pe_ifExp (pt_cmpR (k_eq (K := K) rfl hr) (pe_ix (k_ix (K := K) rfl) (pv 2) pe_int (fun _ _ => rfl)) pe_str (nomark _)) (pe_op (k_bin o_and hr (by omega)) (pv 6) (pv 7)) (pe_ifExp (pt_cmpR (k_eq (K := K) rfl hr) (pe_ix (k_ix (K := K) rfl) (pv 2) pe_int (fun _ _ => rfl)) pe_str (nomark _)) (pe_op (k_bin o_xor hr (by omega)) (pv 6) (pv 7)) (pe_op (k_bin o_or hr (by omega)) (pv 6) (pv 7))))) (pss_one (ps_set (i := 3) sc_law_level.nd rfl (by first | exact Or.inl rfl | exact Or.inr rfl) (pe_tup (pa_cons (pv 5) (pa_cons (pe_ix (k_ix (K := K) rfl) (pv 4) pe_int (fun _ _ => rfl)) pa_nil)))))))))) (pss_one (ps_ret (pv 3)))))), ?_⟩
    intro ds d h
    obtain ⟨ws, L, i, rfl, hp, hi, ho, rfl⟩ := h
    by_cases h3 : l = 3
    · subst h3
      exact .inl (st_seqR (st_if (b := true) ((show decide (("" : Str) = "") = true by decide +kernel) ▸ et_eqS (s := "") (t := "") (ev_var rfl) (by decide +kernel) (by decide +kernel)) (fun _ => st_ret (ev_call (ev_cons (ev_var rfl) (ev_cons (ev_var rfl) ev_nil)) ⟨rfl, ws, L, i, rfl, hp, hi, ho, rfl⟩)) fun h => by cases h))
    · obtain ⟨lf, rfl⟩ : ∃ lf : _root_.Fin 3, l = lf.val := ⟨⟨l, by omega⟩, rfl⟩
      obtain ⟨g1, g2, g3, g4, g5, g6, g7⟩ := sgs0 lf
      have h31 : 3 - lf.val = (3 - (lf.val + 1)) + 1 := by have := lf.isLt; omega
      have h32 : 2 - (3 - (lf.val + 1)) = lf.val := by have := lf.isLt; omega
      have fpos : GoodF (OkV L) (lv binS (pS binS ngS n) (3 - (lf.val + 1))) := lv_ok (OkV.all hp.lL).1 (pS_ok (OkV.all hp.lL).1 (OkV.all hp.lL).2 n) _
      have flen : ∀ ts v rest, lv binS (pS binS ngS n) (3 - (lf.val + 1)) ts = some (v, rest) → rest.length ≤ ts.length := (lv_good (pS_good n).1 (pS_good n).2 _ (by omega)).2
      have esg : ∀ {ρ : Rho}, ρ[2]? = some (some (.str (sgsX lf.val))) → Ev (tOp (rIx K) (tVar 2) (tC (.int 0))) ρ (.str (opW lf)) := fun h => g2 ▸ ev_op (ev_var h) ev_int (rd_ixS (i := 0) (by omega) g1)
      have ecut : ∀ {ρ : Rho}, ρ[2]? = some (some (.str (sgsX lf.val))) → Ev (tSl rSlS (tVar 2) (tPart (tC (.int 1))) tNoPart) ρ (.str (sgsX (lf.val + 1))) := fun h => by
        have := ev_cutS (i := 1) (j := (sgsX lf.val).length) (ev_var h) (eo_some (ev_int (i := 1))) eo_none (by omega) (sIx_le' _ 1 (by omega)) (HT.sIx_none _ _)
        rw [g3] at this; exact this
      refine .inl (st_seq (st_if (b := false) (g4 ▸ et_eqS (ev_var rfl) g7 (by decide +kernel)) (fun h => by cases h) fun _ => st_next) ?_)
      refine st_gs (gs_seq (gs_asg (ge_ev (d := resD C ws (lv binS (pS binS ngS n) (3 - (lf.val + 1)) (tkL ws i))) (ev_call (ev_cons (ev_var rfl) (ev_cons (ev_var rfl) (ev_cons (ecut rfl) ev_nil))) ⟨lf.val + 1, by omega, rfl, ws, L, i, rfl, hp, hi, ho, rfl⟩) ?_)))
      have hR : lv binS (pS binS ngS n) (3 - lf.val) (tkL ws i) = match lv binS (pS binS ngS n) (3 - (lf.val + 1)) (tkL ws i) with | none => none | some (v, ts') => loop binS (lv binS (pS binS ngS n) (3 - (lf.val + 1))) lf.val ts'.length v ts' := by
        rw [h31]
        rw [lv_succ, h32]
        cases lv binS (pS binS ngS n) (3 - (lf.val + 1)) (tkL ws i) with
        | none => rfl
        | some p => rfl
      generalize hf : lv binS (pS binS ngS n) (3 - (lf.val + 1)) = f at *
      have fst : ∀ v rest, f (tkL ws i) = some (v, rest) → OkV L v ∧ rest <:+ tkL ws i := fun v rest e => fpos _ _ _ (hp.vals i) e
      rw [hR]
      generalize hG : (match f (tkL ws i) with | none => none | some (v, ts') => loop binS f lf.val ts'.length v ts') = G
      refine gs_mid (fun ρ' μ' => ρ'[3]? = some (some (resD C ws G)) ∧ μ' = []) (gs_while (fun m ρ' μ' => ∃ (o : Option (Sy × List (Tk Sy))) (x4 x5 x6 x7 : Option Du.D), ρ' = [some (lS ws), some (.int i), some (.str (sgsX lf.val)), some (resD C ws o), x4, x5, x6, x7] ∧ μ' = [] ∧ m = (match o with | none => 0 | some (v, rest) => rest.length) ∧
          (∀ v rest, o = some (v, rest) → OkV L v ∧ rest <:+ tkL ws i) ∧ G = (match o with | none => none | some (v, rest) => loop binS f lf.val rest.length v rest)) (Lq.rf _) ⟨f (tkL ws i), none, none, none, none, rfl, rfl, rfl, fst, hG.symm⟩ ?_) ?_
      · rintro m ρ' μ' ⟨o, x4, x5, x6, x7, rfl, rfl, rfl, hok, he⟩
        cases o with
        | none =>
          refine gt_ev (b := false) (et_and (b := false) (c := false) (et_test (ev_op (ev_var rfl) ev_non rd_notNo)) fun h => by cases h) ?_
          rw [if_neg Bool.false_ne_true]
          exact ⟨by rw [he]; rfl, rfl⟩
        | some p =>
          obtain ⟨v, rest⟩ := p
          obtain ⟨hv, hsuf⟩ := hok v rest rfl
          have hrest := tkL_suffix hsuf
          have hrl : rest.length ≤ ws.length := by have := hsuf.length_le; simp [tkL] at this; omega
          generalize hj : ws.length - rest.length = j at hrest
          have ej : ∀ {ρ : Rho}, ρ[3]? = some (some (resD C ws (some (v, rest)))) → Ev (tOp (rIx K) (tVar 3) (tC (.int 1))) ρ (.int (j : Nat)) := fun h => by
            rw [← hj]; exact ev_op (ev_var h) ev_int (rd_ixT (i := 1) rfl)
          have t0 : EvT (tTest (tOp (fun x y H Q => y = .non ∧ Q (.bl (!decide (x = .non))) H) (tVar 3) (tC .non))) [some (lS ws), some (.int i), some (.str (sgsX lf.val)), some (resD C ws (some (v, rest))), x4, x5, x6, x7] true := et_test (ev_op (ev_var rfl) ev_non rd_notNo)
          have he : G = loop binS f lf.val rest.length v rest := he
          by_cases hjl : j < ws.length
          · obtain ⟨x, hx⟩ : ∃ x, ws[j]? = some x := ⟨_, List.getElem?_eq_getElem hjl⟩
            have hcons := tkL_cons hx
            have hxm := List.mem_of_getElem? hx
            have hxo := hp.ok x hxm
            refine gt_ev (b := decide (x = opW lf)) (by
              rw [show decide (x = opW lf) = (true && (true && decide (x = opW lf))) by simp]
              exact et_and t0 fun _ => et_and (b := true) (c := decide (x = opW lf)) (by
                have h1 : decide ((j : Int) < (((ws.map D.str).length : Nat) : Int)) = true := decide_eq_true (by rw [List.length_map]; omega)
                rw [← h1]
                exact et_test (ev_op (ej rfl) (ev_cb (ev_cons (ev_var rfl) ev_nil) rl_lenL) rd_lt)) fun _ => (by
                rw [← eqD_str]
                exact et_test (ev_op (ev_op (ev_var rfl) (ej rfl) (rd_ixL (by rw [List.getElem?_map, hx]; rfl))) (esg rfl) (rd_eq (ok_str hxo) (ok_str (sOk_opW lf)))))) ?_
            by_cases hxop : x = opW lf
            · rw [if_pos (decide_eq_true hxop)]
              have hrc : rest = .op lf :: tkL ws (j + 1) := by rw [hrest, hcons, hxop, tk_op]
              have hsuf2 : tkL ws (j + 1) <:+ tkL ws i := by
                refine List.IsSuffix.trans ?_ hsuf
                rw [hrc]; exact List.suffix_cons _ _
              have hlen2 : rest.length = (tkL ws (j + 1)).length + 1 := by rw [hrc]; rfl
              have hlo : loop binS f lf.val rest.length v rest = match f (tkL ws (j + 1)) with | none => none | some (w', ts') => loop binS f lf.val (tkL ws (j + 1)).length (binS lf v w') ts' := by
                rw [hlen2, hrc]
                show (if lf.val = lf.val then _ else _) = _
                rw [if_pos rfl]
                cases f (tkL ws (j + 1)) with
                | none => rfl
                | some p => rfl
              refine gs_seq (gs_asg (ge_ev (d := resD C ws (f (tkL ws (j + 1)))) (ev_call (ev_cons (ev_var rfl) (ev_cons (ev_op (ej rfl) ev_int rd_addI) (ev_cons (ecut rfl) ev_nil))) ⟨lf.val + 1, by omega, rfl, ws, L, j + 1, rfl, hp, by omega, Nat.le_trans (opens_suffix hsuf2) ho, by rw [hf]⟩) ?_))
              cases hm : f (tkL ws (j + 1)) with
              | none =>
                rw [hm] at hlo
                refine gs_seq (gs_if (gt_ev (b := true) (et_test (ev_op (ev_var rfl) ev_non rd_isNo)) ?_))
                rw [if_pos rfl]
                exact gs_ret (ge_ev ev_non (by rw [he, hlo]; rfl))
              | some p =>
                obtain ⟨v2, ts2⟩ := p
                rw [hm] at hlo
                obtain ⟨hv2, hs2⟩ := fpos _ _ _ (hp.vals (j + 1)) hm
                have few2 : (uniq (v.1 ++ v2.1)).length ≤ 12 := few hp.lL fun x hx => (List.mem_append.mp hx).elim (hv.sub x) (hv2.sub x)
                refine gs_seq (gs_if (gt_ev (b := false) (et_test (ev_op (ev_var rfl) ev_non rd_isNo)) ?_))
                rw [if_neg Bool.false_ne_true]
                refine gs_next (gs_seq (gs_st (st_par (ev_cons (ev_op (ev_var rfl) ev_int (rd_ixT (i := 0) rfl)) (ev_cons (ev_op (ev_var rfl) ev_int (rd_ixT (i := 0) rfl)) ev_nil))) ?_))
                have ebin : Ev (tIf (tTest (tOp (rEqD K) (tOp (rIx K) (tVar 2) (tC (.int 0))) (tC (.str "&")))) (tOp (rBin C (spP (ROpG C (· && ·))) C8.E0) (tVar 6) (tVar 7)) (tIf (tTest (tOp (rEqD K) (tOp (rIx K) (tVar 2) (tC (.int 0))) (tC (.str "^")))) (tOp (rBin C (spP (ROpG C (fun a b => !eqD (.bl a) (.bl b)))) C8.E0) (tVar 6) (tVar 7)) (tOp (rBin C (spP (ROpG C (· || ·))) C8.E0) (tVar 6) (tVar 7)))) [some (lS ws), some (.int i), some (.str (sgsX lf.val)), some (resD C ws (some (v, rest))), some (resD C ws (some (v2, ts2))), x5, some (sD C v), some (sD C v2)] (sD C (binS lf v v2)) := by
                  have e1 := et_eqS (K := K) (esg (ρ := [some (lS ws), some (.int i), some (.str (sgsX lf.val)), some (resD C ws (some (v, rest))), some (resD C ws (some (v2, ts2))), x5, some (sD C v), some (sD C v2)]) rfl) (sOk_opW lf) sOk_amp
                  have e2 := et_eqS (K := K) (esg (ρ := [some (lS ws), some (.int i), some (.str (sgsX lf.val)), some (resD C ws (some (v, rest))), some (resD C ws (some (v2, ts2))), x5, some (sD C v), some (sD C v2)]) rfl) (sOk_opW lf) sOk_hat
                  match lf, e1, e2 with
                  | 2, e1, e2 => exact ev_if (b := true) ((show decide (opW 2 = ("&" : Str)) = true by decide +kernel) ▸ e1) (fun _ => ev_op (ev_var rfl) (ev_var rfl) (rd_bin ⟨v.1, v.2, v2.1, v2.2, rfl, hv.wf, hv2.wf, few2, rfl⟩)) fun h => by cases h
                  | 1, e1, e2 => exact ev_if (b := false) ((show decide (opW 1 = ("&" : Str)) = false by decide +kernel) ▸ e1) (fun h => by cases h) fun _ => ev_if (b := true) ((show decide (opW 1 = ("^" : Str)) = true by decide +kernel) ▸ e2) (fun _ => ev_op (ev_var rfl) (ev_var rfl) (rd_bin ⟨v.1, v.2, v2.1, v2.2, rfl, hv.wf, hv2.wf, few2, rfl⟩)) fun h => by cases h
                  | 0, e1, e2 => exact ev_if (b := false) ((show decide (opW 0 = ("&" : Str)) = false by decide +kernel) ▸ e1) (fun h => by cases h) fun _ => ev_if (b := false) ((show decide (opW 0 = ("^" : Str)) = false by decide +kernel) ▸ e2) (fun h => by cases h) fun _ => ev_op (ev_var rfl) (ev_var rfl) (rd_bin ⟨v.1, v.2, v2.1, v2.2, rfl, hv.wf, hv2.wf, few2, rfl⟩)
                refine gs_seq (gs_asg (ge_ev ebin ?_))
                refine gs_asg (ge_ev (ev_tup (ev_cons (ev_var rfl) (ev_cons (ev_op (ev_var rfl) ev_int (rd_ixT (i := 1) rfl)) ev_nil)) (by simp)) ⟨_, ts2.length, by have := hs2.length_le; show ts2.length < rest.length; omega, Lq.rf _, some (binS lf v v2, ts2), _, _, _, _, rfl, rfl, rfl, fun v' rest' e => ?_, ?_⟩)
                · cases e; exact ⟨hv.bin hp.lL lf hv2, hs2.trans hsuf2⟩
                · rw [he, hlo]
                  exact loop_more flen _ _ _ _ hs2.length_le (Nat.le_refl _)
            · rw [if_neg (by simpa using hxop)]
              refine ⟨?_, rfl⟩
              have : loop binS f lf.val rest.length v rest = some (v, rest) := by
                have hr2 : rest = tkW x :: tkL ws (j + 1) := by rw [hrest, hcons]
                rw [hr2]
                show loop binS f lf.val ((tkL ws (j + 1)).length + 1) v (tkW x :: tkL ws (j + 1)) = _
                cases hk : tkW x with
                | op r =>
                  show (if r.val = lf.val then _ else _) = _
                  rw [if_neg (fun z => hxop (by rw [tkW_op hk]; congr 1; exact _root_.Fin.ext z))]
                | val u => rfl
                | neg => rfl
                | lp => rfl
                | rp => rfl
              rw [he, this]; rfl
          · have hnil : rest = [] := by rw [hrest]; exact tkL_nil (by omega)
            refine gt_ev (b := false) (by
              rw [show false = (true && (false && false)) from rfl]
              exact et_and t0 fun _ => et_and (b := false) (c := false) (by
                have h1 : decide ((j : Int) < (((ws.map D.str).length : Nat) : Int)) = false := decide_eq_false (by rw [List.length_map]; omega)
                rw [← h1]
                exact et_test (ev_op (ej rfl) (ev_cb (ev_cons (ev_var rfl) ev_nil) rl_lenL) rd_lt)) fun h => by cases h) ?_
            rw [if_neg Bool.false_ne_true]
            exact ⟨by rw [he, hnil]; rfl, rfl⟩
      · rintro ρ' μ' ⟨h3, rfl⟩
        exact gs_ret (ge_ev (ev_var h3) rfl)
end
end Du
namespace Du
open PySem L2 Pz
theorem tkL_len (ws : List Str) (i : Nat) : (tkL ws i).length = ws.length - i := by simp [tkL]
theorem pS_nil (n : Nat) : pS binS ngS n [] = none := by cases n <;> rfl
theorem pS_val (n : Nat) (v : Sy) (ts : List (Tk Sy)) : pS binS ngS n (.val v :: ts) = some (v, ts) := by cases n <;> rfl
theorem pS_op (n : Nat) (r : _root_.Fin 3) (ts : List (Tk Sy)) : pS binS ngS n (.op r :: ts) = none := by cases n <;> rfl
theorem pS_rp (n : Nat) (ts : List (Tk Sy)) : pS binS ngS n (.rp :: ts) = none := by cases n <;> rfl
theorem tk_til : tkW "~" = .neg := by
  have h := tk_sign (w := "~") (by decide +kernel) (by decide +kernel)
  cases hk : tkW "~" with
  | neg => rfl
  | val v => rw [hk] at h; cases h
  | op r => have := tkW_op hk; exact absurd this (by match r with | 0 => decide +kernel | 1 => decide +kernel | 2 => decide +kernel)
  | lp => rw [hk] at h; generalize e : ("~" : Str) = x at h; cases h; exact absurd e (by decide +kernel)
  | rp => rw [hk] at h; generalize e : ("~" : Str) = x at h; cases h; exact absurd e (by decide +kernel)
theorem tk_lp : tkW "(" = .lp := by
  have h := tk_sign (w := "(") (by decide +kernel) (by decide +kernel)
  cases hk : tkW "(" with
  | lp => rfl
  | val v => rw [hk] at h; cases h
  | op r => have := tkW_op hk; exact absurd this (by match r with | 0 => decide +kernel | 1 => decide +kernel | 2 => decide +kernel)
  | neg => rw [hk] at h; generalize e : ("(" : Str) = x at h; cases h; exact absurd e (by decide +kernel)
  | rp => rw [hk] at h; generalize e : ("(" : Str) = x at h; cases h; exact absurd e (by decide +kernel)
theorem tk_rp : tkW ")" = .rp := by
  have h := tk_sign (w := ")") (by decide +kernel) (by decide +kernel)
  cases hk : tkW ")" with
  | rp => rfl
  | val v => rw [hk] at h; cases h
  | op r => have := tkW_op hk; exact absurd this (by match r with | 0 => decide +kernel | 1 => decide +kernel | 2 => decide +kernel)
  | neg => rw [hk] at h; generalize e : (")" : Str) = x at h; cases h; exact absurd e (by decide +kernel)
  | lp => rw [hk] at h; generalize e : (")" : Str) = x at h; cases h; exact absurd e (by decide +kernel)
theorem tkW_rp {x : Str} (hx : x ∈ signs8 ∨ (nmOk x = true ∧ ¬ x ∈ signs8)) (h : tkW x = .rp) : x = (")" : Str) := by
  rcases hx with hx | ⟨_, hx⟩
  · by_cases h0 : x = ("0" : Str)
    · rw [h0, tk_01.1] at h; cases h
    · by_cases h1 : x = ("1" : Str)
      · rw [h1, tk_01.2] at h; cases h
      · have := tk_sign hx (not01 h0 h1)
        rw [h] at this
        cases this; rfl
  · rw [tk_name hx] at h; cases h
def isCls : List (Tk Sy) → Bool
  | .rp :: _ => true
  | _ => false
section
variable {P : Program} {w : World} {K : PySem.W.Frag} {mg : Str → Option Value} {base : Heap} {C : Addr}
def signs4 : List Str := ["&", "^", "|", ")"]
theorem ok_law_single {f : Addr} {fd : FuncData} (n k : Nat) (hk : 4 ≤ k) (F : Fun K "_law_single" "_law_single" s_law_single f fd) (T : Tx K mg C)
    (o_inv : OInv P w K mg base 4 C (spP (RInv C))) (s_test : OSm P w K mg base 3 C "test" (spP (RTest C))) (s_yes : OSm P w K mg base 3 C "yes" (spP (RYes C))) (s_no : OSm P w K mg base 3 C "no" (spP (RNo C)))
    (c_law_single : C8.Cal P w K mg base k "_law_single" (spP (fun ds d => ∃ n', n = n' + 1 ∧ RSing C n' ds d)) []) (c_law_level : C8.Cal P w K mg base k "_law_level" (spP (fun ds d => ∃ n', n = n' + 1 ∧ RLev C n' 0 ds d)) []) : FnOk P w K mg base CX0 (k + 1) f fd ["_law_parts_here", "_law_at"] (spP (RSing C n)) := by
  refine pure_ok F sc_law_single (fun ds d h => ?_) (fun cdv A outer s H E hr => ?_)
  · obtain ⟨ws, L, i, rfl, _⟩ := h; rfl
  · refine ⟨_, (pss_cons (ps_if (PW.pt (pw_or (pt_cmpR op_ge (pv 1) (pe_callB (k_len (K := K) rfl) (by rfl) T.len (by decide +kernel) (pa_cons (pv 0) pa_nil)) (nomark _)) (pw_or1 (pt_cmpR (k_inU (K := K) rfl hr) (pe_ix (k_ix (K := K) rfl) (pv 0) (pv 1) (fun _ _ => rfl)) (pe_tup (pa_cons pe_str (pa_cons pe_str (pa_cons pe_str (pa_cons pe_str pa_nil))))) (by rfl))))) (pss_one (ps_ret pe_non)) pss_nil) (pss_cons (ps_if (pt_cmpR (k_eq (K := K) rfl hr) (pe_ix (k_ix (K := K) rfl) (pv 0) (pv 1) (fun _ _ => rfl)) pe_str (nomark _)) (pss_cons (ps_set (i := 2) sc_law_single.nd rfl (by first | exact Or.inl rfl | exact Or.inr rfl) (C8.pe_c c_law_single hr (by omega) rfl (pa_cons (pv 0) (pa_cons (pe_op (k_addU (K := K) rfl) (pv 1) pe_int) pa_nil)))) (pss_one (ps_ret (pe_ifExp (pt_cmpR op_isN (pv 2) pe_non (nomark _)) pe_non (pe_tup (pa_cons (pe_un (k_inv o_inv hr (by omega)) (pe_ix (k_ix (K := K) rfl) (pv 2) pe_int (fun _ _ => rfl))) (pa_cons (pe_ix (k_ix (K := K) rfl) (pv 2) pe_int (fun _ _ => rfl)) pa_nil))))))) pss_nil) (pss_cons (ps_if (pt_cmpR (k_eq (K := K) rfl hr) (pe_ix (k_ix (K := K) rfl) (pv 0) (pv 1) (fun _ _ => rfl)) pe_str (nomark _)) (pss_cons (ps_set (i := 2) sc_law_single.nd rfl (by first | exact Or.inl rfl | exact Or.inr rfl) (C8.pe_c c_law_level hr (by omega) rfl (pa_cons (pv 0) (pa_cons (pe_op (k_addU (K := K) rfl) (pv 1) pe_int) (pa_cons pe_str pa_nil))))) (pss_cons (ps_set (i := 3) sc_law_single.nd rfl (by first | exact Or.inl rfl | exact Or.inr rfl) (pe_and (pe_cmpR op_notN (pv 2) pe_non (nomark _)) (pe_and (pe_cmpR op_lt (pe_ix (k_ix (K := K) rfl) (pv 2) pe_int (fun _ _ => rfl)) (pe_callB (k_len (K := K) rfl) (by rfl) T.len (by decide +kernel) (pa_cons (pv 0) pa_nil)) (nomark _)) (pe_one (pe_cmpR (k_eq (K := K) rfl hr) (pe_ix (k_ix (K := K) rfl) (pv 0) (pe_ix (k_ix (K := K) rfl) (pv 2) pe_int (fun _ _ => rfl)) (fun _ _ => rfl)) pe_str (nomark _)))))) (pss_one (ps_ret (pe_ifExp (pt_val (pv 3)) (pe_tup (pa_cons (pe_ix (k_ix (K := K) rfl) (pv 2) pe_int (fun _ _ => rfl)) (pa_cons (pe_op (k_addU (K := K) rfl) (pe_ix (k_ix (K := K) rfl) (pv 2) pe_int (fun _ _ => rfl)) pe_int) pa_nil))) pe_non))))) pss_nil) (pss_cons (ps_if (pt_cmpR (k_inU (K := K) rfl hr) (pe_ix (k_ix (K := K) rfl) (pv 0) (pv 1) (fun _ _ => rfl)) (pe_tup (pa_cons pe_str (pa_cons pe_str pa_nil))) (by rfl)) (pss_one (ps_ret (pe_tup (pa_cons (pe_ifExp (pt_cmpR (k_eq (K := K) rfl hr) (pe_ix (k_ix (K := K) rfl) (pv 0) (pv 1) (fun _ _ => rfl)) pe_str (nomark _)) (k_sm0 s_yes hr (by omega) (pe_glob (v := .ref _) rfl T.g_Say rfl)) (k_sm0 s_no hr (by omega) (pe_glob (v := .ref _) rfl T.g_Say rfl))) (pa_cons (pe_op (k_addU (K := K) rfl) (pv 1) pe_int) pa_nil))))) pss_nil) (pss_one (ps_ret (pe_tup (pa_cons (k_sm s_test hr (by omega) (pe_glob (v := .ref _) rfl T.g_Say rfl) (pa_cons (pe_ix (k_ix (K := K) rfl) (pv 0) (pv 1) (fun _ _ => rfl)) pa_nil)) (pa_cons (pe_op (k_addU (K := K) rfl) (pv 1) pe_int) pa_nil))))))))), ?_⟩
    intro ds d h
    obtain ⟨ws, L, i, rfl, hp, hi, ho, rfl⟩ := h
    have evC : ∀ {ρ : Rho}, Ev (tC (.ref C)) ρ (.ptr C) := fun {ρ} _ _ H _ _ _ q => q _ H (Ex.rf H) (.ptr C)
    have tl : ∀ {ρ : Rho}, ρ[0]? = some (some (lS ws)) → ρ[1]? = some (some (.int i)) → EvT (tTest (tOp (rI0 fun i j => .bl (decide (j ≤ i))) (tVar 1) (tCB (fun xs H Q => ∃ x n, xs = [x] ∧ LenV K x H n ∧ Q (.int n) H) (tCons (tVar 0) tNil)))) ρ (decide (ws.length ≤ i)) := fun h0 h1 => by
      have e : decide (ws.length ≤ i) = decide ((((ws.map D.str).length : Nat) : Int) ≤ (i : Int)) := decide_eq_decide.mpr (by rw [List.length_map]; omega)
      rw [e]
      exact et_test (ev_op (ev_var h1) (ev_cb (ev_cons (ev_var h0) ev_nil) rl_lenL) rd_ge)
    by_cases hlt : i < ws.length
    · obtain ⟨x, hx⟩ : ∃ x, ws[i]? = some x := ⟨_, List.getElem?_eq_getElem hlt⟩
      have hcons := tkL_cons hx
      have hxm := List.mem_of_getElem? hx
      have hxo := hp.ok x hxm
      have hsw := hp.wd x hxm
      have ex : ∀ {ρ : Rho}, ρ[0]? = some (some (lS ws)) → ρ[1]? = some (some (.int i)) → Ev (tOp (rIx K) (tVar 0) (tVar 1)) ρ (.str x) := fun h0 h1 => ev_op (ev_var h0) (ev_var h1) (rd_ixL (by rw [List.getElem?_map, hx]; rfl))
      have t4 : ∀ {ρ : Rho}, ρ[0]? = some (some (lS ws)) → ρ[1]? = some (some (.int i)) → EvT (tTest (tOp (rInU K) (tOp (rIx K) (tVar 0) (tVar 1)) (tTup (tCons (tC (.str "&")) (tCons (tC (.str "^")) (tCons (tC (.str "|")) (tCons (tC (.str ")")) tNil))))))) ρ (decide (x ∈ signs4)) := fun h0 h1 => by
        rw [← inD_strs]
        have ok4 : ∀ y ∈ signs4, PyData.strOk y = true := by decide +kernel
        exact et_test (ev_op (ex h0 h1) (ev_tup (ev_cons ev_str (ev_cons ev_str (ev_cons ev_str (ev_cons ev_str ev_nil)))) (by simp [signs4])) (rd_inT (ok_str hxo) ((okN_tup (n := 0) (ds := signs4.map Du.D.str) fun d hd => by
          obtain ⟨y, hy, rfl⟩ := List.mem_map.mp hd
          exact okN_str (ok4 y hy)).e (by decide))))
      have e0 : decide (ws.length ≤ i) = false := decide_eq_false (by omega)
      have hle : i + 1 ≤ ws.length := hlt
      have rlen : (ws.length - (tkL ws (i + 1)).length : Nat) = i + 1 := by rw [tkL_len]; omega
      have eadd : ∀ {ρ : Rho}, ρ[1]? = some (some (.int i)) → Ev (tOp (rAddU K) (tVar 1) (tC (.int 1))) ρ (.int ((i + 1 : Nat) : Int)) := fun h1 => ev_op (ev_var h1) ev_int rd_addI
      by_cases h4 : x ∈ signs4
      · have : pS binS ngS n (tkL ws i) = none := by
          rw [hcons]
          unfold signs4 at h4
          simp only [List.mem_cons, List.not_mem_nil, or_false] at h4
          rcases h4 with rfl | rfl | rfl | rfl
          · rw [show tkW "&" = .op 2 from tk_op 2]; exact pS_op _ _ _
          · rw [show tkW "^" = .op 1 from tk_op 1]; exact pS_op _ _ _
          · rw [show tkW "|" = .op 0 from tk_op 0]; exact pS_op _ _ _
          · rw [tk_rp]; exact pS_rp _ _
        rw [this]
        refine .inl (st_seqR (st_if (b := decide (ws.length ≤ i) || decide (x ∈ signs4)) (et_or (tl rfl rfl) fun _ => t4 rfl rfl) (fun _ => st_ret ev_non) fun hb => ?_))
        rw [e0, decide_eq_true h4] at hb; cases hb
      · refine .inl (st_seq (st_if (b := decide (ws.length ≤ i) || decide (x ∈ signs4)) (et_or (tl rfl rfl) fun _ => t4 rfl rfl) (fun hb => by rw [e0, decide_eq_false h4] at hb; cases hb) fun _ => st_next) ?_)
        by_cases ht : x = ("~" : Str)
        · have hneg : tkW x = .neg := by rw [ht]; exact tk_til
          rw [hneg] at hcons
          obtain ⟨n', rfl⟩ : ∃ n', n = n' + 1 := by
            cases n with
            | zero => rw [hcons] at ho; exact absurd ho (by show ¬ (opens (tkL ws (i + 1)) + 1 ≤ 0); omega)
            | succ n' => exact ⟨n', rfl⟩
          have ho' : opens (tkL ws (i + 1)) ≤ n' := by rw [hcons] at ho; have : opens (tkL ws (i + 1)) + 1 ≤ n' + 1 := ho; omega
          have hres : pS binS ngS (n' + 1) (tkL ws i) = (pS binS ngS n' (tkL ws (i + 1))).map fun p => (ngS p.1, p.2) := by rw [hcons, pS_neg]
          rw [hres]
          refine st_seqR (st_if (b := true) ((decide_eq_true ht) ▸ et_eqS (ex rfl rfl) hxo sOk_til) (fun _ => st_seq (st_asg (ev_call (ev_cons (ev_var rfl) (ev_cons (eadd rfl) ev_nil)) ⟨n', rfl, ws, L, i + 1, rfl, hp, hle, ho', rfl⟩) ga_name) ?_) fun h => by cases h)
          cases hm : pS binS ngS n' (tkL ws (i + 1)) with
          | none => exact st_ret (ev_if (b := true) (et_test (ev_op (ev_var rfl) ev_non rd_isNo)) (fun _ => ev_non) fun h => by cases h)
          | some p =>
            obtain ⟨v, rest⟩ := p
            have hv := (pS_ok (OkV.all hp.lL).1 (OkV.all hp.lL).2 n' _ _ _ (hp.vals (i + 1)) hm).1
            exact st_ret (ev_if (b := false) (et_test (ev_op (ev_var rfl) ev_non rd_isNo)) (fun h => by cases h) fun _ => ev_tup (ev_cons (ev_un (ev_op (ev_var rfl) ev_int (rd_ixT (i := 0) rfl)) (r1_inv ⟨v.1, v.2, rfl, hv.wf, rfl⟩)) (ev_cons (ev_op (ev_var rfl) ev_int (rd_ixT (i := 1) rfl)) ev_nil)) (by simp))
        · refine st_seq (st_if (b := false) ((decide_eq_false ht) ▸ et_eqS (ex rfl rfl) hxo sOk_til) (fun h => by cases h) fun _ => st_next) ?_
          by_cases hl : x = ("(" : Str)
          · have hlp : tkW x = .lp := by rw [hl]; exact tk_lp
            rw [hlp] at hcons
            obtain ⟨n', rfl⟩ : ∃ n', n = n' + 1 := by
              cases n with
              | zero => rw [hcons] at ho; exact absurd ho (by show ¬ (opens (tkL ws (i + 1)) + 1 ≤ 0); omega)
              | succ n' => exact ⟨n', rfl⟩
            have ho' : opens (tkL ws (i + 1)) ≤ n' := by rw [hcons] at ho; have : opens (tkL ws (i + 1)) + 1 ≤ n' + 1 := ho; omega
            have hres : pS binS ngS (n' + 1) (tkL ws i) = (lv binS (pS binS ngS n') 3 (tkL ws (i + 1))).bind clsd := by rw [hcons, pS_lp]
            rw [hres]
            refine st_seqR (st_if (b := true) ((decide_eq_true hl) ▸ et_eqS (ex rfl rfl) hxo (by decide +kernel)) (fun _ => st_seq (st_asg (ev_call (ev_cons (ev_var rfl) (ev_cons (eadd rfl) (ev_cons ev_str ev_nil))) ⟨n', rfl, ws, L, i + 1, rfl, hp, hle, ho', rfl⟩) ga_name) ?_) fun h => by cases h)
            show St _ [some (lS ws), some (.int i), some (resD C ws (lv binS (pS binS ngS n') 3 (tkL ws (i + 1)))), none] _
            cases hm : lv binS (pS binS ngS n') 3 (tkL ws (i + 1)) with
            | none =>
              exact st_seq (st_asg (d := .bl false) (ev_andV (b := false) (c := false) (ev_op (ev_var rfl) ev_non rd_notNo) fun h => by cases h) ga_name) (st_ret (ev_if (b := false) (et_B (ev_var rfl)) (fun h => by cases h) fun _ => ev_non))
            | some p =>
              obtain ⟨v, rest⟩ := p
              obtain ⟨hv, hsuf⟩ := lv_ok (OkV.all hp.lL).1 (pS_ok (OkV.all hp.lL).1 (OkV.all hp.lL).2 n') 3 _ _ _ (hp.vals (i + 1)) hm
              have hrest := tkL_suffix hsuf
              have hrl : rest.length ≤ ws.length := by have := hsuf.length_le; rw [tkL_len] at this; omega
              generalize hj : ws.length - rest.length = j at hrest
              have ej : ∀ {ρ : Rho}, ρ[2]? = some (some (resD C ws (some (v, rest)))) → Ev (tOp (rIx K) (tVar 2) (tC (.int 1))) ρ (.int (j : Nat)) := fun h => by
                rw [← hj]; exact ev_op (ev_var h) ev_int (rd_ixT (i := 1) rfl)
              have t0 : ∀ {ρ : Rho}, ρ[2]? = some (some (resD C ws (some (v, rest)))) → Ev (tOp (fun x y H Q => y = .non ∧ Q (.bl (!decide (x = .non))) H) (tVar 2) (tC .non)) ρ (.bl true) := fun h => ev_op (ev_var h) ev_non rd_notNo
              have ecl : ∀ {ρ : Rho}, ρ[0]? = some (some (lS ws)) → ρ[2]? = some (some (resD C ws (some (v, rest)))) → Ev (tAndV (tOp (fun x y H Q => y = .non ∧ Q (.bl (!decide (x = .non))) H) (tVar 2) (tC .non)) (tAndV (tOp (rI0 fun i j => .bl (decide (i < j))) (tOp (rIx K) (tVar 2) (tC (.int 1))) (tCB (fun xs H Q => ∃ x n, xs = [x] ∧ LenV K x H n ∧ Q (.int n) H) (tCons (tVar 0) tNil))) (tOp (rEqD K) (tOp (rIx K) (tVar 0) (tOp (rIx K) (tVar 2) (tC (.int 1)))) (tC (.str ")"))))) ρ (.bl (isCls rest)) := fun h0 h2 => by
                by_cases hjl : j < ws.length
                · obtain ⟨y, hy⟩ : ∃ y, ws[j]? = some y := ⟨_, List.getElem?_eq_getElem hjl⟩
                  have hyc := tkL_cons hy
                  have hym := List.mem_of_getElem? hy
                  have e : isCls rest = (true && (true && eqD (.str y) (.str ")"))) := by
                    rw [hrest, hyc, eqD_str, Bool.true_and, Bool.true_and]
                    by_cases hyr : y = (")" : Str)
                    · rw [hyr, tk_rp]; rfl
                    · rw [decide_eq_false hyr]
                      cases hk : tkW y with
                      | rp => exact absurd (tkW_rp (hp.wd y hym) hk) hyr
                      | _ => rfl
                  rw [e]
                  refine ev_andV (t0 h2) fun _ => ev_andV (b := true) ?_ fun _ => ev_op (ev_op (ev_var h0) (ej h2) (rd_ixL (by rw [List.getElem?_map, hy]; rfl))) ev_str (rd_eq (ok_str (hp.ok y hym)) (ok_str sOk_rp))
                  have h1 : decide ((j : Int) < (((ws.map D.str).length : Nat) : Int)) = true := decide_eq_true (by rw [List.length_map]; omega)
                  rw [← h1]
                  exact ev_op (ej h2) (ev_cb (ev_cons (ev_var h0) ev_nil) rl_lenL) rd_lt
                · have hnil : rest = [] := by rw [hrest]; exact tkL_nil (by omega)
                  rw [show isCls rest = (true && (false && false)) by rw [hnil]; rfl]
                  refine ev_andV (t0 h2) fun _ => ev_andV (b := false) ?_ fun h => by cases h
                  have h1 : decide ((j : Int) < (((ws.map D.str).length : Nat) : Int)) = false := decide_eq_false (by rw [List.length_map]; omega)
                  rw [← h1]
                  exact ev_op (ej h2) (ev_cb (ev_cons (ev_var h0) ev_nil) rl_lenL) rd_lt
              refine st_seq (st_asg (ecl rfl rfl) ga_name) ?_
              cases hc : rest with
              | nil => subst hc; exact st_ret (ev_if (b := false) (et_B (ev_var rfl)) (fun h => by cases h) fun _ => ev_non)
              | cons t ts =>
                subst hc
                cases t with
                | rp =>
                  have e : resD C ws (some (v, ts)) = .tup [sD C v, .int ((j : Nat) + 1 : Int)] := by
                    rw [res_some]
                    have : ws.length - ts.length = j + 1 := by simp only [List.length_cons] at hj hrl; omega
                    rw [this]; rfl
                  show St _ _ (.rt (resD C ws (some (v, ts))))
                  rw [e]
                  exact st_ret (ev_if (b := true) (et_B (ev_var rfl)) (fun _ => ev_tup (ev_cons (ev_op (ev_var rfl) ev_int (rd_ixT (i := 0) rfl)) (ev_cons (ev_op (ej rfl) ev_int rd_addI) ev_nil)) (by simp)) fun h => by cases h)
                | val u => exact st_ret (ev_if (b := false) (et_B (ev_var rfl)) (fun h => by cases h) fun _ => ev_non)
                | op r => exact st_ret (ev_if (b := false) (et_B (ev_var rfl)) (fun h => by cases h) fun _ => ev_non)
                | neg => exact st_ret (ev_if (b := false) (et_B (ev_var rfl)) (fun h => by cases h) fun _ => ev_non)
                | lp => exact st_ret (ev_if (b := false) (et_B (ev_var rfl)) (fun h => by cases h) fun _ => ev_non)
          · refine st_seq (st_if (b := false) ((decide_eq_false hl) ▸ et_eqS (ex rfl rfl) hxo (by decide +kernel)) (fun h => by cases h) fun _ => st_next) ?_
            have t01 : EvT (tTest (tOp (rInU K) (tOp (rIx K) (tVar 0) (tVar 1)) (tTup (tCons (tC (.str "0")) (tCons (tC (.str "1")) tNil))))) [some (lS ws), some (.int i), none, none] (decide (x ∈ (["0", "1"] : List Str))) := by
              rw [← inD_strs]
              exact et_test (ev_op (ex rfl rfl) (ev_tup (ev_cons ev_str (ev_cons ev_str ev_nil)) (by simp)) (rd_inT (ok_str hxo) ((okN_tup (n := 0) fun d hd => by
                rcases List.mem_cons.mp hd with rfl | hd
                · exact okN_str (by decide +kernel)
                · have := List.mem_singleton.mp hd; subst this; exact okN_str (by decide +kernel)).e (by decide))))
            have fin : ∀ {v : Sy}, tkW x = .val v → resD C ws (pS binS ngS n (tkL ws i)) = .tup [sD C v, .int ((i + 1 : Nat) : Int)] := fun hv => by
              rw [hcons, hv, pS_val, res_some, rlen]
            by_cases h01 : x ∈ (["0", "1"] : List Str)
            · refine st_seqR (st_if (b := true) ((decide_eq_true h01) ▸ t01) (fun _ => ?_) fun h => by cases h)
              simp only [List.mem_cons, List.not_mem_nil, or_false] at h01
              rcases h01 with rfl | rfl
              · rw [fin tk_01.1]
                exact st_ret (ev_tup (ev_cons (ev_if (b := false) ((show decide (("0" : Str) = "1") = false by decide +kernel) ▸ et_eqS (ex rfl rfl) hxo (by decide +kernel)) (fun h => by cases h) fun _ => ev_sm0 evC ⟨rfl, rfl⟩) (ev_cons (eadd rfl) ev_nil)) (by simp))
              · rw [fin tk_01.2]
                exact st_ret (ev_tup (ev_cons (ev_if (b := true) ((show decide (("1" : Str) = "1") = true by decide +kernel) ▸ et_eqS (ex rfl rfl) hxo (by decide +kernel)) (fun _ => ev_sm0 evC ⟨rfl, rfl⟩) fun h => by cases h) (ev_cons (eadd rfl) ev_nil)) (by simp))
            · refine st_seq (st_if (b := false) ((decide_eq_false h01) ▸ t01) (fun h => by cases h) fun _ => st_next) ?_
              have h8 : ¬ x ∈ signs8 := fun h8 => by
                unfold signs8 at h8
                unfold signs4 at h4
                simp only [List.mem_cons, List.not_mem_nil, or_false, not_or] at h8 h4 h01
                rcases h8 with h | h | h | h | h | h | h | h
                · exact h01.1 h
                · exact h01.2 h
                · exact ht h
                · exact h4.1 h
                · exact h4.2.1 h
                · exact h4.2.2.1 h
                · exact hl h
                · exact h4.2.2.2 h
              have hnx : nmOk x = true := (hsw.resolve_left h8).1
              rw [fin (tk_name h8)]
              exact st_ret (ev_tup (ev_cons (ev_sm evC (ev_cons (ex rfl rfl) ev_nil) ⟨x, rfl, hnx, rfl⟩) (ev_cons (eadd rfl) ev_nil)) (by simp))
    · have : pS binS ngS n (tkL ws i) = none := by rw [tkL_nil (by omega)]; exact pS_nil n
      rw [this]
      have e1 : decide (ws.length ≤ i) = true := decide_eq_true (by omega)
      exact .inl (st_seqR (st_if (b := true || false) (et_or (e1 ▸ tl rfl rfl) fun h => by cases h) (fun _ => st_ret ev_non) fun h => by cases h))
end
end Du
namespace Du
open PySem L2 Pz
/-! the rows of letters in a text -/
def runs : List Nat → List Nat → List (List Nat)
  | cur, [] => [cur]
  | cur, c :: cs => if isL c then runs (cur ++ [c]) cs else cur :: runs [] cs
theorem runs_split : ∀ (u cur : List Nat), ∃ U x, runs cur u = U ++ [x] ∧ ∀ v, runs cur (u ++ v) = U ++ runs x v
  | [], cur => ⟨[], cur, rfl, fun _ => rfl⟩
  | c :: u, cur => by
    cases hL : isL c with
    | true =>
      obtain ⟨U, x, h1, h2⟩ := runs_split u (cur ++ [c])
      exact ⟨U, x, by rw [runs, if_pos hL, h1], fun v => by rw [List.cons_append, runs, if_pos hL, h2]⟩
    | false =>
      obtain ⟨U, x, h1, h2⟩ := runs_split u []
      exact ⟨cur :: U, x, by rw [runs, hL, if_neg Bool.false_ne_true, h1]; rfl, fun v => by rw [List.cons_append, runs, hL, if_neg Bool.false_ne_true, h2]; rfl⟩
theorem runs_head : ∀ v : List Nat, ∃ y V, ∀ x, runs x v = (x ++ y) :: V
  | [] => ⟨[], [], fun x => by rw [List.append_nil]; rfl⟩
  | c :: v => by
    cases hL : isL c with
    | true =>
      obtain ⟨y, V, h⟩ := runs_head v
      exact ⟨c :: y, V, fun x => by rw [runs, if_pos hL, h]; simp⟩
    | false => exact ⟨[], runs [] v, fun x => by rw [runs, hL, if_neg Bool.false_ne_true, List.append_nil]⟩
/-- the rows of letters are among L -/
def NR (L : List (List Nat)) (cs : List Nat) : Prop := ∀ r ∈ runs [] cs, r ≠ [] → r ∈ L
theorem NR.sep {L : List (List Nat)} {c : Nat} {cs : List Nat} (hc : isL c = false) (h : NR L cs) : NR L (c :: cs) := fun r hr hn => by
  rw [runs, hc, if_neg Bool.false_ne_true] at hr
  rcases List.mem_cons.mp hr with rfl | hr
  · exact absurd rfl hn
  · exact h r hr hn
theorem NR.seps {L : List (List Nat)} {cs : List Nat} (h : NR L cs) : ∀ {g : List Nat}, (∀ c ∈ g, isL c = false) → NR L (g ++ cs)
  | [], _ => h
  | c :: g, hg => NR.sep (hg c List.mem_cons_self) (NR.seps h fun d hd => hg d (List.mem_cons_of_mem _ hd))
theorem NR.app {L : List (List Nat)} {a b : List Nat} (ha : NR L a) (hb : NR L b) (h : ∀ c r, b = c :: r → isL c = false) : NR L (a ++ b) := fun r hr hn => by
  obtain ⟨U, x, h1, h2⟩ := runs_split a []
  rw [h2] at hr
  rcases List.mem_append.mp hr with hr | hr
  · exact ha r (by rw [h1]; exact List.mem_append_left _ hr) hn
  · cases b with
    | nil =>
      have : r = x := List.mem_singleton.mp hr
      exact ha r (by rw [h1, this]; simp) hn
    | cons c b =>
      have hc := h c b rfl
      rw [runs, hc, if_neg Bool.false_ne_true] at hr
      rcases List.mem_cons.mp hr with hr | hr
      · exact ha r (by rw [h1, hr]; simp) hn
      · exact hb r (by rw [runs, hc, if_neg Bool.false_ne_true]; exact List.mem_cons_of_mem _ hr) hn
theorem NR.mono {L L' : List (List Nat)} {cs : List Nat} (h : NR L cs) (s : ∀ x ∈ L, x ∈ L') : NR L' cs := fun r hr hn => s r (h r hr hn)
/-- all letters -/
theorem NR.word {L : List (List Nat)} {cs : List Nat} (hc : ∀ c ∈ cs, isL c = true) (hm : cs ∈ L) : NR L cs := by
  have : ∀ (cs cur : List Nat), (∀ c ∈ cs, isL c = true) → runs cur cs = [cur ++ cs] := by
    intro cs
    induction cs with
    | nil => intro cur _; rw [List.append_nil]; rfl
    | cons c cs ih => intro cur h; rw [runs, if_pos (h c List.mem_cons_self), ih _ fun d hd => h d (List.mem_cons_of_mem _ hd)]; simp
  intro r hr hn
  rw [this cs [] hc, List.nil_append] at hr
  rw [List.mem_singleton.mp hr]; exact hm
/-- cut off -/
theorem NR.cut {L : List (List Nat)} {u v : List Nat} (h : NR L (u ++ v)) : ∃ x, NR (x :: L) u := by
  obtain ⟨U, x, h1, h2⟩ := runs_split u []
  refine ⟨x, fun r hr hn => ?_⟩
  rw [h1] at hr
  rcases List.mem_append.mp hr with hr | hr
  · exact List.mem_cons_of_mem _ (h r (by rw [h2]; exact List.mem_append_left _ hr) hn)
  · rw [List.mem_singleton.mp hr]; exact List.mem_cons_self
/-- something stands in the place of something -/
theorem NR.bend {L : List (List Nat)} {u e s v : List Nat} (h : NR L (u ++ (e ++ v))) (hs : (∀ c ∈ s, isL c = true) ∨ (∀ c ∈ s, isL c = false)) : ∃ x y, NR (x :: y :: L) (u ++ (s ++ v)) := by
  obtain ⟨U, x, h1, h2⟩ := runs_split u []
  obtain ⟨y, V, hv⟩ := runs_head v
  have hV : ∀ r ∈ V, r ≠ [] → r ∈ L := fun r hr hn => by
    obtain ⟨U', x', _, e2⟩ := runs_split e x
    exact h r (by rw [h2, e2, hv]; simp [hr]) hn
  have hU : ∀ r ∈ U, r ≠ [] → r ∈ L := fun r hr hn => h r (by rw [h2]; exact List.mem_append_left _ hr) hn
  rcases hs with hs | hs
  · have e1 : runs x (s ++ v) = (x ++ s ++ y) :: V := by
      have : ∀ (s x : List Nat), (∀ c ∈ s, isL c = true) → runs x (s ++ v) = (x ++ s ++ y) :: V := by
        intro s
        induction s with
        | nil => intro x _; simp [hv]
        | cons c s ih => intro x h; rw [List.cons_append, runs, if_pos (h c List.mem_cons_self), ih _ fun d hd => h d (List.mem_cons_of_mem _ hd)]; simp
      exact this s x hs
    refine ⟨x ++ s ++ y, [], fun r hr hn => ?_⟩
    rw [h2, e1] at hr
    rcases List.mem_append.mp hr with hr | hr
    · exact List.mem_cons_of_mem _ (List.mem_cons_of_mem _ (hU r hr hn))
    · rcases List.mem_cons.mp hr with rfl | hr
      · exact List.mem_cons_self
      · exact List.mem_cons_of_mem _ (List.mem_cons_of_mem _ (hV r hr hn))
  · have key : ∀ (s x : List Nat), (∀ c ∈ s, isL c = false) → ∀ r ∈ runs x (s ++ v), r ≠ [] → r = x ∨ r = x ++ y ∨ r = y ∨ r ∈ V := by
      intro s
      induction s with
      | nil =>
        intro x _ r hr hn
        rw [List.nil_append, hv] at hr
        rcases List.mem_cons.mp hr with hr | hr
        · exact .inr (.inl hr)
        · exact .inr (.inr (.inr hr))
      | cons c s ih =>
        intro x hx r hr hn
        rw [List.cons_append, runs, hx c List.mem_cons_self, if_neg Bool.false_ne_true] at hr
        rcases List.mem_cons.mp hr with hr | hr
        · exact .inl hr
        · rcases ih [] (fun d hd => hx d (List.mem_cons_of_mem _ hd)) r hr hn with h | h | h | h
          · exact absurd h hn
          · exact .inr (.inr (.inl h))
          · exact .inr (.inr (.inl h))
          · exact .inr (.inr (.inr h))
    cases s with
    | nil =>
      refine ⟨x ++ y, [], fun r hr hn => ?_⟩
      rw [h2, List.nil_append, hv] at hr
      rcases List.mem_append.mp hr with hr | hr
      · exact List.mem_cons_of_mem _ (List.mem_cons_of_mem _ (hU r hr hn))
      · rcases List.mem_cons.mp hr with rfl | hr
        · exact List.mem_cons_self
        · exact List.mem_cons_of_mem _ (List.mem_cons_of_mem _ (hV r hr hn))
    | cons c s =>
      refine ⟨x, y, fun r hr hn => ?_⟩
      rw [h2] at hr
      rcases List.mem_append.mp hr with hr | hr
      · exact List.mem_cons_of_mem _ (List.mem_cons_of_mem _ (hU r hr hn))
      · rw [List.cons_append, runs, hs c List.mem_cons_self, if_neg Bool.false_ne_true] at hr
        rcases List.mem_cons.mp hr with hr | hr
        · rw [hr]; exact List.mem_cons_self
        · rcases key s [] (fun d hd => hs d (List.mem_cons_of_mem _ hd)) r hr hn with h | h | h | h
          · exact absurd h hn
          · rw [h]; exact List.mem_cons_of_mem _ List.mem_cons_self
          · rw [h]; exact List.mem_cons_of_mem _ List.mem_cons_self
          · exact List.mem_cons_of_mem _ (List.mem_cons_of_mem _ (hV r h hn))
theorem runs_take (cs cur : List Nat) : runs cur cs = (cur ++ cs.takeWhile isL) :: (match cs.dropWhile isL with | [] => [] | _ :: r => runs [] r) := by
  induction cs generalizing cur with
  | nil => simp [runs]
  | cons c cs ih =>
    cases hL : isL c with
    | true => rw [runs, if_pos hL, ih, List.takeWhile_cons_of_pos hL, List.dropWhile_cons_of_pos hL]; simp
    | false =>
      rw [runs, hL, if_neg Bool.false_ne_true, List.takeWhile_cons_of_neg (by simp [hL]), List.dropWhile_cons_of_neg (by simp [hL]), List.append_nil]
theorem drop_take {cs : List Nat} : cs.drop (cs.takeWhile isL).length = cs.dropWhile isL := by
  have h := List.takeWhile_append_dropWhile (p := isL) (l := cs)
  calc cs.drop (cs.takeWhile isL).length = (cs.takeWhile isL ++ cs.dropWhile isL).drop (cs.takeWhile isL).length := by rw [h]
    _ = cs.dropWhile isL := List.drop_left' rfl
/-- the names of a text are rows of letters -/
theorem tok_runs : ∀ {n : Nat} {cs : List Nat} {ws : List Str}, toks inSay n cs = some ws → ∀ w ∈ ws, nmOk w = true → cpl w ∈ runs [] cs := by
  intro n
  induction n with
  | zero => intro cs ws h w hw; cases h; cases hw
  | succ n ih =>
    intro cs ws h w hw hn
    have hne : cpl w ≠ [] := fun e => by
      have h0 : w.length = 0 := by rw [← cpl_len, e]; rfl
      unfold nmOk at hn
      rw [Bool.and_eq_true, Bool.and_eq_true] at hn
      have := of_decide_eq_true hn.1.1
      omega
    cases cs with
    | nil => cases h; cases hw
    | cons c cs =>
      rw [toks_cons] at h
      cases hL : isL c with
      | true =>
        rw [hL, if_pos rfl] at h
        by_cases h8 : 8 < (cs.takeWhile isL).length + 1
        · rw [if_pos h8] at h; cases h
        · rw [if_neg h8] at h
          obtain ⟨r, hr, rfl⟩ := Option.map_eq_some_iff.mp h
          rw [runs, if_pos hL, runs_take]
          rcases List.mem_cons.mp hw with rfl | hw
          · exact List.mem_cons_self
          · have := ih hr w hw hn
            rw [drop_take] at this
            refine List.mem_cons_of_mem _ ?_
            cases hd : cs.dropWhile isL with
            | nil => rw [hd] at this; exact absurd (List.mem_singleton.mp this) hne
            | cons d ds =>
              rw [hd] at this
              have hdl : isL d = false := by
                have := List.head?_dropWhile_not isL cs
                rw [hd] at this
                simpa using this
              rw [runs, hdl, if_neg Bool.false_ne_true] at this
              exact (List.mem_cons.mp this).resolve_left hne
      | false =>
        rw [hL, if_neg Bool.false_ne_true] at h
        rw [runs, hL, if_neg Bool.false_ne_true]
        refine List.mem_cons_of_mem _ ?_
        cases hq : inSay c with
        | true =>
          rw [hq, if_pos rfl] at h
          obtain ⟨r, hr, rfl⟩ := Option.map_eq_some_iff.mp h
          rcases List.mem_cons.mp hw with rfl | hw
          · have h1 : c ∈ cpl sayS := of_decide_eq_true hq
            have : ∀ x ∈ cpl sayS, nmOk (sg x) = false := by decide +kernel
            rw [this c h1] at hn; cases hn
          · exact ih hr w hw hn
        | false =>
          rw [hq, if_neg Bool.false_ne_true] at h
          by_cases h3 : c = 32
          · rw [if_pos h3] at h; exact ih h w hw hn
          · rw [if_neg h3] at h; cases h
/-! how many signs open something -/
def isOc (c : Nat) : Bool := decide (c = 126) || decide (c = 40)
def oc (cs : List Nat) : Nat := (cs.filter isOc).length
theorem oc_app (a b : List Nat) : oc (a ++ b) = oc a + oc b := by simp [oc]
theorem oc_cons (c : Nat) (b : List Nat) : oc (c :: b) = (if isOc c then 1 else 0) + oc b := by
  unfold oc; rw [List.filter_cons]; cases isOc c <;> simp <;> omega
theorem oc_drop (a : List Nat) (k : Nat) : oc (a.drop k) ≤ oc a := by
  conv => rhs; rw [← List.take_append_drop k a, oc_app]
  omega
theorem oc_take (a : List Nat) (k : Nat) : oc (a.take k) ≤ oc a := by
  conv => rhs; rw [← List.take_append_drop k a, oc_app]
  omega
theorem tok_oc : ∀ {n : Nat} {cs : List Nat} {ws : List Str}, toks inSay n cs = some ws → opens (ws.map tkW) ≤ oc cs := by
  intro n
  induction n with
  | zero => intro cs ws h; cases h; exact Nat.zero_le _
  | succ n ih =>
    intro cs ws h
    cases cs with
    | nil => cases h; exact Nat.zero_le _
    | cons c cs =>
      have h0 := h
      rw [toks_cons] at h
      have op : ∀ (x : Str) (r : List Str), opens ((x :: r).map tkW) = (if isO (tkW x) then 1 else 0) + opens (r.map tkW) := fun x r => by
        unfold opens; rw [List.map_cons, List.filter_cons]; cases isO (tkW x) <;> simp <;> omega
      cases hL : isL c with
      | true =>
        rw [hL, if_pos rfl] at h
        by_cases h8 : 8 < (cs.takeWhile isL).length + 1
        · rw [if_pos h8] at h; cases h
        · rw [if_neg h8] at h
          obtain ⟨r, hr, rfl⟩ := Option.map_eq_some_iff.mp h
          have hw := tok_word h0 _ List.mem_cons_self
          have hn : ¬ (⟨(c :: cs.takeWhile isL).toArray⟩ : Str) ∈ signs8 := by
            rcases hw with ⟨d, hd, e⟩ | hn
            · have e2 : c = d := by have := congrArg cpl e; simp [cpl] at this; exact this.1
              subst e2
              have h1 : c ∈ cpl sayS := of_decide_eq_true hd
              have : ∀ x ∈ cpl sayS, isL x = false := by decide +kernel
              rw [this c h1] at hL; cases hL
            · exact fun hs => by rw [nm_none _ hs] at hn; cases hn
          rw [op, tk_name hn, oc_cons]
          have := ih hr
          have := oc_drop cs (cs.takeWhile isL).length
          show 0 + _ ≤ _
          omega
      | false =>
        rw [hL, if_neg Bool.false_ne_true] at h
        cases hq : inSay c with
        | true =>
          rw [hq, if_pos rfl] at h
          obtain ⟨r, hr, rfl⟩ := Option.map_eq_some_iff.mp h
          rw [op, oc_cons]
          have h1 : c ∈ cpl sayS := of_decide_eq_true hq
          have e : isO (tkW (sg c)) = isOc c := by
            have h2 : c ∈ ([48, 49, 126, 38, 94, 124, 40, 41] : List Nat) := by
              have : cpl sayS = [48, 49, 126, 38, 94, 124, 40, 41] := by decide +kernel
              rw [← this]; exact h1
            have all : ∀ x ∈ ([48, 49, 126, 38, 94, 124, 40, 41] : List Nat), isO (tkW (sg x)) = isOc x := by
              intro x hx
              simp only [List.mem_cons, List.not_mem_nil, or_false] at hx
              rcases hx with rfl | rfl | rfl | rfl | rfl | rfl | rfl | rfl <;> rfl
            exact all c h2
          rw [e]
          have := ih hr
          omega
        | false =>
          rw [hq, if_neg Bool.false_ne_true] at h
          rw [oc_cons]
          by_cases h3 : c = 32
          · rw [if_pos h3] at h; have := ih h; omega
          · rw [if_neg h3] at h; cases h
/-! of the law's texts -/
def xo : Nat → Nat
  | 0 => 0
  | d + 1 => 1 + 2 * xo d
theorem gap_sp : ∀ g ∈ gaps, ∀ c ∈ cpl g, isL c = false ∧ isOc c = false := by decide +kernel
theorem oc_none {a : List Nat} (h : ∀ c ∈ a, isOc c = false) : oc a = 0 := by
  unfold oc
  rw [List.filter_eq_nil_iff.mpr fun c hc => by rw [h c hc]; exact Bool.false_ne_true]; rfl
theorem nm_letters {n : Str} (h : nmOk n = true) : ∀ c ∈ cpl n, isL c = true := fun c hc => by
  unfold nmOk at h
  have h2 := (Bool.and_eq_true _ _).mp h |>.2
  exact List.all_eq_true.mp h2 (decide (c ∈ letters.cps.toList)) (List.mem_map.mpr ⟨c, hc, rfl⟩)
theorem let_oc {c : Nat} (h : isL c = true) : isOc c = false := by
  have : ∀ x ∈ cpl letters, isOc x = false := by decide +kernel
  exact this c (of_decide_eq_true h)
theorem opW_cp (r : _root_.Fin 3) : ∃ c, cpl (opW r) = [c] ∧ isL c = false ∧ isOc c = false := by
  match r with
  | 0 => exact ⟨124, by decide +kernel, by decide +kernel, by decide +kernel⟩
  | 1 => exact ⟨94, by decide +kernel, by decide +kernel, by decide +kernel⟩
  | 2 => exact ⟨38, by decide +kernel, by decide +kernel, by decide +kernel⟩
theorem ExT.text {ns : List Str} (hn : ∀ n ∈ ns, nmOk n = true) {d : Nat} {s : Str} {v : Sy} (h : ExT ns d s v) : NR (ns.map cpl) (cpl s) ∧ oc (cpl s) ≤ xo d := by
  have c0 : cpl ("0" : Str) = [48] := by decide +kernel
  have c1 : cpl ("1" : Str) = [49] := by decide +kernel
  have ct : cpl ("~" : Str) = [126] := by decide +kernel
  have cl : cpl ("(" : Str) = [40] := by decide +kernel
  have cr : cpl (")" : Str) = [41] := by decide +kernel
  have nil : NR (ns.map cpl) [] := fun r hr hn => absurd (List.mem_singleton.mp hr) hn
  induction h with
  | zero => rw [c0]; exact ⟨nil.sep (by decide +kernel), by rw [oc_none (by decide +kernel)]; exact Nat.zero_le _⟩
  | one => rw [c1]; exact ⟨nil.sep (by decide +kernel), by rw [oc_none (by decide +kernel)]; exact Nat.zero_le _⟩
  | @name d n hm => exact ⟨NR.word (nm_letters (hn n hm)) (List.mem_map.mpr ⟨n, hm, rfl⟩), by rw [oc_none fun c hc => let_oc (nm_letters (hn n hm) c hc)]; exact Nat.zero_le _⟩
  | @neg d s g v _ hg ih =>
    rw [cpl_app, cpl_app, ct, List.append_assoc]
    refine ⟨NR.sep (by decide +kernel) (NR.seps ih.1 fun c hc => (gap_sp g hg c hc).1), ?_⟩
    rw [List.singleton_append, oc_cons, oc_app, oc_none fun c hc => (gap_sp g hg c hc).2]
    have := ih.2
    show 1 + (0 + _) ≤ 1 + 2 * xo d
    omega
  | @bin d s s2 g1 g2 g3 g4 v v2 r _ _ h1 h2 h3 h4 ih1 ih2 =>
    obtain ⟨c, hc, hcl, hco⟩ := opW_cp r
    have e : cpl ("(" ++ g1 ++ (s ++ g2 ++ opW r ++ g3 ++ s2) ++ g4 ++ ")") = 40 :: (cpl g1 ++ (cpl s ++ (cpl g2 ++ c :: (cpl g3 ++ (cpl s2 ++ (cpl g4 ++ [41])))))) := by
      simp only [cpl_app, hc, cl, cr, List.append_assoc, List.singleton_append, List.cons_append, List.nil_append]
    rw [e]
    have hd : ∀ (g : Str), g ∈ gaps → ∀ (c' : Nat) (t : List Nat), isL c' = false → ∀ c r, cpl g ++ c' :: t = c :: r → isL c = false := fun g hg c' t hc' c r e => by
      cases hg' : cpl g with
      | nil => rw [hg'] at e; cases e; exact hc'
      | cons x xs => rw [hg'] at e; cases e; exact (gap_sp g hg c (by rw [hg']; exact List.mem_cons_self)).1
    have t1 : NR (ns.map cpl) (cpl g4 ++ [41]) := NR.seps (nil.sep (by decide +kernel)) fun c hc => (gap_sp g4 h4 c hc).1
    have t2 := NR.app ih2.1 t1 (hd g4 h4 41 [] (by decide +kernel))
    have t3 := NR.seps t2 fun c hc => (gap_sp g3 h3 c hc).1
    have t4 := NR.seps (t3.sep hcl) fun c hc => (gap_sp g2 h2 c hc).1
    have t5 := NR.app ih1.1 t4 (hd g2 h2 c _ hcl)
    refine ⟨NR.sep (by decide +kernel) (NR.seps t5 fun c hc => (gap_sp g1 h1 c hc).1), ?_⟩
    simp only [oc_cons, oc_app, oc_none fun c hc => (gap_sp g1 h1 c hc).2, oc_none fun c hc => (gap_sp g2 h2 c hc).2, oc_none fun c hc => (gap_sp g3 h3 c hc).2, oc_none fun c hc => (gap_sp g4 h4 c hc).2]
    have i1 := ih1.2
    have i2 := ih2.2
    have e41 : isOc 41 = false := by decide +kernel
    have e40 : isOc 40 = true := by decide +kernel
    have e0 : oc [] = 0 := rfl
    rw [hco, e41, e40, e0]
    show 1 + (0 + (_ + (0 + (0 + (0 + (_ + (0 + (0 + 0)))))))) ≤ 1 + 2 * xo d
    omega
end Du
namespace Du
open PySem L2 Pz
section
variable {P : Program} {w : World} {K : PySem.W.Frag} {mg : Str → Option Value} {base : Heap} {C CU : Addr}
theorem calImp {x : Str} {R R' : List D → D → Prop} {j k : Nat} (c : C8.Cal P w K mg base j x (spP R) []) (hk : j ≤ k) (h : ∀ ds d, R' ds d → R ds d) : C8.Cal P w K mg base k x (spP R') [] := by
  obtain ⟨f, fd, ps, ds, ok, h1, h2, h3, h4⟩ := c.ex
  exact ⟨f, fd, ps, ds, (ok.mono hk).imp (spP_imp h), h1, h2, h3, h4⟩
theorem all_parse {f1 f2 : Addr} {fd1 fd2 : FuncData} (F1 : Fun K "_law_level" "_law_level" s_law_level f1 fd1) (m1 : mg "_law_level" = some (.ref f1)) (b1 : Binds K fd1 ["_law_parts_here", "_law_at", "_law_signs"] []) (F2 : Fun K "_law_single" "_law_single" s_law_single f2 fd2) (m2 : mg "_law_single" = some (.ref f2)) (b2 : Binds K fd2 ["_law_parts_here", "_law_at"] []) (T : Tx K mg C)
    (o_and : OBin P w K mg base 4 C .BitAnd (spP (ROpG C (· && ·)))) (o_or : OBin P w K mg base 4 C .BitOr (spP (ROpG C (· || ·)))) (o_xor : OBin P w K mg base 4 C .BitXor (spP (ROpG C (fun a b => !eqD (.bl a) (.bl b))))) (o_inv : OInv P w K mg base 4 C (spP (RInv C)))
    (s_test : OSm P w K mg base 3 C "test" (spP (RTest C))) (s_yes : OSm P w K mg base 3 C "yes" (spP (RYes C))) (s_no : OSm P w K mg base 3 C "no" (spP (RNo C))) :
    ∀ n, C8.Cal P w K mg base (5 * n + 5) "_law_single" (spP (RSing C n)) [] ∧ C8.Cal P w K mg base (5 * n + 9) "_law_level" (spP (RLev C n 0)) [] := by
  have nS : ∀ {k : Nat} {R : List D → D → Prop}, (∀ ds d, ¬ R ds d) → C8.Cal P w K mg base (k + 1) "_law_single" (spP R) [] := fun h => mkCalX F2 m2 b2 (fn_noneX F2 sc_law_single fun vs H Q E g => by obtain ⟨Z, ds, d, _, _, hr, _⟩ := g; exact h ds d hr)
  have nL : ∀ {k : Nat} {R : List D → D → Prop}, (∀ ds d, ¬ R ds d) → C8.Cal P w K mg base (k + 1) "_law_level" (spP R) [] := fun h => mkCalX F1 m1 b1 (fn_noneX F1 sc_law_level fun vs H Q E g => by obtain ⟨Z, ds, d, _, _, hr, _⟩ := g; exact h ds d hr)
  have lev : ∀ n, C8.Cal P w K mg base (5 * n + 5) "_law_single" (spP (RSing C n)) [] → C8.Cal P w K mg base (5 * n + 9) "_law_level" (spP (RLev C n 0)) [] := fun n cs => by
    have c3 : C8.Cal P w K mg base (5 * n + 6) "_law_level" (spP (RLev C n 3)) [] := mkCalX F1 m1 b1 (ok_law_level n 3 (5 * n + 5) (by omega) (by omega) F1 T o_and o_or o_xor (calImp cs (Nat.le_refl _) fun ds d h => h.2) (nL fun ds d h => by obtain ⟨l, h1, h2, _⟩ := h; omega))
    have c2 : C8.Cal P w K mg base (5 * n + 7) "_law_level" (spP (RLev C n 2)) [] := mkCalX F1 m1 b1 (ok_law_level n 2 (5 * n + 6) (by omega) (by omega) F1 T o_and o_or o_xor (nS fun ds d h => by have := h.1; omega) (calImp c3 (Nat.le_refl _) fun ds d h => by obtain ⟨l, h1, h2, h3⟩ := h; subst h2; exact h3))
    have c1 : C8.Cal P w K mg base (5 * n + 8) "_law_level" (spP (RLev C n 1)) [] := mkCalX F1 m1 b1 (ok_law_level n 1 (5 * n + 7) (by omega) (by omega) F1 T o_and o_or o_xor (nS fun ds d h => by have := h.1; omega) (calImp c2 (Nat.le_refl _) fun ds d h => by obtain ⟨l, h1, h2, h3⟩ := h; subst h2; exact h3))
    exact mkCalX F1 m1 b1 (ok_law_level n 0 (5 * n + 8) (by omega) (by omega) F1 T o_and o_or o_xor (nS fun ds d h => by have := h.1; omega) (calImp c1 (Nat.le_refl _) fun ds d h => by obtain ⟨l, h1, h2, h3⟩ := h; subst h2; exact h3))
  intro n
  induction n with
  | zero =>
    have cs : C8.Cal P w K mg base (5 * 0 + 5) "_law_single" (spP (RSing C 0)) [] := mkCalX F2 m2 b2 (ok_law_single 0 4 (by omega) F2 T o_inv s_test s_yes s_no (nS fun ds d h => by obtain ⟨l, h1, _⟩ := h; cases h1) (nL fun ds d h => by obtain ⟨l, h1, _⟩ := h; cases h1))
    exact ⟨cs, lev 0 cs⟩
  | succ n ih =>
    have cs : C8.Cal P w K mg base (5 * (n + 1) + 5) "_law_single" (spP (RSing C (n + 1))) [] := mkCalX F2 m2 b2 (ok_law_single (n + 1) (5 * n + 9) (by omega) F2 T o_inv s_test s_yes s_no (calImp ih.1 (by omega) fun ds d h => by obtain ⟨l, h1, h2⟩ := h; cases h1; exact h2) (calImp ih.2 (Nat.le_refl _) fun ds d h => by obtain ⟨l, h1, h2⟩ := h; cases h1; exact h2))
    exact ⟨cs, lev (n + 1) cs⟩
/-! what is due -/
/-- a text with few names and few openings -/
structure TxK (L : List Str) (n : Nat) (s : Str) : Prop where
  len : s.length ≤ 3000
  ok : PyData.strOk s = true
  lL : L.length ≤ 12
  nm : ∀ ws, tokS inSay s = some ws → ∀ x ∈ ws, nmOk x = true → x ∈ L
  op : oc (cpl s) ≤ n
def optD (C : Addr) : Option Sy → D
  | none => .non
  | some v => sD C v
def RDue (C : Addr) (n : Nat) (ds : List D) (d : D) : Prop := ∃ (s : Str) (L : List Str), ds = [.str s] ∧ TxK L n s ∧ d = optD C (readF s)
theorem TxK.ptK {L : List Str} {n : Nat} {s : Str} (h : TxK L n s) {ws : List Str} (hw : tokS inSay s = some ws) : PtK L ws := ⟨Nat.le_trans (toks_len hw) h.len, h.lL, say_word hw, h.nm ws hw⟩
abbrev s_law_due : Stmt := top 34
abbrev n_law_due : List Str := ["_law_text", "_law_parts_here", "_law_told"]
theorem sc_law_due : FnScope n_law_due ["_law_text"] (defScope s_law_due) := ⟨rfl, rfl, rfl, by decide +kernel, rfl, by decide +kernel, by decide +kernel⟩

theorem ok_law_due {f : Addr} {fd : FuncData} (n : Nat) (F : Fun K "_law_due" "_law_due" s_law_due f fd) (T : Tx K mg C) (c_law_parts : C8.Cal P w K mg base 3 "_law_parts" (spP RParts) []) (c_law_level : C8.Cal P w K mg base (5 * n + 9) "_law_level" (spP (RLev C n 0)) []) : FnOk P w K mg base CX0 (5 * n + 10) f fd ["_law_text"] (spP (RDue C n)) := by
  refine pure_ok F sc_law_due (fun ds d h => ?_) (fun cdv A outer s H E hr => ?_)
  · obtain ⟨s, L, rfl, _⟩ := h; rfl
  · refine ⟨_, (pss_cons (ps_set (i := 1) sc_law_due.nd rfl (by first | exact Or.inl rfl | exact Or.inr rfl) (C8.pe_c c_law_parts hr (by omega) rfl (pa_cons (pv 0) pa_nil))) (pss_cons (ps_set (i := 2) sc_law_due.nd rfl (by first | exact Or.inl rfl | exact Or.inr rfl) (pe_ifExp (pt_cmpR op_notN (pv 1) pe_non (nomark _)) (C8.pe_c c_law_level hr (by omega) rfl (pa_cons (pv 1) (pa_cons pe_int (pa_cons pe_str pa_nil)))) pe_non)) (pss_one (ps_ret (pe_ifExp (PW.pt (pw_and (pt_cmpR op_notN (pv 2) pe_non (nomark _)) (pw_and1 (pt_cmpR (k_eq (K := K) rfl hr) (pe_ix (k_ix (K := K) rfl) (pv 2) pe_int (fun _ _ => rfl)) (pe_callB (k_len (K := K) rfl) (by rfl) T.len (by decide +kernel) (pa_cons (pv 1) pa_nil)) (nomark _))))) (pe_ix (k_ix (K := K) rfl) (pv 2) pe_int (fun _ _ => rfl)) pe_non))))), ?_⟩
    intro ds d h
    obtain ⟨s, L, rfl, hs, rfl⟩ := h
    refine .inl (st_seq (st_asg (ev_call (ev_cons (ev_var rfl) ev_nil) ⟨s, rfl, hs.len, hs.ok, rfl⟩) ga_name) ?_)
    show St _ [some (.str s), some (partsD s), none] _
    cases ht : tokS inSay s with
    | none =>
      have e1 : partsD s = .non := by unfold partsD; rw [ht]
      have e2 : readF s = none := by unfold readF; rw [ht]; rfl
      rw [e1, e2]
      exact st_seq (st_asg (ev_if (b := false) (et_test (ev_op (ev_var rfl) ev_non rd_notNo)) (fun h => by cases h) fun _ => ev_non) ga_name) (st_ret (ev_if (b := false && false) (et_and (et_test (ev_op (ev_var rfl) ev_non rd_notNo)) fun h => by cases h) (fun h => by cases h) fun _ => ev_non))
    | some ws =>
      have hp := hs.ptK ht
      have e1 : partsD s = lS ws := by unfold partsD; rw [ht]
      have hop : opens (tkL ws 0) ≤ n := Nat.le_trans (tok_oc ht) hs.op
      have e2 : readF s = match lv binS (pS binS ngS n) 3 (tkL ws 0) with | some (v, []) => some v | _ => none := by
        unfold readF
        rw [ht]
        show run binS ngS ⟨[], [], true⟩ (ws.map tkW) = _
        have := both (bin := binS) (ng := ngS) (n := n) (ts := ws.map tkW) hop
        rw [this, show ws.map tkW = tkL ws 0 from rfl]
        cases lv binS (pS binS ngS n) 3 (tkL ws 0) with
        | none => rfl
        | some p => obtain ⟨v, r⟩ := p; cases r <;> rfl
      rw [e1, e2]
      refine st_seq (st_asg (d := resD C ws (lv binS (pS binS ngS n) 3 (tkL ws 0))) (ev_if (b := true) (et_test (ev_op (ev_var rfl) ev_non rd_notNo)) (fun _ => ev_call (ev_cons (ev_var rfl) (ev_cons ev_int (ev_cons ev_str ev_nil))) ⟨ws, L, 0, rfl, hp, Nat.zero_le _, hop, rfl⟩) fun h => by cases h) ga_name) ?_
      show St _ [some (.str s), some (lS ws), some (resD C ws (lv binS (pS binS ngS n) 3 (tkL ws 0)))] _
      cases hm : lv binS (pS binS ngS n) 3 (tkL ws 0) with
      | none => exact st_ret (ev_if (b := false && false) (et_and (et_test (ev_op (ev_var rfl) ev_non rd_notNo)) fun h => by cases h) (fun h => by cases h) fun _ => ev_non)
      | some p =>
        obtain ⟨v, rest⟩ := p
        obtain ⟨hv, hsuf⟩ := lv_ok (OkV.all hp.lL).1 (pS_ok (OkV.all hp.lL).1 (OkV.all hp.lL).2 n) 3 _ _ _ (hp.vals 0) hm
        have hrl : rest.length ≤ ws.length := by have := hsuf.length_le; rw [tkL_len] at this; omega
        have e : decide (ws.length - rest.length = ws.length) = eqD (.int ((ws.length - rest.length : Nat) : Int)) (.int (((ws.map D.str).length : Nat) : Int)) := by
          rw [eqD_int, List.length_map]; exact decide_eq_decide.mpr (by omega)
        have tt : EvT (tAnd (tTest (tOp (fun x y H Q => y = .non ∧ Q (.bl (!decide (x = .non))) H) (tVar 2) (tC .non))) (tTest (tOp (rEqD K) (tOp (rIx K) (tVar 2) (tC (.int 1))) (tCB (fun xs H Q => ∃ x n, xs = [x] ∧ LenV K x H n ∧ Q (.int n) H) (tCons (tVar 1) tNil))))) [some (.str s), some (lS ws), some (resD C ws (some (v, rest)))] (true && decide (ws.length - rest.length = ws.length)) := by
          rw [e]
          exact et_and (et_test (ev_op (ev_var rfl) ev_non rd_notNo)) fun _ => et_test (ev_op (ev_op (ev_var rfl) ev_int (rd_ixT (i := 1) rfl)) (ev_cb (ev_cons (ev_var rfl) ev_nil) rl_lenL) (rd_eq ok_int ok_int))
        refine st_ret (ev_if tt (fun hb => ?_) fun hb => ?_)
        · have h0 : rest = [] ∨ ws = [] := by
            have := of_decide_eq_true (show decide (ws.length - rest.length = ws.length) = true by simpa using hb)
            by_cases hw : ws.length = 0
            · exact .inr (List.length_eq_zero_iff.mp hw)
            · exact .inl (List.length_eq_zero_iff.mp (by omega))
          have h0 : rest = [] := by
            rcases h0 with h | h
            · exact h
            · exact List.length_eq_zero_iff.mp (by rw [h] at hrl; simpa using hrl)
          subst h0
          exact ev_op (ev_var rfl) ev_int (rd_ixT (i := 0) rfl)
        · have h0 : rest ≠ [] := fun z => by rw [z] at hb; simp at hb
          cases rest with
          | nil => exact absurd rfl h0
          | cons t r => exact ev_non
/-! what is told -/
def RTold (C : Addr) (ds : List D) (d : D) : Prop := (∃ (s : Str) (L : List Str) (n : Nat), ds = [.str s] ∧ TxK L n s ∧ d = optD C (readF s)) ∨ (∃ x, ds = [x] ∧ ((∃ t, tyD x = some t ∧ t ≠ "str") ∨ ∃ fs, x = .ins C fs) ∧ d = .non)
abbrev s_law_tried : Stmt := top 35
abbrev n_law_tried : List Str := ["_law_text"]
theorem sc_law_tried : FnScope n_law_tried ["_law_text"] (defScope s_law_tried) := ⟨rfl, rfl, rfl, by decide +kernel, rfl, by decide +kernel, by decide +kernel⟩

theorem ok_law_tried {f : Addr} {fd : FuncData} (F : Fun K "_law_tried" "_law_tried" s_law_tried f fd) (U_BadText : ErrN P w K mg base 1 CU "BadText") (x_read_say : CalX P w K mg base 8 "read_say" (spB CU (RRead C))) : FnOk P w K mg base CX0 10 f fd ["_law_text"] (spP (RTold C)) := by
  refine pure_ok F sc_law_tried (fun ds d h => ?_) (fun cdv A outer s H E hr => ?_)
  · obtain ⟨s, L, n, rfl, _⟩ | ⟨x, rfl, _⟩ := h <;> rfl
  · obtain ⟨fr, fdr, psr, okr, hmr, kpr, hbr⟩ := x_read_say.ex
    refine ⟨_, pss_one (ps_try_only (X := (cxOf CX0 P w K mg base n_law_tried "_law_tried" (defScope s_law_tried) f cdv A outer s H E).nox) (c := .ref CU) (tb := fun W => tRet (tCallS (spB CU (RRead C)) (WE W) (tCons (tVar 0) tNil))) rfl rfl ⟨rfl, by decide, .inl U_BadText.g⟩ L2.takes0 (fun W pn xe tk _ => pss_one (ps_ret (pe_callS okr (hr.mono (by omega)) rfl hmr kpr hbr (fun σ => passAt tk σ) (pa_cons (pv 0) pa_nil)))) (fun a oe cls d pn _ _ => pss_one (ps_ret pe_non))), ?_⟩
    intro ds d h
    have main : ∀ (x d : Du.D), (∀ (Φ : Du.D → Mu → Prop) (X : Prop), Φ d [] → (d = .non → X) → RRead C [x] [] Φ X) → Ret (fun D σ H => tRet (tCallS (spB CU (RRead C)) (WE (wOnly K (.ref CU) (fun a cls d => tRet (tC .non)) (fun _ _ _ _ => False) D)) (tCons (tVar 0) tNil)) D σ H) [some x] d := fun x d hx => by
      refine .inl fun Z σ H D k sr q => ?_
      obtain ⟨v, h1, h2⟩ := sr.2 0 x rfl
      refine ⟨v, h1, ?_⟩
      have ex : ∀ {Z' : Addr → Prop} {H' : Hp} {μ' : Mu}, Nw Z H [] Z' H' μ' → Ex H H' := fun z a o h => z.ext a o (by simp [dom]) h
      refine ⟨Z, [x], [], fun d' _ => d' = d, d = .non, k, .cons h2 .nil, .nil, hx _ _ rfl id, fun v' H' d' μ' Z' e z r' => ?_, fun hd Z' H' μ' z => ?_⟩
      · subst e
        exact q v' H' (ex z) (r'.zs fun a h => .inl ((z.zk a h).resolve_right fun h => by simp [dom] at h))
      · subst hd
        exact ⟨true, U_BadText.ex, fun _ a ha => q .non H' (ex z) .non, fun h => by cases h⟩
    rcases h with ⟨s, L, n, rfl, hs, rfl⟩ | ⟨x, rfl, hx, rfl⟩
    · refine main (.str s) _ fun Φ X h1 h2 => ⟨rfl, .inl ⟨s, L, rfl, hs.len, hs.ok, hs.lL, hs.nm, ?_⟩⟩
      cases hr : readF s with
      | none => rw [hr] at h2; exact h2 rfl
      | some v => rw [hr] at h1; exact h1
    · exact main x _ fun Φ X h1 h2 => ⟨rfl, .inr ⟨x, rfl, hx, h2 rfl⟩⟩
end
end Du
namespace Du
open PySem L2
/-! the mathematics of says -/
theorem filter_in_self {r ns : List Str} (hn : SS ns) (h : r.Sublist ns) : ns.filter (fun x => decide (x ∈ r)) = r :=
  (hn.filter _).ext (hn.sub h) fun x => by
    simp only [List.mem_filter, decide_eq_true_eq]
    exact ⟨fun z => z.2, fun z => ⟨h.subset z, z⟩⟩
/-- a name that does not matter -/
theorem drop_one {ev : List Str} {pts : List (List Str)} (he : SS ev) {m : Str} (hm : ess ev pts m = false) (hmm : m ∈ ev) {row : List Str} (hr : row.Sublist ev) : (row ∈ pts ↔ row.filter (fun x => !decide (x = m)) ∈ pts) := by
  have key : ∀ r : List Str, r.Sublist ev → (r ∈ pts ↔ setTo r m true ∈ pts) := fun r hr => by
    have h := hm
    unfold ess at h
    rw [List.any_eq_false] at h
    have := h r (mem_choices.mpr hr)
    by_cases h1 : r ∈ pts <;> by_cases h2 : setTo r m true ∈ pts <;> simp [h1, h2] at this ⊢
  have hs : (row.filter (fun x => !decide (x = m))).Sublist ev := List.filter_sublist.trans hr
  have e : setTo (row.filter (fun x => !decide (x = m))) m true = setTo row m true :=
    (setTo_SS (he.2.sublist hs)).ext (setTo_SS (he.2.sublist hr)) fun x => by
      rw [setTo_mem, setTo_mem, List.mem_filter]
      by_cases z : x = m <;> simp [z]
  rw [key row hr, key _ hs, e]
theorem drop_all {ev : List Str} {pts : List (List Str)} (he : SS ev) {row : List Str} (hr : row.Sublist ev) : ∀ L : List Str, (∀ m ∈ L, ess ev pts m = false ∧ m ∈ ev) → (row ∈ pts ↔ row.filter (fun x => !decide (x ∈ L)) ∈ pts)
  | [], _ => by rw [List.filter_eq_self.mpr (by simp)]
  | m :: L, h => by
    have ih := drop_all he hr L fun x hx => h x (List.mem_cons_of_mem _ hx)
    have hm := h m List.mem_cons_self
    rw [ih, drop_one he hm.1 hm.2 (List.filter_sublist.trans hr), List.filter_filter]
    have e : (fun x => !decide (x = m) && !decide (x ∈ L)) = fun x => !decide (x ∈ m :: L) := by
      funext x
      by_cases z : x = m <;> by_cases y : x ∈ L <;> simp [z, y]
    rw [e]
theorem said_key {ns : List Str} {pts : List (List Str)} {row : List Str} (hr : row.Sublist (uniq ns)) : (row ∈ pts ↔ (sN ns pts).filter (fun x => decide (x ∈ row)) ∈ pts) := by
  have se := SS.uniq ns
  rw [drop_all se hr ((uniq ns).filter fun x => !ess (uniq ns) pts x) fun m hm => by
    have := List.mem_filter.mp hm
    exact ⟨by simpa using this.2, this.1⟩]
  have e : row.filter (fun x => !decide (x ∈ (uniq ns).filter fun x => !ess (uniq ns) pts x)) = (sN ns pts).filter (fun x => decide (x ∈ row)) :=
    ((se.sub hr).filter _).ext ((se.sub (sN_sub ns pts)).filter _) fun x => by
      unfold sN
      simp only [List.mem_filter, decide_eq_true_eq, Bool.not_eq_true', decide_eq_false_iff_not, not_and]
      constructor
      · rintro ⟨h1, h2⟩
        refine ⟨⟨hr.subset h1, ?_⟩, h1⟩
        have := h2 (hr.subset h1)
        simpa using this
      · rintro ⟨⟨h1, h2⟩, h3⟩
        exact ⟨h3, fun _ => by simp [h2]⟩
  rw [e]
/-- what said_at makes says as its points do -/
theorem said_den (ns : List Str) (pts : List (List Str)) (row : List Str) : atS (sN ns pts) (sP ns pts) row = decide ((uniq ns).filter (fun x => decide (x ∈ row)) ∈ pts) := by
  have se := SS.uniq ns
  unfold atS
  rw [decide_eq_decide, said_key (ns := ns) (pts := pts) (row := (uniq ns).filter fun x => decide (x ∈ row)) List.filter_sublist]
  have e : (sN ns pts).filter (fun x => decide (x ∈ (uniq ns).filter fun x => decide (x ∈ row))) = (sN ns pts).filter (fun x => decide (x ∈ row)) := by
    refine List.filter_congr fun x hx => ?_
    rw [decide_eq_decide, List.mem_filter]
    simp only [decide_eq_true_eq]
    exact ⟨fun h => h.2, fun h => ⟨(sN_sub ns pts).subset hx, h⟩⟩
  rw [e]
  unfold sP
  rw [List.mem_filter]
  simp only [decide_eq_true_eq]
  exact ⟨fun h => h.2, fun h => ⟨mem_choices.mpr List.filter_sublist, h⟩⟩
/-- in closed form -/
structure Canon (ns : List Str) (ps : List (List Str)) : Prop where
  ss : SS ns
  pe : ps = (choices ns).filter fun r => decide (r ∈ ps)
  es : ∀ n ∈ ns, ∃ r, r.Sublist ns ∧ ¬ (r ∈ ps ↔ setTo r n true ∈ ps)
theorem said_canon (ns : List Str) (pts : List (List Str)) : Canon (sN ns pts) (sP ns pts) := by
  have se := SS.uniq ns
  have sn := se.sub (sN_sub ns pts)
  have inP : ∀ r, r.Sublist (sN ns pts) → (r ∈ sP ns pts ↔ r ∈ pts) := fun r hr => by
    unfold sP
    rw [List.mem_filter]
    simp only [decide_eq_true_eq]
    exact ⟨fun h => h.2, fun h => ⟨mem_choices.mpr hr, h⟩⟩
  refine ⟨sn, ?_, fun n hn => ?_⟩
  · refine List.filter_congr fun r hr => ?_
    rw [decide_eq_decide, inP r (mem_choices.mp hr)]
  · have hn' := List.mem_filter.mp (show n ∈ (uniq ns).filter (ess (uniq ns) pts) from hn)
    have h := hn'.2
    unfold ess at h
    obtain ⟨row, hrow, hne⟩ := List.any_eq_true.mp h
    have hr := mem_choices.mp hrow
    refine ⟨(sN ns pts).filter (fun x => decide (x ∈ row)), List.filter_sublist, ?_⟩
    have hs := setTo_sub se hr hn'.1 true
    have e : setTo ((sN ns pts).filter fun x => decide (x ∈ row)) n true = (sN ns pts).filter fun x => decide (x ∈ setTo row n true) :=
      (setTo_SS (sn.2.sublist List.filter_sublist)).ext (sn.filter _) fun x => by
        rw [setTo_mem, List.mem_filter, List.mem_filter]
        simp only [decide_eq_true_eq, setTo_mem]
        constructor
        · rintro (⟨⟨h1, h2⟩, h3⟩ | ⟨_, rfl⟩)
          · exact ⟨h1, .inl ⟨h2, h3⟩⟩
          · exact ⟨hn, .inr ⟨trivial, rfl⟩⟩
        · rintro ⟨h1, h2 | h2⟩
          · exact .inl ⟨⟨h1, h2.1⟩, h2.2⟩
          · exact .inr h2
    rw [e, inP _ List.filter_sublist, inP _ List.filter_sublist, ← said_key hr, ← said_key hs]
    intro hi
    rw [show decide (row ∈ pts) = decide (setTo row n true ∈ pts) from decide_eq_decide.mpr hi] at hne
    simp at hne
theorem Canon.at_sub {ns : List Str} {ps : List (List Str)} (c : Canon ns ps) {r : List Str} (hr : r.Sublist ns) : atS ns ps r = decide (r ∈ ps) := by
  unfold atS
  rw [filter_in_self c.ss hr]
theorem Canon.names {n1 n2 : List Str} {p1 p2 : List (List Str)} (c1 : Canon n1 p1) (h : ∀ row, atS n1 p1 row = atS n2 p2 row) : ∀ n ∈ n1, n ∈ n2 := fun n hn => by
  obtain ⟨r, hr, hne⟩ := c1.es n hn
  refine Classical.byContradiction fun hn2 => hne ?_
  have hs := setTo_sub c1.ss hr hn true
  have h1 := c1.at_sub hr
  have h2 := c1.at_sub hs
  rw [h] at h1 h2
  have e : atS n2 p2 r = atS n2 p2 (setTo r n true) := by
    unfold atS
    have e : n2.filter (fun x => decide (x ∈ r)) = n2.filter (fun x => decide (x ∈ setTo r n true)) := by
      refine List.filter_congr fun x hx => ?_
      rw [decide_eq_decide, setTo_mem]
      have : x ≠ n := fun z => hn2 (z ▸ hx)
      simp [this]
    rw [e]
  rw [h1, h2, decide_eq_decide] at e
  exact e
theorem Canon.eq {n1 n2 : List Str} {p1 p2 : List (List Str)} (c1 : Canon n1 p1) (c2 : Canon n2 p2) (h : ∀ row, atS n1 p1 row = atS n2 p2 row) : n1 = n2 ∧ p1 = p2 := by
  have en : n1 = n2 := c1.ss.ext c2.ss fun x => ⟨c1.names h x, c2.names (fun r => (h r).symm) x⟩
  subst en
  refine ⟨rfl, ?_⟩
  rw [c1.pe, c2.pe]
  refine List.filter_congr fun r hr => ?_
  have hr := mem_choices.mp hr
  rw [← c1.at_sub hr, ← c2.at_sub hr, h]
theorem canon_test (n : Str) : Canon [n] [[n]] := by
  refine ⟨⟨List.pairwise_singleton _ _, by simp⟩, by simp [choices], fun m hm => ⟨[], List.nil_sublist _, ?_⟩⟩
  have : m = n := by simpa using hm
  subst this
  have e : setTo [] m true = [m] := by simp [setTo, srt, List.mergeSort]
  rw [e]
  simp
/-- only the names matter -/
theorem at_cut {ns ev : List Str} {ps : List (List Str)} (h : ∀ x ∈ ns, x ∈ ev) (row : List Str) : atS ns ps (ev.filter fun x => decide (x ∈ row)) = atS ns ps row := by
  unfold atS
  have e : ns.filter (fun x => decide (x ∈ ev.filter fun x => decide (x ∈ row))) = ns.filter (fun x => decide (x ∈ row)) := by
    refine List.filter_congr fun x hx => ?_
    rw [decide_eq_decide, List.mem_filter]
    simp only [decide_eq_true_eq]
    exact ⟨fun h => h.2, fun g => ⟨h x hx, g⟩⟩
  rw [e]
theorem inv_den {n1 : List Str} {p1 : List (List Str)} (h : SS n1) (row : List Str) : atS (sN n1 (inS n1 p1)) (sP n1 (inS n1 p1)) row = !atS n1 p1 row := by
  have eu : uniq n1 = n1 := (SS.uniq n1).ext h fun x => uniq_mem
  rw [said_den, eu]
  unfold inS
  simp only [List.mem_filter]
  rw [at_cut (ns := n1) (fun x hx => hx)]
  have : n1.filter (fun x => decide (x ∈ row)) ∈ choices n1 := mem_choices.mpr List.filter_sublist
  simp [this]
end Du
namespace Du
open PySem L2 Pz
/-! bent texts -/
structure Bent (s s' : Str) : Prop where
  len : s'.length ≤ s.length + 9
  ok : PyData.strOk s' = true
  nr : ∀ L, NR L (cpl s) → ∃ x y, NR (x :: y :: L) (cpl s')
  op : oc (cpl s') ≤ oc (cpl s) + 1
def menuB : List Str := ["a", "b", "0", "1", "~", "&", "^", "|", "(", ")", " ", "A", "+", "-", "2", "\n", "abcdefghi", "()"]
theorem menuB_ok : ∀ g ∈ menuB, ((cpl g).all isL = true ∨ (cpl g).all (fun c => !isL c) = true) ∧ oc (cpl g) ≤ 1 ∧ g.length ≤ 9 ∧ PyData.strOk g = true := by decide +kernel
theorem bent_in {s s' g : Str} (hs : PyData.strOk s = true) {i j : Nat} (hij : i ≤ j) (hg : g ∈ menuB) (h : cpl s' = (cpl s).take i ++ (cpl g ++ (cpl s).drop j)) : Bent s s' := by
  obtain ⟨h1, h2, h3, h4⟩ := menuB_ok g hg
  refine ⟨?_, strOk_of fun c hc => ?_, fun L hL => ?_, ?_⟩
  · rw [← cpl_len, h, ← cpl_len s]
    have := cpl_len g
    simp only [List.length_append, List.length_take, List.length_drop]; omega
  · rw [h] at hc
    rcases List.mem_append.mp hc with hc | hc
    · exact strOk_cp hs (List.mem_of_mem_take hc)
    · rcases List.mem_append.mp hc with hc | hc
      · exact strOk_cp h4 hc
      · exact strOk_cp hs (List.mem_of_mem_drop hc)
  · have e : cpl s = (cpl s).take i ++ (((cpl s).drop i).take (j - i) ++ (cpl s).drop j) := by
      have : ((cpl s).drop i).drop (j - i) = (cpl s).drop j := by rw [List.drop_drop]; congr 1; omega
      rw [← this, List.take_append_drop, List.take_append_drop]
    rw [h]
    refine NR.bend (e := ((cpl s).drop i).take (j - i)) (by rw [← e]; exact hL) ?_
    rcases h1 with h1 | h1
    · exact .inl fun c hc => List.all_eq_true.mp h1 c hc
    · exact .inr fun c hc => by simpa using List.all_eq_true.mp h1 c hc
  · rw [h, oc_app, oc_app]
    have a := oc_app ((cpl s).take i) ((cpl s).drop i)
    rw [List.take_append_drop] at a
    have b : oc ((cpl s).drop j) ≤ oc ((cpl s).drop i) := by
      have := oc_drop ((cpl s).drop i) (j - i)
      rw [List.drop_drop, show i + (j - i) = j by omega] at this
      exact this
    omega
theorem bent_cut {s s' : Str} (hs : PyData.strOk s = true) {i : Nat} (h : cpl s' = (cpl s).take i) : Bent s s' := by
  refine ⟨?_, strOk_of fun c hc => ?_, fun L hL => ?_, ?_⟩
  · rw [← cpl_len, h, ← cpl_len s, List.length_take]; omega
  · rw [h] at hc; exact strOk_cp hs (List.mem_of_mem_take hc)
  · obtain ⟨x, hx⟩ := NR.cut (u := (cpl s).take i) (v := (cpl s).drop i) (by rw [List.take_append_drop]; exact hL)
    rw [h]
    exact ⟨x, [], hx.mono fun y hy => by
      rcases List.mem_cons.mp hy with rfl | hy
      · exact List.mem_cons_self
      · exact List.mem_cons_of_mem _ (List.mem_cons_of_mem _ hy)⟩
  · rw [h]; have := oc_take (cpl s) i; omega
theorem cpl_cutN (s : Str) (i j : Nat) : cpl (cutN s i j) = ((cpl s).drop i).take (j - i) := rfl
section
variable {P : Program} {w : World} {K : PySem.W.Frag} {mg : Str → Option Value} {base : Heap} {C CU : Addr}
def RBent (ds : List D) (μ : Mu) (Φ : D → Mu → Prop) : Prop := ∃ (a c : Addr) (N : Nat) (s : Str), ds = [.ptr a, .str s] ∧ BxS a c N μ ∧ N + 3 < 90000 ∧ s.length ≤ 2000 ∧ PyData.strOk s = true ∧
  ∀ (μ' : Mu) (s' : Str), BxS a c (N + 3) μ' → Bent s s' → Φ (.str s') μ'
abbrev s_law_bent : Stmt := top 36
abbrev n_law_bent : List Str := ["_law_box_here", "_law_text", "_law_way", "_law_at", "_law_sign"]
theorem sc_law_bent : FnScope n_law_bent ["_law_box_here", "_law_text"] (defScope s_law_bent) := ⟨rfl, rfl, rfl, by decide +kernel, rfl, by decide +kernel, by decide +kernel⟩

theorem ok_law_bent {f : Addr} {fd : FuncData} (F : Fun K "_law_bent" "_law_bent" s_law_bent f fd) (T : Bn mg) (c_law_take : C8.Cal P w K mg base 1 "_law_take" (spM RTake) []) (c_law_pick : C8.Cal P w K mg base 2 "_law_pick" (spM RPk) []) : FnOk P w K mg base CX0 3 f fd ["_law_box_here", "_law_text"] (spM RBent) := by
  refine eff_ok F sc_law_bent (fun ds μ Φ h => ?_) (fun cdv A outer s H E hr => ?_)
  · obtain ⟨a, c, N, s, rfl, _⟩ := h; rfl
  · refine ⟨_, (pss_cons (ps_par (i := 3) (j := 4) rfl sc_law_bent.nd rfl rfl (by decide) rfl rfl (pa_cons (C8.pe_c c_law_take hr (by omega) rfl (pa_cons (pv 0) (pa_cons (pe_op (k_addU (K := K) rfl) (pe_callB (k_len (K := K) rfl) (by rfl) T.len (by decide +kernel) (pa_cons (pv 1) pa_nil)) pe_int) pa_nil))) (pa_cons (C8.pe_c c_law_pick hr (by omega) rfl (pa_cons (pv 0) (pa_cons (pe_op (k_addU (K := K) rfl) (pe_callTy (call_listStr rfl) (by rfl) T.list (by decide +kernel) (pa_cons pe_str pa_nil)) (pe_lst (pa_cons pe_str (pa_cons pe_str (pa_cons pe_str pa_nil))))) pa_nil))) pa_nil)) (by rfl)) (pss_cons (ps_set (i := 2) sc_law_bent.nd rfl (by first | exact Or.inl rfl | exact Or.inr rfl) (C8.pe_c c_law_take hr (by omega) rfl (pa_cons (pv 0) (pa_cons pe_int pa_nil)))) (pss_one (ps_ret (pe_op k_addS (pe_op k_addS (pe_slice k_slS (pv 1) po_none (po_some (pv 3))) (pe_ifExp (pt_cmpR op_lt (pv 2) pe_int (nomark _)) (pv 4) pe_str)) (pe_ifExp (pt_cmpR op_lt (pv 2) pe_int (nomark _)) (pe_slice k_slS (pv 1) (po_some (pe_op (k_addU (K := K) rfl) (pv 3) (pe_callTy call_int1 (by rfl) T.int (by decide +kernel) (pa_cons (pe_cmpR op_gt (pv 2) pe_int (nomark _)) pa_nil)))) po_none) pe_str)))))), ?_⟩
    intro ds μ Φ h
    obtain ⟨a, c, N, s, rfl, hs, hN, hl, ho, q⟩ := h
    have hlen := cpl_len s
    have em : Du.D.lst (menuB.map Du.D.str) = .lst (((cpl ("ab01~&^|() A+-2" : Str)).map fun c => Du.D.str (sg c)) ++ [.str "\n", .str "abcdefghi", .str "()"]) := by
      have : menuB = ((cpl ("ab01~&^|() A+-2" : Str)).map sg) ++ (["\n", "abcdefghi", "()"] : List Str) := by decide +kernel
      rw [this, List.map_append, List.map_map]; rfl
    refine gs_seq (gs_parE (gea_cons (ge_callA (gea_ev (ds := [.ptr a, .int ((s.length + 1 : Nat) : Int)]) (ev_cons (ev_var rfl) (ev_cons (ev_op (ev_cb (ev_cons (ev_var rfl) ev_nil) (rl_lenS (by omega))) ev_int rd_addI) ev_nil)) ⟨a, c, N, s.length + 1, rfl, hs, by omega, by omega, by omega, fun μ1 i hs1 hi => ?_⟩))))
    refine gea_cons (ge_callA (gea_ev (ds := [.ptr a, .lst (menuB.map Du.D.str)]) (ev_cons (ev_var rfl) (ev_cons (by rw [em]; exact ev_op (ev_cb (ev_cons ev_str ev_nil) (rl_listS (by decide +kernel))) (ev_lst (ev_cons ev_str (ev_cons ev_str (ev_cons ev_str ev_nil))) (by simp)) (rd_addL (by rw [List.length_map]; decide +kernel))) ev_nil)) ⟨a, c, N + 1, menuB.map Du.D.str, rfl, hs1, by omega, by decide +kernel, by decide +kernel, fun μ2 d hs2 hd => ?_⟩))
    obtain ⟨g, hg, rfl⟩ := List.mem_map.mp hd
    obtain ⟨_, _, hgl, hgo⟩ := menuB_ok g hg
    refine gea_nil ⟨_, _, rfl, ?_⟩
    refine gs_seq (gs_asg (ge_callA (gea_ev (ev_cons (ev_var rfl) (ev_cons ev_int ev_nil)) ⟨a, c, N + 2, 4, rfl, hs2, by omega, by omega, by omega, fun μ3 way hs3 hw => ?_⟩)))
    have hz : s.length ≤ 100000 := by omega
    have cut0 : Ev (tSl rSlS (tVar 1) tNoPart (tPart (tVar 3))) [some (.ptr a), some (.str s), some (.int way), some (.int i), some (.str g)] (.str (cutN s 0 i)) := ev_cutS (i := 0) (j := i) (ev_var rfl) eo_none (eo_some (ev_var rfl)) hz (HT.sIx_none _ _) (by rw [HT.sIx_nat]; omega)
    have c0 : cpl (cutN s 0 i) = (cpl s).take i := by rw [cpl_cutN]; rfl
    have l0 : (cutN s 0 i).length ≤ 2000 := by rw [← cpl_len, c0, List.length_take]; omega
    have tw : ∀ {ρ : Rho}, ρ[2]? = some (some (.int way)) → EvT (tTest (tOp (rI0 fun i j => .bl (decide (i < j))) (tVar 2) (tC (.int 3)))) ρ (decide ((way : Int) < 3)) := fun h => et_test (ev_op (ev_var h) ev_int rd_lt)
    have en : ("" : Str).length ≤ 0 := by decide +kernel
    have fin : ∀ {s' : Str}, Bent s s' → μ3.map (·.1) = μ.map (·.1) ∧ Φ (.str s') μ3 := fun hb => ⟨by rw [hs3.fst, hs.fst], q μ3 _ hs3 hb⟩
    by_cases h3 : way < 3
    · have hb : decide ((way : Int) < 3) = true := decide_eq_true (by omega)
      obtain ⟨e, he, he1⟩ : ∃ e : Nat, e = (if 1 < way then 1 else 0) ∧ e ≤ 1 := ⟨_, rfl, by split <;> omega⟩
      have cut1 : Ev (tSl rSlS (tVar 1) (tPart (tOp (rAddU K) (tVar 3) (tCB (fun xs H Q => (∃ i, xs = [.int i] ∧ Q (.int i) H) ∨ ∃ k, xs = [.bl k] ∧ Q (.int (if k then 1 else 0)) H) (tCons (tOp (rI0 fun i j => .bl (decide (j < i))) (tVar 2) (tC (.int 1))) tNil)))) tNoPart) [some (.ptr a), some (.str s), some (.int way), some (.int i), some (.str g)] (.str (cutN s (min (i + e) s.length) s.length)) := by
        refine ev_cutS (lo := some ((i + e : Nat) : Int)) (ev_var rfl) (eo_some ?_) eo_none hz (by rw [HT.sIx_nat]) (HT.sIx_none _ _)
        have hbe : (((if decide ((1 : Int) < way) = true then 1 else 0 : Nat)) : Int) = (e : Int) := by
          rw [he]
          by_cases h1 : 1 < way
          · rw [if_pos (decide_eq_true (by omega)), if_pos h1]
          · rw [if_neg (by simp; omega), if_neg h1]
        have := ev_op (r := rAddU K) (ρ := [some (.ptr a), some (.str s), some (.int way), some (.int i), some (.str g)]) (d := .int (i : Nat)) (ev_var (i := 3) rfl) (ev_cb (ev_cons (ev_op (ev_var (i := 2) rfl) (ev_int (i := 1)) rd_gt) ev_nil) rl_intB) rd_addI
        rw [hbe] at this
        exact this
      refine gs_ret (ge_ev (ev_op (ev_op cut0 (ev_if (tw rfl) (fun _ => ev_var rfl) fun h => by rw [hb] at h; cases h) (rd_addB l0 hgl (by omega))) (ev_if (tw rfl) (fun _ => cut1) fun h => by rw [hb] at h; cases h) (rd_addB (n := 2000) (le_app l0 hgl) (by rw [← cpl_len, cpl_cutN, List.length_take, List.length_drop, hlen]; omega) (by omega))) (fin (bent_in ho (i := i) (j := min (i + e) s.length) (by omega) hg ?_)))
      have e3 : ((cpl s).drop (min (i + e) s.length)).take (s.length - min (i + e) s.length) = (cpl s).drop (min (i + e) s.length) := List.take_of_length_le (by rw [List.length_drop, hlen]; exact Nat.le_refl _)
      rw [cpl_app, cpl_app, c0, List.append_assoc, cpl_cutN, e3]
    · have hb : decide ((way : Int) < 3) = false := decide_eq_false (by omega)
      refine gs_ret (ge_ev (ev_op (ev_op cut0 (ev_if (tw rfl) (fun h => by rw [hb] at h; cases h) fun _ => ev_str) (rd_addB l0 en (by omega))) (ev_if (tw rfl) (fun h => by rw [hb] at h; cases h) fun _ => ev_str) (rd_addB (le_app l0 en) en (by omega))) (fin (bent_cut ho (i := i) ?_)))
      have e0 : cpl ("" : Str) = [] := by decide +kernel
      rw [cpl_app, cpl_app, c0, e0, List.append_nil, List.append_nil]
end
end Du
namespace Du
open PySem L2 PySem.Spec PyProof.Rows LamX
/-! == of plain things or of dicts by texts; {} as a datum -/
def rOr (r1 r2 : R2) : R2 := fun x y H Q => r1 x y H Q ∨ r2 x y H Q
section
variable {X : Cx}
end
theorem ev_dK0 {ρ : Rho} : Ev tDNewK ρ (.dK []) := fun Z σ H Q k s q => fun p hp => q _ _ (Ex.new hp) (.dK (k.no hp) (.inl upd_same) .nil)
/-! f(lambda: ..) by its name -/
end Du
namespace Du
open PySem L2 Pz
/-! the law's texts -/
structure TxS (j : Nat) (s : Str) : Prop where
  len : s.length ≤ 60 + 9 * j
  ok : PyData.strOk s = true
  nr : ∃ L : List (List Nat), L.length ≤ 3 + 2 * j ∧ NR L (cpl s)
  op : oc (cpl s) ≤ 3 + j
theorem TxS.bent {j : Nat} {s s' : Str} (h : TxS j s) (b : Bent s s') : TxS (j + 1) s' := by
  obtain ⟨L, hl, hn⟩ := h.nr
  obtain ⟨x, y, hn'⟩ := b.nr L hn
  have h1 := h.len; have h2 := b.len; have h3 := h.op; have h4 := b.op
  exact ⟨by omega, b.ok, ⟨x :: y :: L, by simp only [List.length_cons]; omega, hn'⟩, by omega⟩
theorem TxS.cut {ns : List Str} {s : Str} {v : Sy} (hl : ns.length ≤ 2) (hn : ∀ n ∈ ns, nmOk n = true) (h : ExT ns 2 s v) : TxS 0 (cutN s 0 (min 60 s.length)) := by
  obtain ⟨h1, h2⟩ := h.text hn
  have e : cpl (cutN s 0 (min 60 s.length)) = (cpl s).take (min 60 s.length) := by rw [cpl_cutN, List.drop_zero, Nat.sub_zero]
  refine ⟨?_, strOk_of fun c hc => ?_, ?_, ?_⟩
  · rw [← cpl_len, e, List.length_take]; omega
  · rw [e] at hc; exact strOk_cp (h.ok hn (by omega)).1 (List.mem_of_mem_take hc)
  · obtain ⟨x, hx⟩ := NR.cut (u := (cpl s).take (min 60 s.length)) (v := (cpl s).drop (min 60 s.length)) (by rw [List.take_append_drop]; exact h1)
    exact ⟨x :: ns.map cpl, by simp only [List.length_cons, List.length_map]; omega, by rw [e]; exact hx⟩
  · rw [e]
    have := oc_take (cpl s) (min 60 s.length)
    have h3 : xo 2 = 3 := rfl
    omega
theorem txk_of {L : List (List Nat)} {n : Nat} {s : Str} (hl : s.length ≤ 3000) (ho : PyData.strOk s = true) (hL : L.length ≤ 12) (hn : NR L (cpl s)) (hop : oc (cpl s) ≤ n) : TxK (L.map fun cs => (⟨cs.toArray⟩ : Str)) n s :=
  ⟨hl, ho, by rw [List.length_map]; exact hL, fun ws ht x hx hm => by
    have h1 := tok_runs ht x hx hm
    have h2 : cpl x ≠ [] := fun e => by
      have h0 : x.length = 0 := by rw [← cpl_len, e]; rfl
      unfold nmOk at hm
      rw [Bool.and_eq_true, Bool.and_eq_true] at hm
      have := of_decide_eq_true hm.1.1
      omega
    exact List.mem_map.mpr ⟨cpl x, hn _ h1 h2, cpl_ext rfl⟩, hop⟩
theorem TxS.k {j : Nat} {s : Str} (h : TxS j s) (hj : j ≤ 2) : ∃ L, TxK L 5 s := by
  obtain ⟨L, hl, hn⟩ := h.nr
  have h1 := h.len; have h2 := h.op
  exact ⟨_, txk_of (by omega) h.ok (by omega) hn (by omega)⟩
theorem read_ok {L : List Str} {n : Nat} {s : Str} {v : Sy} (h : TxK L n s) (hr : readF s = some v) : OkV L v := by
  unfold readF at hr
  cases ht : tokS inSay s with
  | none => rw [ht] at hr; cases hr
  | some ws =>
    rw [ht] at hr
    have hp := h.ptK ht
    have hop : opens (tkL ws 0) ≤ n := Nat.le_trans (tok_oc ht) h.op
    have hr : run binS ngS ⟨[], [], true⟩ (ws.map tkW) = some v := hr
    rw [both (bin := binS) (ng := ngS) (n := n) (ts := ws.map tkW) hop, show ws.map tkW = tkL ws 0 from rfl] at hr
    cases hm : lv binS (pS binS ngS n) 3 (tkL ws 0) with
    | none => rw [hm] at hr; cases hr
    | some p =>
      obtain ⟨u, rest⟩ := p
      rw [hm] at hr
      cases rest with
      | nil =>
        cases hr
        exact (lv_ok (OkV.all hp.lL).1 (pS_ok (OkV.all hp.lL).1 (OkV.all hp.lL).2 n) 3 _ _ _ (hp.vals 0) hm).1
      | cons t r => cases hr
/-! texts that are none -/
def rdU (s : Str) : Bool := match tokS inSay s with
  | none => true
  | some ws => (run binU ngU ⟨[], [], true⟩ ((ws.map tkW).map mapT)).isNone
theorem rdU_none {s : Str} (h : rdU s = true) : readF s = none := by
  unfold rdU at h
  unfold readF
  cases ht : tokS inSay s with
  | none => rfl
  | some ws =>
    rw [ht] at h
    have h : (run binU ngU ⟨[], [], true⟩ ((ws.map tkW).map mapT)).isNone = true := h
    have e := run_map (bin := binS) (ng := ngS) (ws.map tkW) ⟨[], [], true⟩
    have e2 : mapM (⟨[], [], true⟩ : MS Sy) = ⟨[], [], true⟩ := rfl
    rw [e2] at e
    rw [e] at h
    show run binS ngS ⟨[], [], true⟩ (ws.map tkW) = none
    cases hr : run binS ngS ⟨[], [], true⟩ (ws.map tkW) with
    | none => rfl
    | some v => rw [hr] at h; cases h
def oddS : List Str := ["", " ", "a b", "a &", "& a", "~", "(a", "a)", "()", "a | | b", "01", "a1", "A", "a & (b | c", "a ~ b"]
theorem odd_ok : ∀ s ∈ oddS, s.length ≤ 3000 ∧ PyData.strOk s = true ∧ (runs [] (cpl s)).length ≤ 12 ∧ oc (cpl s) ≤ 5 ∧ rdU s = true := by decide +kernel
theorem txk_self {s : Str} (h : s.length ≤ 3000 ∧ PyData.strOk s = true ∧ (runs [] (cpl s)).length ≤ 12 ∧ oc (cpl s) ≤ 5) : ∃ L, TxK L 5 s :=
  ⟨_, txk_of h.1 h.2.1 h.2.2.1 (fun r hr _ => hr) h.2.2.2⟩
def lastS : Str := "~~(a)"
theorem last_ok : lastS.length ≤ 3000 ∧ PyData.strOk lastS = true ∧ (runs [] (cpl lastS)).length ≤ 12 ∧ oc (cpl lastS) ≤ 5 := by decide +kernel
theorem last_tok : tokS inSay lastS = some (["~", "~", "(", "a", ")"] : List Str) := by decide +kernel
theorem ng_ng (n : Str) : ngS (ngS ([n], [[n]])) = ([n], [[n]]) := by
  have c := canon_test n
  have h1 := said_canon [n] (inS [n] [[n]])
  have h2 := said_canon (sN [n] (inS [n] [[n]])) (inS (sN [n] (inS [n] [[n]])) (sP [n] (inS [n] [[n]])))
  obtain ⟨e1, e2⟩ := Canon.eq h2 c fun row => by rw [inv_den h1.ss, inv_den c.ss, Bool.not_not]
  exact Prod.ext e1 e2
theorem last_read : readF lastS = some ((["a"], [["a"]]) : Sy) := by
  unfold readF
  rw [last_tok]
  show run binS ngS ⟨[], [], true⟩ [tkW "~", tkW "~", tkW "(", tkW "a", tkW ")"] = _
  have s1 : tkW "~" = .neg := by unfold tkW; rw [if_neg (by decide +kernel), if_neg (by decide +kernel), if_pos rfl]
  have s2 : tkW "(" = .lp := by unfold tkW; rw [if_neg (by decide +kernel), if_neg (by decide +kernel), if_neg (by decide +kernel), if_neg (by decide +kernel), if_neg (by decide +kernel), if_neg (by decide +kernel), if_pos rfl]
  have s3 : tkW ")" = .rp := by unfold tkW; rw [if_neg (by decide +kernel), if_neg (by decide +kernel), if_neg (by decide +kernel), if_neg (by decide +kernel), if_neg (by decide +kernel), if_neg (by decide +kernel), if_neg (by decide +kernel), if_pos rfl]
  have s4 : tkW "a" = .val ((["a"], [["a"]]) : Sy) := tk_name (by decide +kernel)
  rw [s1, s2, s3, s4]
  show some (ngS (ngS (([("a" : Str)], [[("a" : Str)]]) : Sy))) = _
  rw [ng_ng]
/-! slices of what is told -/
theorem ge_cutS {ρ : Rho} {μ : Mu} {te tb : TE} {Φ : D → Mu → Prop} (h : GE te ρ μ fun d μ1 => GE tb ρ μ1 fun e μ2 => ∃ (s : Str) (n : Nat), d = .str s ∧ e = .int (n : Int) ∧ s.length ≤ 100000 ∧ Φ (.str (cutN s 0 (min n s.length))) μ2) : GE (tSl rSlS te tNoPart (tPart tb)) ρ μ Φ := fun Z σ H Q k s m c =>
  h Z σ H _ k s m fun x H1 d μ1 g n1 r1 => g Z σ H1 _ (n1.ok k) (s.mono (n1.to m)) n1.mem fun y H2 e μ2 q n2 r2 => by
    obtain ⟨z, n, rfl, rfl, hz, q⟩ := q
    cases r2
    cases r1
    refine ⟨_, rfl, z, rfl, Nat.le_trans hz (by decide), ?_⟩
    have e : cutS z none (some (n : Int)) = cutN z 0 (min n z.length) := by unfold cutS cutN; rw [HT.sIx_none, HT.sIx_nat]
    rw [e]
    exact c _ H2 _ μ2 q (n1.tr n2) (.str _)
theorem reps_intB (Z : Addr → Prop) (H : Hp) : ∀ cs : List Int, Reps Z H (cs.map V.int) (cs.map Du.D.int)
  | [] => .nil
  | x :: cs => .cons (.int x) (reps_intB Z H cs)
section
variable {P : Program} {w : World} {K : PySem.W.Frag} {mg : Str → Option Value} {base : Heap} {C : Addr}
def spLawB (K : PySem.W.Frag) : Sp := fun vs H Q _ => ∃ (p : Addr) (cs : List Int), vs = [.ref p] ∧ SqL K H p (cs.map V.int) ∧ cs.length ≤ 100 ∧ ∀ H', Q (.bl true) H'
/-- a law's first row: the box; then what is shown of the rest -/
theorem law_startB {us : TS} {m : Nat} {p : Addr} {cs : List Int} {H : Hp} {E : Ends} {E' : XK} (hp : SqL K H p (cs.map V.int)) (hl : cs.length ≤ 100) (hq : ∀ H', E.rt (.bl true) H')
    (hg : ∀ a c μ, BxS a c 0 μ → GN us (none :: some (.ptr a) :: List.replicate m none) μ (fun _ _ => False) (fun d _ => d = .bl true)) :
    tSeq (tAsg (tCall (spBox K) [] E' (tCons (tVar 0) tNil)) (gName 1)) us E (some (.ref p) :: none :: List.replicate m none) H := by
  refine ⟨_, rfl, p, cs, rfl, hp, hl, fun a c r H' nac nar ncr ea ec er => ?_⟩
  dsimp only [gName]
  have ho : okZ (fun b => b = a ∨ b = c) H' := fun b hb => by
    rcases hb with rfl | rfl
    · exact ⟨_, ea, rfl⟩
    · exact ⟨_, ec, rfl⟩
  have hr : ¬ (r = a ∨ r = c) := fun h => h.elim (fun e => nar e.symm) fun e => ncr e.symm
  have hm : Mem (fun b => b = a ∨ b = c) H' (bxr a c (cs.filter fun k => decide ((10 : Int) ^ 18 ≤ k)) (cs.filter fun k => decide (k < (10 : Int) ^ 18)) 0 0) := by
    refine ⟨fun x hx => ?_, ?_⟩
    · rcases List.mem_cons.mp hx with rfl | hx
      · exact ⟨.inl rfl, .lst ea (.cons (.ptr c) (.cons (.int 0) (.cons (.lst hr er (reps_intB _ _ _)) (.cons (.int 0) .nil))))⟩
      · have := List.mem_singleton.mp hx
        subst this
        exact ⟨.inr rfl, .lst ec (reps_intB _ _ _)⟩
    · simp [bxr]; exact nac
  have hsr : SRep (fun b => b = a ∨ b = c) H' (some (.ref p) :: some (.ref a) :: List.replicate m none) (none :: some (.ptr a) :: List.replicate m none) := by
    refine ⟨by simp, fun i d hi => ?_⟩
    match i, hi with
    | 0, hi => cases hi
    | 1, hi => cases hi; exact ⟨_, rfl, .ptr a⟩
    | i + 2, hi =>
      have h2 : (List.replicate m (none : Option Du.D))[i]? = some (some d) := hi
      rw [List.getElem?_replicate] at h2
      split at h2 <;> cases h2
  refine hg a c _ ⟨_, _, 0, 0, rfl, by decide, by decide, by decide, fun g hg => ?_, Nat.le_trans (List.length_filter_le _ _) hl⟩ _ _ _ _ ho hsr hm (fun _ _ _ _ _ h => h.elim) fun v H' d μ' Z' e z r => by subst e; cases r; exact hq H'
  have := of_decide_eq_true (List.mem_filter.mp hg).2
  have h10 : (0 : Int) ≤ (10 : Int) ^ 18 := by decide
  omega
abbrev s_law : Stmt := top 37
abbrev n_law : List Str := ["_law_script", "_law_box_here", "_law_turn", "_law_names", "_law_text", "_law_k", "_law_odds", "_law_odd", "_law_due_here", "_law_told"]
theorem sc_law : FnScope n_law ["_law_script"] (defScope s_law) := ⟨rfl, rfl, rfl, by decide +kernel, rfl, by decide +kernel, by decide +kernel⟩

theorem ok_law {f : Addr} {fd : FuncData} (F : Fun K "law" "law" s_law f fd) (T : Tx K mg C) (o_eq : OCmp P w K mg base 1 C .Eq (spP (REq C))) (o_ne : ONe P w K mg base 1 C (spP (REq C))) (s_test : OSm P w K mg base 3 C "test" (spP (RTest C))) (s_yes : OSm P w K mg base 3 C "yes" (spP (RYes C)))
    (c_law_box : C8.Cal P w K mg base 1 "_law_box" (spBox K) []) (c_law_take : C8.Cal P w K mg base 1 "_law_take" (spM RTake) []) (c_law_words : C8.Cal P w K mg base 3 "_law_words" (spM RWordsL) []) (c_law_expression : C8.Cal P w K mg base 8 "_law_expression" (spM (RExpr C 2)) []) (c_law_bent : C8.Cal P w K mg base 3 "_law_bent" (spM RBent) [])
    (c_law_due : C8.Cal P w K mg base 35 "_law_due" (spP (RDue C 5)) []) (c_law_tried : C8.Cal P w K mg base 10 "_law_tried" (spP (RTold C)) []) : FnOk P w K mg base CX0 40 f fd ["_law_script"] (spLawB K) := by
  refine F.ok sc_law (fun vs H Q E h => ?_) (fun cdv A outer s H vs Q E hr h => ?_)
  · obtain ⟨p, cs, rfl, _⟩ := h; rfl
  · obtain ⟨p, cs, rfl, hp, hl, q⟩ := h
    refine ⟨_, (pss_cons (ps_set (i := 1) sc_law.nd rfl (by first | exact Or.inl rfl | exact Or.inr rfl) (C8.pe_c c_law_box hr (by omega) rfl (pa_cons (pv 0) pa_nil))) (pss_cons (ps_for PassesOwn.never rfl (pi_range1 (by rfl) T.range (pa_cons pe_int pa_nil)) (pg_name (i := 2) sc_law.nd rfl (by first | exact Or.inl rfl | exact Or.inr rfl)) (pss_cons (ps_set (i := 3) sc_law.nd rfl (by first | exact Or.inl rfl | exact Or.inr rfl) (C8.pe_c c_law_words hr (by omega) rfl (pa_cons (pv 1) (pa_cons (pe_op (k_addU (K := K) rfl) pe_int (C8.pe_c c_law_take hr (by omega) rfl (pa_cons (pv 1) (pa_cons pe_int pa_nil)))) (pa_cons (pe_lst pa_nil) pa_nil))))) (pss_cons (ps_set (i := 4) sc_law.nd rfl (by first | exact Or.inl rfl | exact Or.inr rfl) (pe_slice k_slS (pe_ix (k_ix (K := K) rfl) (C8.pe_c c_law_expression hr (by omega) rfl (pa_cons (pv 1) (pa_cons (pv 3) (pa_cons pe_int pa_nil)))) pe_int (fun _ _ => rfl)) po_none (po_some pe_int))) (pss_cons (ps_for PassesOwn.never rfl (pi_range1 (by rfl) T.range (pa_cons (pe_op (k_addU (K := K) rfl) pe_int (pe_op op_mulU (C8.pe_c c_law_take hr (by omega) rfl (pa_cons (pv 1) (pa_cons pe_int pa_nil))) (pe_callTy call_int1 (by rfl) T.int (by decide +kernel) (pa_cons (pe_cmpR (k_eq (K := K) rfl hr) (pe_callB (k_len (K := K) rfl) (by rfl) T.len (by decide +kernel) (pa_cons (pv 3) pa_nil)) pe_int (nomark _)) pa_nil)))) pa_nil)) (pg_name (i := 5) sc_law.nd rfl (by first | exact Or.inl rfl | exact Or.inr rfl)) (pss_one (ps_set (i := 4) sc_law.nd rfl (by first | exact Or.inl rfl | exact Or.inr rfl) (C8.pe_c c_law_bent hr (by omega) rfl (pa_cons (pv 1) (pa_cons (pv 4) pa_nil)))))) (pss_cons (ps_par (i := 8) (j := 9) rfl sc_law.nd rfl rfl (by decide) rfl rfl (pa_cons (C8.pe_c c_law_due hr (by omega) rfl (pa_cons (pv 4) pa_nil)) (pa_cons (C8.pe_c c_law_tried hr (by omega) rfl (pa_cons (pv 4) pa_nil)) pa_nil)) (by rfl)) (pss_cons (ps_if (PW.pt (pw_or (pt_cmpR (k_ne (K := K) rfl hr) (pe_cmpR op_isN (pv 9) pe_non (nomark _)) (pe_cmpR op_isN (pv 8) pe_non (nomark _)) (nomark _)) (pw_or1 (PW.pt (pw_and (pt_cmpR op_notN (pv 8) pe_non (nomark _)) (pw_and1 (pt_cmpR (k_neOwn o_ne hr (by omega)) (pv 9) (pv 8) (nomark _)))))))) (pss_one (ps_ret pe_bl)) pss_nil) (pss_cons (ps_set (i := 6) sc_law.nd rfl (by first | exact Or.inl rfl | exact Or.inr rfl) (pe_lst (pa_cons pe_str (pa_cons pe_str (pa_cons pe_str (pa_cons pe_str (pa_cons pe_str (pa_cons pe_str (pa_cons pe_str (pa_cons pe_str (pa_cons pe_str (pa_cons pe_str (pa_cons pe_str (pa_cons pe_str (pa_cons pe_str (pa_cons pe_str (pa_cons pe_str pa_nil))))))))))))))))) (pss_one (ps_for PassesOwn.never rfl (k_seq (K := K) rfl (pe_op (k_addU (K := K) rfl) (pv 6) (pe_lst (pa_cons pe_non (pa_cons pe_int (pa_cons (pe_lst (pa_cons pe_str pa_nil)) (pa_cons (pe_tup (pa_cons pe_str pa_nil)) (pa_cons pe_bl (pa_cons pe_dnewK (pa_cons (k_sm0 s_yes hr (by omega) (pe_glob (v := .ref _) rfl T.g_Say rfl)) pa_nil)))))))))) (pg_name (i := 7) sc_law.nd rfl (by first | exact Or.inl rfl | exact Or.inr rfl)) (pss_one (ps_if (pt_cmpR op_notN (C8.pe_c c_law_tried hr (by omega) rfl (pa_cons (pv 7) pa_nil)) pe_non (nomark _)) (pss_one (ps_ret pe_bl)) pss_nil))))))))))) (pss_one (ps_ret (pe_cmpR (k_cmp o_eq (by intros; rfl) hr (by omega)) (C8.pe_c c_law_tried hr (by omega) rfl (pa_cons pe_str pa_nil)) (k_sm s_test hr (by omega) (pe_glob (v := .ref _) rfl T.g_Say rfl) (pa_cons pe_str pa_nil)) (nomark _)))))), ?_⟩
    refine law_startB (m := 8) hp hl q fun a c μ0 hb0 => gn_gs ?_
    have evC : ∀ {ρ : Rho}, Ev (tC (.ref C)) ρ (.ptr C) := fun {ρ} _ _ H _ _ _ q => q _ H (Ex.rf H) (.ptr C)
    refine gs_mid (fun ρ' μ' => ρ' = [none, some (.ptr a), none, none, none, none, none, none, none, none]) (gs_for (fun i ρ' μ' => ρ' = [none, some (.ptr a), none, none, none, none, none, none, none, none] ∧ BxS a c (i * 100) μ') (ei_range1 (n := 6) (ev_cons ev_int ev_nil) (by decide)) (Lq.rf _) ⟨rfl, hb0⟩ ?_ ?_) ?_
    · rintro i d ρi μ1 hd ⟨rfl, hs⟩
      have hi : i < 6 := by have := (List.getElem?_eq_some_iff.mp hd).1; simpa using this
      refine ⟨_, ga_name, ?_⟩
      refine gs_seq (gs_asg (ge_callA (gea_cons (ge_ev (ev_var rfl) (gea_cons (ge_op (ge_ev ev_int (ge_callA (gea_ev (ev_cons (ev_var rfl) (ev_cons ev_int ev_nil)) ⟨a, c, i * 100, 2, rfl, hs, by omega, by decide, by decide, fun μ2 k hs2 hk => ⟨_, rd_addI, gea_ev (ev_cons (ev_lst ev_nil (by simp)) ev_nil) ⟨a, c, i * 100 + 1, 1 + k, [], by simp [lS], hs2, by omega, by omega, by simp, fun _ h => absurd h (by simp), fun μ3 ns hs3 hl3 hnd hnm => ?_⟩⟩⟩)))))))))
      have hn : ∀ n ∈ ns, nmOk n = true := fun n h => (hnm n h).1
      have cX : costX 2 = 23 := rfl
      refine gs_seq (gs_asg (ge_cutS (ge_op (ge_callA (gea_ev (ev_cons (ev_var rfl) (ev_cons (ev_var rfl) (ev_cons ev_int ev_nil))) ⟨a, c, _, ns, rfl, hs3, by omega, by omega, hn, by decide, fun μ4 s v hs4 ht => ge_ev ev_int ⟨_, rd_ixT (i := 0) rfl, ge_ev ev_int ⟨s, 60, rfl, rfl, ?_, ?_⟩⟩⟩)))))
      · have := ht.len hn
        have e : lenX 2 = 65 := rfl
        omega
      have ht0 := TxS.cut (by omega) hn ht
      generalize cutN s 0 (min 60 s.length) = s0 at ht0
      have eb : ∀ b : Bool, (if b then 1 else 0 : Nat) ≤ 1 := by decide
      refine gs_mid (fun ρ' μ' => ∃ s1, ρ' = [none, some (.ptr a), none, some (lS ns), some (.str s1), none, none, none, none, none] ∧ (∃ j, j ≤ 2 ∧ TxS j s1) ∧ BxS a c (i * 100 + 90) μ') ?_ ?_
      · refine gsE_range (gea_cons (ge_op (ge_ev ev_int (ge_op (ge_callA (gea_ev (ev_cons (ev_var rfl) (ev_cons ev_int ev_nil)) ⟨a, c, _, 2, rfl, hs4, by omega, by decide, by decide, fun μ5 k2 hs5 hk2 => ge_ev (ev_cb (ev_cons (ev_op (ev_cb (ev_cons (ev_var rfl) ev_nil) rl_lenL) ev_int (rd_eq ok_int ok_int)) ev_nil) rl_intB) ?_⟩))))))
        generalize eqD (.int (((ns.map Du.D.str).length : Nat) : Int)) (.int 1) = b
        have hbl := eb b
        generalize (if b = true then 1 else 0 : Nat) = e at hbl
        have hmul : (k2 : Int) * (e : Int) = ((k2 * e : Nat) : Int) := (Int.natCast_mul _ _).symm
        have hke : k2 * e ≤ 1 := Nat.le_trans (Nat.mul_le_mul (show k2 ≤ 1 by omega) hbl) (by decide)
        refine ⟨_, rd_mulI (.inl ⟨by omega, by omega⟩), _, rd_addI, gea_nil ⟨1 + k2 * e, fun j ρ' μ' => ∃ s1, ρ' = [none, some (.ptr a), none, some (lS ns), some (.str s1), none, none, none, none, none] ∧ TxS j s1 ∧ BxS a c (i * 100 + 60 + 3 * j) μ', [none, some (.ptr a), none, some (lS ns), some (.str s0), none, none, none, none, none], by rw [hmul]; simp, by omega, (.skip (.keep (.skip (.keep (.keep (.skip (.skip (.skip (.skip (.skip .nil)))))))))), ⟨s0, rfl, ht0, hs5.up (by omega)⟩, ?_, ?_⟩⟩
        · rintro j dj ρj μj hdj ⟨s1, rfl, ht1, hsj⟩
          have hj : j < 1 + k2 * e := by have := (List.getElem?_eq_some_iff.mp hdj).1; simpa using this
          have hl1 := ht1.len
          refine ⟨_, ga_name, gs_asg (ge_callA (gea_ev (ev_cons (ev_var rfl) (ev_cons (ev_var rfl) ev_nil)) ⟨a, c, _, s1, rfl, hsj, by omega, by omega, ht1.ok, fun μ6 s2 hs6 hb => ⟨_, (.skip (.keep (.skip (.keep (.keep (.skip (.skip (.skip (.skip (.skip .nil)))))))))), s2, rfl, ht1.bent hb, hs6.up (by omega)⟩⟩))⟩
        · rintro ρ' μ' ⟨s1, rfl, ht1, hs6⟩
          exact ⟨s1, rfl, ⟨_, by omega, ht1⟩, hs6.up (by omega)⟩
      rintro ρ' μ6 ⟨s1, rfl, ⟨j, hj, ht1⟩, hs6⟩
      obtain ⟨L, hk⟩ := ht1.k hj
      refine gs_seq (gs_parE (gea_ev (ev_cons (ev_call (ev_cons (ev_var rfl) ev_nil) ⟨s1, L, rfl, hk, rfl⟩) (ev_cons (ev_call (ev_cons (ev_var rfl) ev_nil) (.inl ⟨s1, L, 5, rfl, hk, rfl⟩)) ev_nil)) ⟨_, _, rfl, ?_⟩))
      have isB : ∀ {ρ : Rho} {i : Nat} {d : Du.D}, ρ[i]? = some (some d) → Ev (tOp (fun x y H Q => y = .non ∧ Q (.bl (decide (x = .non))) H) (tVar i) (tC .non)) ρ (.bl (isNo d)) := fun h => ev_op (ev_var h) ev_non rd_isNo
      refine gs_seq (gs_st (ρ' := [none, some (.ptr a), none, some (lS ns), some (.str s1), none, none, none, some (optD C (readF s1)), some (optD C (readF s1))]) (st_if (b := false) ?_ (fun h => by cases h) fun _ => st_next) ?_)
      · have e0 : (!eqD (.bl (isNo (optD C (readF s1)))) (.bl (isNo (optD C (readF s1))))) = false := by rw [eqD_bl]; simp
        refine et_or (b := false) (e0 ▸ et_test (ev_op (isB rfl) (isB rfl) (rd_ne ok_bl ok_bl))) fun _ => ?_
        cases hr : readF s1 with
        | none => exact et_and (b := false) (c := false) (et_test (ev_op (ev_var rfl) ev_non rd_notNo)) fun h => by cases h
        | some v =>
          have hv := (read_ok hk hr).wf
          have e2 : (!(decide (v.1 = v.1) && decide (v.2 = v.2))) = false := by simp
          refine et_and (b := true) (et_test (ev_op (ev_var rfl) ev_non rd_notNo)) fun _ => ?_
          exact e2 ▸ et_test (ev_op (ev_var rfl) (ev_var rfl) (rd_neOwn ⟨_, _, _, _, rfl, hv, hv, rfl⟩))
      refine gs_seq (gs_st (st_asg (d := .lst (oddS.map Du.D.str)) (ev_lst (ev_cons ev_str (ev_cons ev_str (ev_cons ev_str (ev_cons ev_str (ev_cons ev_str (ev_cons ev_str (ev_cons ev_str (ev_cons ev_str (ev_cons ev_str (ev_cons ev_str (ev_cons ev_str (ev_cons ev_str (ev_cons ev_str (ev_cons ev_str (ev_cons ev_str ev_nil))))))))))))))) (by rw [List.length_map]; decide)) ga_name) ?_)
      have hodd : ∀ d ∈ oddS.map Du.D.str ++ [.non, .int 5, .lst [.str "a"], .tup [.str "a"], .bl true, .dK [], sD C ([], [[]])], RTold C [d] .non := fun d hd => by
        rcases List.mem_append.mp hd with hd | hd
        · obtain ⟨z, hz, rfl⟩ := List.mem_map.mp hd
          obtain ⟨o1, o2, o3, o4, o5⟩ := odd_ok z hz
          obtain ⟨L, hL⟩ := txk_self ⟨o1, o2, o3, o4⟩
          exact .inl ⟨z, L, 5, rfl, hL, by rw [rdU_none o5]; rfl⟩
        · refine .inr ⟨d, rfl, ?_, rfl⟩
          simp only [List.mem_cons, List.not_mem_nil, or_false] at hd
          rcases hd with rfl | rfl | rfl | rfl | rfl | rfl | rfl
          · exact .inl ⟨_, rfl, by decide⟩
          · exact .inl ⟨_, rfl, by decide⟩
          · exact .inl ⟨_, rfl, by decide⟩
          · exact .inl ⟨_, rfl, by decide⟩
          · exact .inl ⟨_, rfl, by decide⟩
          · exact .inl ⟨_, rfl, by decide⟩
          · exact .inr ⟨_, rfl⟩
      refine gs_for (fun j ρ' μ' => ρ' = [none, some (.ptr a), none, none, none, none, none, none, none, none] ∧ μ' = μ6) (ds := oddS.map Du.D.str ++ [.non, .int 5, .lst [.str "a"], .tup [.str "a"], .bl true, .dK [], sD C ([], [[]])]) (ei_seqL (ev_op (ev_var rfl) (ev_lst (ev_cons ev_non (ev_cons ev_int (ev_cons (ev_lst (ev_cons ev_str ev_nil) (by simp)) (ev_cons (ev_tup (ev_cons ev_str ev_nil) (by simp)) (ev_cons ev_bl (ev_cons ev_dK0 (ev_cons (ev_sm0 evC ⟨rfl, rfl⟩) ev_nil))))))) (by simp)) (rd_addL (by rw [List.length_map]; show 15 + 7 ≤ 100000; decide)))) (.skip (.keep (.skip (.skip (.skip (.skip (.skip (.skip (.skip (.skip .nil)))))))))) ⟨rfl, rfl⟩ ?_ ?_
      · rintro j dj ρj μj hdj ⟨rfl, rfl⟩
        refine ⟨_, ga_name, gs_st (st_if (b := false) (et_test (ev_op (ev_call (ev_cons (ev_var rfl) ev_nil) (hodd dj (List.mem_of_getElem? hdj))) ev_non rd_notNo)) (fun h => by cases h) fun _ => st_next) ?_⟩
        exact ⟨_, (.skip (.keep (.skip (.skip (.skip (.skip (.skip (.skip (.skip (.skip .nil)))))))))), rfl, rfl⟩
      · rintro ρ' μ' ⟨rfl, rfl⟩
        exact ⟨_, (.skip (.keep (.skip (.skip (.skip (.skip (.skip (.skip (.skip (.skip .nil)))))))))), rfl, hs6.up (by omega)⟩
    · rintro ρ' μ' ⟨rfl, hs⟩; rfl
    · rintro ρ' μ' rfl
      obtain ⟨L, hL⟩ := txk_self last_ok
      have hv := (read_ok hL last_read).wf
      have e : RTold C [.str "~~(a)"] (sD C ((["a"], [["a"]]) : Sy)) := .inl ⟨lastS, L, 5, rfl, hL, by rw [last_read]; rfl⟩
      have e2 : (decide (([("a" : Str)] : List Str) = [("a" : Str)]) && decide (([[("a" : Str)]] : List (List Str)) = [[("a" : Str)]])) = true := by decide +kernel
      have e3 : ∀ {E : XK}, R2D (rBin C (spP (REq C)) E) (sD C (([("a" : Str)], [[("a" : Str)]]) : Sy)) (sD C (([("a" : Str)], [[("a" : Str)]]) : Sy)) (.bl true) := fun {E} => rd_bin ⟨_, _, _, _, rfl, hv, hv, by rw [e2]⟩
      exact gs_ret (ge_ev (ev_op (ev_call (ev_cons ev_str ev_nil) e) (ev_sm evC (ev_cons ev_str ev_nil) ⟨("a" : Str), rfl, by decide +kernel, rfl⟩) e3) rfl)
/-! the error -/
abbrev s_BadText_init : Stmt := inClass (top 10) 0
abbrev n_BadText_init : List Str := ["self"]
theorem sc_BadText_init : FnScope n_BadText_init ["self"] (defScope s_BadText_init) := ⟨rfl, rfl, rfl, by decide +kernel, rfl, by decide +kernel, by decide +kernel⟩

theorem ok_BT_init {CU DE f : Addr} {mc : Value} {fd : FuncData} (F : Fun K "__init__" "BadText.__init__" s_BadText_init f fd) (gD : mg "DeedError" = some (.ref DE)) (rd : ClX.CRead K DE mc) (fc : PySem.W.findCls K (.ref DE) mc "__init__" = some (.val (.builtin "ValueError.__init__"))) (T : OexC K CU) : FnOk P w K mg base L2.CX0 1 f fd ["self"] (spIn CU) := by
  refine F.ok sc_BadText_init (fun vs H Q E h => ?_) (fun cdv A outer s H vs Q E hr h => ?_)
  · obtain ⟨a, rfl, _⟩ := h; rfl
  · obtain ⟨a, rfl, ha, q⟩ := h
    refine ⟨_, pss_one (ps_expr (pe_deinit (pe_glob (v := .ref _) rfl gD rfl) rd fc (pa_cons (pv 0) (pa_cons pe_str pa_nil)))), ?_⟩
    exact ⟨rfl, _, rfl, a, CU, [.str _], rfl, by decide, T, ha, q⟩
end
end Du
namespace Du
open PySem L2
theorem exm_of {K : PySem.W.Frag} {cls : Value} {S : Addr} {b : Bool} (h1 : PySem.W.subIn K (.ref S) (.type "BaseException") = some true) (h2 : PySem.W.isClsIn K S = true) (h3 : PySem.W.typeIn K (.ref S) = some (.type "type")) (h4 : PySem.W.subIn K cls (.ref S) = some b) : PySem.W.exmOne K cls (.ref S) = some b := by
  have h2' : (PySem.W.clsIn K S).isSome = true := h2
  unfold PySem.W.exmOne PySem.W.kitCls
  simp only [h1, h2', h3, h4, beq_self_eq_true, Bool.and_self, if_true]
theorem kit_str {K : PySem.W.Frag} {C : Addr} (h : PySem.W.subIn K (.ref C) (.type "str") = some false) : PySem.W.kitOne K (.ref C) (.type "str") = some false := by
  unfold PySem.W.kitOne
  rw [if_neg (by intro h; cases (eq_of_beq h))]
  show (if PySem.W.kitMeta "str" = true then PySem.W.subIn K (.ref C) (.type "str") else none) = some false
  rw [if_pos (by decide +kernel)]; exact h
theorem fnR_of {P : Program} {w : World} {K : PySem.W.Frag} {mg : Str → Option Value} {base : Heap} {k : Nat} {f : Addr} {fd : FuncData} {ps : List Str} {sp : Sp} (F : FnOk P w K mg base CX0 k f fd ps sp) (b : Binds K fd ps []) : FnR P w K mg base CX0 k f sp := by
  have := F.raw b .nil
  simpa only [List.append_nil] using this
theorem all_mk {l : PySem.W.OpenLaw} {w : World} {K : PySem.W.Frag} {h : Heap} {mg : Str → Option Value} {fa C : Addr} {tL tM : Tok} (X : K.In h) (G : h.Ns mainGlobals mg) (hfa : mg "law" = some (.ref fa))
    {oc1 kV1 dc1 pm1 cd1 ct1 : Value} {od1 an1 : Option Addr} {sl1 : Array (Option Value)} {f1 : Addr}
    {oc2 kV2 dc2 pm2 cd2 ct2 : Value} {od2 an2 : Option Addr} {sl2 : Array (Option Value)} {f2 : Addr}
    {oc3 kV3 dc3 pm3 cd3 ct3 : Value} {od3 an3 : Option Addr} {sl3 : Array (Option Value)} {f3 : Addr}
    {oc4 kV4 dc4 pm4 cd4 ct4 : Value} {od4 an4 : Option Addr} {sl4 : Array (Option Value)} {f4 : Addr}
    {oc5 kV5 dc5 pm5 cd5 ct5 : Value} {od5 an5 : Option Addr} {sl5 : Array (Option Value)} {f5 : Addr}
    {oc6 kV6 dc6 pm6 cd6 ct6 : Value} {od6 an6 : Option Addr} {sl6 : Array (Option Value)} {f6 : Addr}
    {oc7 kV7 dc7 pm7 cd7 ct7 : Value} {od7 an7 : Option Addr} {sl7 : Array (Option Value)} {f7 : Addr}
    {oc8 kV8 dc8 pm8 cd8 ct8 : Value} {od8 an8 : Option Addr} {sl8 : Array (Option Value)} {f8 : Addr}
    {p8 : Addr} {r8 : List Value}
    {oc9 kV9 dc9 pm9 cd9 ct9 : Value} {od9 an9 : Option Addr} {sl9 : Array (Option Value)} {f9 : Addr}
    {p9 : Addr} {r9 : List Value}
    {oc10 kV10 dc10 pm10 cd10 ct10 : Value} {od10 an10 : Option Addr} {sl10 : Array (Option Value)} {f10 : Addr}
    {p10 : Addr} {r10 : List Value}
    {oc11 kV11 dc11 pm11 cd11 ct11 : Value} {od11 an11 : Option Addr} {sl11 : Array (Option Value)} {f11 : Addr}
    {oc13 kV13 dc13 pm13 cd13 ct13 : Value} {od13 an13 : Option Addr} {sl13 : Array (Option Value)} {f13 : Addr}
    {oc14 kV14 dc14 pm14 cd14 ct14 : Value} {od14 an14 : Option Addr} {sl14 : Array (Option Value)} {f14 : Addr}
    {oc15 kV15 dc15 pm15 cd15 ct15 : Value} {od15 an15 : Option Addr} {sl15 : Array (Option Value)} {f15 : Addr}
    {oc16 kV16 dc16 pm16 cd16 ct16 : Value} {od16 an16 : Option Addr} {sl16 : Array (Option Value)} {f16 : Addr}
    {oc19 kV19 dc19 pm19 cd19 ct19 : Value} {od19 an19 : Option Addr} {sl19 : Array (Option Value)} {f19 : Addr}
    {oc20 kV20 dc20 pm20 cd20 ct20 : Value} {od20 an20 : Option Addr} {sl20 : Array (Option Value)} {f20 : Addr}
    {oc21 kV21 dc21 pm21 cd21 ct21 : Value} {od21 an21 : Option Addr} {sl21 : Array (Option Value)} {f21 : Addr}
    {oc22 kV22 dc22 pm22 cd22 ct22 : Value} {od22 an22 : Option Addr} {sl22 : Array (Option Value)} {f22 : Addr}
    {oc23 kV23 dc23 pm23 cd23 ct23 : Value} {od23 an23 : Option Addr} {sl23 : Array (Option Value)} {f23 : Addr}
    {oc24 kV24 dc24 pm24 cd24 ct24 : Value} {od24 an24 : Option Addr} {sl24 : Array (Option Value)} {f24 : Addr}
    {oc25 kV25 dc25 pm25 cd25 ct25 : Value} {od25 an25 : Option Addr} {sl25 : Array (Option Value)} {f25 : Addr}
    {oc26 kV26 dc26 pm26 cd26 ct26 : Value} {od26 an26 : Option Addr} {sl26 : Array (Option Value)} {f26 : Addr}
    {oc27 kV27 dc27 pm27 cd27 ct27 : Value} {od27 an27 : Option Addr} {sl27 : Array (Option Value)} {f27 : Addr}
    {oc28 kV28 dc28 pm28 cd28 ct28 : Value} {od28 an28 : Option Addr} {sl28 : Array (Option Value)} {f28 : Addr}
    {oc29 kV29 dc29 pm29 cd29 ct29 : Value} {od29 an29 : Option Addr} {sl29 : Array (Option Value)} {f29 : Addr}
    {oc30 kV30 dc30 pm30 cd30 ct30 : Value} {od30 an30 : Option Addr} {sl30 : Array (Option Value)} {f30 : Addr}
    {oc31 kV31 dc31 pm31 cd31 ct31 : Value} {od31 an31 : Option Addr} {sl31 : Array (Option Value)} {f31 : Addr}
    {oc32 kV32 dc32 pm32 cd32 ct32 : Value} {od32 an32 : Option Addr} {sl32 : Array (Option Value)} {f32 : Addr}
    {oc33 kV33 dc33 pm33 cd33 ct33 : Value} {od33 an33 : Option Addr} {sl33 : Array (Option Value)} {f33 : Addr}
    {oc34 kV34 dc34 pm34 cd34 ct34 : Value} {od34 an34 : Option Addr} {sl34 : Array (Option Value)} {f34 : Addr}
    {oc35 kV35 dc35 pm35 cd35 ct35 : Value} {od35 an35 : Option Addr} {sl35 : Array (Option Value)} {f35 : Addr}
    {oc36 kV36 dc36 pm36 cd36 ct36 : Value} {od36 an36 : Option Addr} {sl36 : Array (Option Value)} {f36 : Addr}
    {oc37 kV37 dc37 pm37 cd37 ct37 : Value} {od37 an37 : Option Addr} {sl37 : Array (Option Value)} {f37 : Addr}
    {oc38 kV38 dc38 pm38 cd38 ct38 : Value} {od38 an38 : Option Addr} {sl38 : Array (Option Value)} {f38 : Addr}
    {oc39 kV39 dc39 pm39 cd39 ct39 : Value} {od39 an39 : Option Addr} {sl39 : Array (Option Value)} {f39 : Addr}
    {oc40 kV40 dc40 pm40 cd40 ct40 : Value} {od40 an40 : Option Addr} {sl40 : Array (Option Value)} {f40 : Addr}
    {oc41 kV41 dc41 pm41 cd41 ct41 : Value} {od41 an41 : Option Addr} {sl41 : Array (Option Value)} {f41 : Addr}
    {oc42 kV42 dc42 pm42 cd42 ct42 : Value} {od42 an42 : Option Addr} {sl42 : Array (Option Value)} {f42 : Addr}
    {Sk : Addr}
    {CU DE SR : Addr} {tr0 tr1 tr2 : Tok} {nmU qU : Str} {NU : Addr} {bsU : List Value} {snU : List Str} {subU : List Value} {abU : Bool} {colU : Option Bool} {ddU : Option Addr} {mU0 mU1 mU2 mU3 mU5 : Option Value}
    (a1 : PySem.W.nsIn K mainGlobals "is_name" = some (some (.ref f1)))
    (l1 : K.lookup f1 = some ⟨oc1, od1, .func (PySem.W.fnOf "is_name" "is_name" (defArgs s_is_name) (defBody s_is_name) (defScope s_is_name) .none kV1 dc1 pm1 an1 cd1 ct1), sl1⟩)
    (c1 : PySem.W.codeIn K cd1 "is_name" = true)
    (k1 : PySem.W.keepIn K (.ref f1) = true)
    (a2 : PySem.W.nsIn K mainGlobals "choices_of" = some (some (.ref f2)))
    (l2 : K.lookup f2 = some ⟨oc2, od2, .func (PySem.W.fnOf "choices_of" "choices_of" (defArgs s_choices_of) (defBody s_choices_of) (defScope s_choices_of) .none kV2 dc2 pm2 an2 cd2 ct2), sl2⟩)
    (c2 : PySem.W.codeIn K cd2 "choices_of" = true)
    (k2 : PySem.W.keepIn K (.ref f2) = true)
    (a3 : PySem.W.nsIn K mainGlobals "check_name" = some (some (.ref f3)))
    (l3 : K.lookup f3 = some ⟨oc3, od3, .func (PySem.W.fnOf "check_name" "check_name" (defArgs s_check_name) (defBody s_check_name) (defScope s_check_name) .none kV3 dc3 pm3 an3 cd3 ct3), sl3⟩)
    (c3 : PySem.W.codeIn K cd3 "check_name" = true)
    (k3 : PySem.W.keepIn K (.ref f3) = true)
    (a4 : PySem.W.nsIn K mainGlobals "set_to" = some (some (.ref f4)))
    (l4 : K.lookup f4 = some ⟨oc4, od4, .func (PySem.W.fnOf "set_to" "set_to" (defArgs s_set_to) (defBody s_set_to) (defScope s_set_to) .none kV4 dc4 pm4 an4 cd4 ct4), sl4⟩)
    (c4 : PySem.W.codeIn K cd4 "set_to" = true)
    (k4 : PySem.W.keepIn K (.ref f4) = true)
    (a5 : PySem.W.nsIn K mainGlobals "said_at" = some (some (.ref f5)))
    (l5 : K.lookup f5 = some ⟨oc5, od5, .func (PySem.W.fnOf "said_at" "said_at" (defArgs s_said_at) (defBody s_said_at) (defScope s_said_at) .none kV5 dc5 pm5 an5 cd5 ct5), sl5⟩)
    (c5 : PySem.W.codeIn K cd5 "said_at" = true)
    (k5 : PySem.W.keepIn K (.ref f5) = true)
    (a6 : PySem.W.nsIn K mainGlobals "choices_over" = some (some (.ref f6)))
    (l6 : K.lookup f6 = some ⟨oc6, od6, .func (PySem.W.fnOf "choices_over" "choices_over" (defArgs s_choices_over) (defBody s_choices_over) (defScope s_choices_over) .none kV6 dc6 pm6 an6 cd6 ct6), sl6⟩)
    (c6 : PySem.W.codeIn K cd6 "choices_over" = true)
    (k6 : PySem.W.keepIn K (.ref f6) = true)
    (a7 : PySem.W.findIn K (.ref C) "__init__" = some (some (.ref f7)))
    (i7 : PySem.W.isFn K (.ref f7) = true)
    (l7 : K.lookup f7 = some ⟨oc7, od7, .func (PySem.W.fnOf "__init__" "Say.__init__" (defArgs s_Say_init) (defBody s_Say_init) (defScope s_Say_init) .none kV7 dc7 pm7 an7 cd7 ct7), sl7⟩)
    (c7 : PySem.W.codeIn K cd7 "Say.__init__" = true)
    (k7 : PySem.W.keepIn K (.ref f7) = true)
    (a8 : PySem.W.findCls K (.ref C) (.type "type") "test" = some (.get (.builtin "staticmethod.__get__") (.ref p8) .none (.ref C)))
    (i8 : PySem.W.recIn K p8 "staticmethod" = some (.ref f8 :: r8))
    (l8 : K.lookup f8 = some ⟨oc8, od8, .func (PySem.W.fnOf "test" "Say.test" (defArgs s_Say_test) (defBody s_Say_test) (defScope s_Say_test) .none kV8 dc8 pm8 an8 cd8 ct8), sl8⟩)
    (c8 : PySem.W.codeIn K cd8 "Say.test" = true)
    (k8 : PySem.W.keepIn K (.ref f8) = true)
    (a9 : PySem.W.findCls K (.ref C) (.type "type") "yes" = some (.get (.builtin "staticmethod.__get__") (.ref p9) .none (.ref C)))
    (i9 : PySem.W.recIn K p9 "staticmethod" = some (.ref f9 :: r9))
    (l9 : K.lookup f9 = some ⟨oc9, od9, .func (PySem.W.fnOf "yes" "Say.yes" (defArgs s_Say_yes) (defBody s_Say_yes) (defScope s_Say_yes) .none kV9 dc9 pm9 an9 cd9 ct9), sl9⟩)
    (c9 : PySem.W.codeIn K cd9 "Say.yes" = true)
    (k9 : PySem.W.keepIn K (.ref f9) = true)
    (a10 : PySem.W.findCls K (.ref C) (.type "type") "no" = some (.get (.builtin "staticmethod.__get__") (.ref p10) .none (.ref C)))
    (i10 : PySem.W.recIn K p10 "staticmethod" = some (.ref f10 :: r10))
    (l10 : K.lookup f10 = some ⟨oc10, od10, .func (PySem.W.fnOf "no" "Say.no" (defArgs s_Say_no) (defBody s_Say_no) (defScope s_Say_no) .none kV10 dc10 pm10 an10 cd10 ct10), sl10⟩)
    (c10 : PySem.W.codeIn K cd10 "Say.no" = true)
    (k10 : PySem.W.keepIn K (.ref f10) = true)
    (a11 : PySem.W.findIn K (.ref C) "at" = some (some (.ref f11)))
    (i11 : PySem.W.isFn K (.ref f11) = true)
    (l11 : K.lookup f11 = some ⟨oc11, od11, .func (PySem.W.fnOf "at" "Say.at" (defArgs s_Say_at) (defBody s_Say_at) (defScope s_Say_at) .none kV11 dc11 pm11 an11 cd11 ct11), sl11⟩)
    (c11 : PySem.W.codeIn K cd11 "Say.at" = true)
    (k11 : PySem.W.keepIn K (.ref f11) = true)
    (a13 : PySem.W.findIn K (.ref C) "__and__" = some (some (.ref f13)))
    (i13 : PySem.W.isFn K (.ref f13) = true)
    (l13 : K.lookup f13 = some ⟨oc13, od13, .func (PySem.W.fnOf "__and__" "Say.__and__" (defArgs s_Say_and) (defBody s_Say_and) (defScope s_Say_and) .none kV13 dc13 pm13 an13 cd13 ct13), sl13⟩)
    (c13 : PySem.W.codeIn K cd13 "Say.__and__" = true)
    (k13 : PySem.W.keepIn K (.ref f13) = true)
    (a14 : PySem.W.findIn K (.ref C) "__or__" = some (some (.ref f14)))
    (i14 : PySem.W.isFn K (.ref f14) = true)
    (l14 : K.lookup f14 = some ⟨oc14, od14, .func (PySem.W.fnOf "__or__" "Say.__or__" (defArgs s_Say_or) (defBody s_Say_or) (defScope s_Say_or) .none kV14 dc14 pm14 an14 cd14 ct14), sl14⟩)
    (c14 : PySem.W.codeIn K cd14 "Say.__or__" = true)
    (k14 : PySem.W.keepIn K (.ref f14) = true)
    (a15 : PySem.W.findIn K (.ref C) "__xor__" = some (some (.ref f15)))
    (i15 : PySem.W.isFn K (.ref f15) = true)
    (l15 : K.lookup f15 = some ⟨oc15, od15, .func (PySem.W.fnOf "__xor__" "Say.__xor__" (defArgs s_Say_xor) (defBody s_Say_xor) (defScope s_Say_xor) .none kV15 dc15 pm15 an15 cd15 ct15), sl15⟩)
    (c15 : PySem.W.codeIn K cd15 "Say.__xor__" = true)
    (k15 : PySem.W.keepIn K (.ref f15) = true)
    (a16 : PySem.W.findIn K (.ref C) "__invert__" = some (some (.ref f16)))
    (i16 : PySem.W.isFn K (.ref f16) = true)
    (l16 : K.lookup f16 = some ⟨oc16, od16, .func (PySem.W.fnOf "__invert__" "Say.__invert__" (defArgs s_Say_invert) (defBody s_Say_invert) (defScope s_Say_invert) .none kV16 dc16 pm16 an16 cd16 ct16), sl16⟩)
    (c16 : PySem.W.codeIn K cd16 "Say.__invert__" = true)
    (k16 : PySem.W.keepIn K (.ref f16) = true)
    (a19 : PySem.W.findIn K (.ref C) "__eq__" = some (some (.ref f19)))
    (i19 : PySem.W.isFn K (.ref f19) = true)
    (l19 : K.lookup f19 = some ⟨oc19, od19, .func (PySem.W.fnOf "__eq__" "Say.__eq__" (defArgs s_Say_eq) (defBody s_Say_eq) (defScope s_Say_eq) .none kV19 dc19 pm19 an19 cd19 ct19), sl19⟩)
    (c19 : PySem.W.codeIn K cd19 "Say.__eq__" = true)
    (k19 : PySem.W.keepIn K (.ref f19) = true)
    (a20 : PySem.W.nsIn K mainGlobals "words_of" = some (some (.ref f20)))
    (l20 : K.lookup f20 = some ⟨oc20, od20, .func (PySem.W.fnOf "words_of" "words_of" (defArgs s_words_of) (defBody s_words_of) (defScope s_words_of) .none kV20 dc20 pm20 an20 cd20 ct20), sl20⟩)
    (c20 : PySem.W.codeIn K cd20 "words_of" = true)
    (k20 : PySem.W.keepIn K (.ref f20) = true)
    (a21 : PySem.W.nsIn K mainGlobals "joined_say" = some (some (.ref f21)))
    (l21 : K.lookup f21 = some ⟨oc21, od21, .func (PySem.W.fnOf "joined_say" "joined_say" (defArgs s_joined_say) (defBody s_joined_say) (defScope s_joined_say) .none kV21 dc21 pm21 an21 cd21 ct21), sl21⟩)
    (c21 : PySem.W.codeIn K cd21 "joined_say" = true)
    (k21 : PySem.W.keepIn K (.ref f21) = true)
    (a22 : PySem.W.nsIn K mainGlobals "read_say" = some (some (.ref f22)))
    (l22 : K.lookup f22 = some ⟨oc22, od22, .func (PySem.W.fnOf "read_say" "read_say" (defArgs s_read_say) (defBody s_read_say) (defScope s_read_say) .none kV22 dc22 pm22 an22 cd22 ct22), sl22⟩)
    (c22 : PySem.W.codeIn K cd22 "read_say" = true)
    (k22 : PySem.W.keepIn K (.ref f22) = true)
    (a23 : PySem.W.findIn K (.ref Sk) "__init__" = some (some (.ref f23)))
    (i23 : PySem.W.isFn K (.ref f23) = true)
    (l23 : K.lookup f23 = some ⟨oc23, od23, .func (PySem.W.fnOf "__init__" "Stack.__init__" (defArgs s_Stack_init) (defBody s_Stack_init) (defScope s_Stack_init) .none kV23 dc23 pm23 an23 cd23 ct23), sl23⟩)
    (c23 : PySem.W.codeIn K cd23 "Stack.__init__" = true)
    (k23 : PySem.W.keepIn K (.ref f23) = true)
    (a24 : PySem.W.findIn K (.ref Sk) "close" = some (some (.ref f24)))
    (i24 : PySem.W.isFn K (.ref f24) = true)
    (l24 : K.lookup f24 = some ⟨oc24, od24, .func (PySem.W.fnOf "close" "Stack.close" (defArgs s_Stack_close) (defBody s_Stack_close) (defScope s_Stack_close) .none kV24 dc24 pm24 an24 cd24 ct24), sl24⟩)
    (c24 : PySem.W.codeIn K cd24 "Stack.close" = true)
    (k24 : PySem.W.keepIn K (.ref f24) = true)
    (a25 : PySem.W.findIn K (.ref Sk) "work" = some (some (.ref f25)))
    (i25 : PySem.W.isFn K (.ref f25) = true)
    (l25 : K.lookup f25 = some ⟨oc25, od25, .func (PySem.W.fnOf "work" "Stack.work" (defArgs s_Stack_work) (defBody s_Stack_work) (defScope s_Stack_work) .none kV25 dc25 pm25 an25 cd25 ct25), sl25⟩)
    (c25 : PySem.W.codeIn K cd25 "Stack.work" = true)
    (k25 : PySem.W.keepIn K (.ref f25) = true)
    (a26 : PySem.W.findIn K (.ref Sk) "add_value" = some (some (.ref f26)))
    (i26 : PySem.W.isFn K (.ref f26) = true)
    (l26 : K.lookup f26 = some ⟨oc26, od26, .func (PySem.W.fnOf "add_value" "Stack.add_value" (defArgs s_Stack_add_value) (defBody s_Stack_add_value) (defScope s_Stack_add_value) .none kV26 dc26 pm26 an26 cd26 ct26), sl26⟩)
    (c26 : PySem.W.codeIn K cd26 "Stack.add_value" = true)
    (k26 : PySem.W.keepIn K (.ref f26) = true)
    (a27 : PySem.W.findIn K (.ref Sk) "add_sign" = some (some (.ref f27)))
    (i27 : PySem.W.isFn K (.ref f27) = true)
    (l27 : K.lookup f27 = some ⟨oc27, od27, .func (PySem.W.fnOf "add_sign" "Stack.add_sign" (defArgs s_Stack_add_sign) (defBody s_Stack_add_sign) (defScope s_Stack_add_sign) .none kV27 dc27 pm27 an27 cd27 ct27), sl27⟩)
    (c27 : PySem.W.codeIn K cd27 "Stack.add_sign" = true)
    (k27 : PySem.W.keepIn K (.ref f27) = true)
    (a28 : PySem.W.findIn K (.ref Sk) "result" = some (some (.ref f28)))
    (i28 : PySem.W.isFn K (.ref f28) = true)
    (l28 : K.lookup f28 = some ⟨oc28, od28, .func (PySem.W.fnOf "result" "Stack.result" (defArgs s_Stack_result) (defBody s_Stack_result) (defScope s_Stack_result) .none kV28 dc28 pm28 an28 cd28 ct28), sl28⟩)
    (c28 : PySem.W.codeIn K cd28 "Stack.result" = true)
    (k28 : PySem.W.keepIn K (.ref f28) = true)
    (a29 : PySem.W.findIn K (.ref CU) "__init__" = some (some (.ref f29)))
    (i29 : PySem.W.isFn K (.ref f29) = true)
    (l29 : K.lookup f29 = some ⟨oc29, od29, .func (PySem.W.fnOf "__init__" "BadText.__init__" (defArgs s_BadText_init) (defBody s_BadText_init) (defScope s_BadText_init) .none kV29 dc29 pm29 an29 cd29 ct29), sl29⟩)
    (c29 : PySem.W.codeIn K cd29 "BadText.__init__" = true)
    (k29 : PySem.W.keepIn K (.ref f29) = true)
    (a30 : PySem.W.nsIn K mainGlobals "_law_box" = some (some (.ref f30)))
    (l30 : K.lookup f30 = some ⟨oc30, od30, .func (PySem.W.fnOf "_law_box" "_law_box" (defArgs s_law_box) (defBody s_law_box) (defScope s_law_box) .none kV30 dc30 pm30 an30 cd30 ct30), sl30⟩)
    (c30 : PySem.W.codeIn K cd30 "_law_box" = true)
    (k30 : PySem.W.keepIn K (.ref f30) = true)
    (a31 : PySem.W.nsIn K mainGlobals "_law_take" = some (some (.ref f31)))
    (l31 : K.lookup f31 = some ⟨oc31, od31, .func (PySem.W.fnOf "_law_take" "_law_take" (defArgs s_law_take) (defBody s_law_take) (defScope s_law_take) .none kV31 dc31 pm31 an31 cd31 ct31), sl31⟩)
    (c31 : PySem.W.codeIn K cd31 "_law_take" = true)
    (k31 : PySem.W.keepIn K (.ref f31) = true)
    (a32 : PySem.W.nsIn K mainGlobals "_law_pick" = some (some (.ref f32)))
    (l32 : K.lookup f32 = some ⟨oc32, od32, .func (PySem.W.fnOf "_law_pick" "_law_pick" (defArgs s_law_pick) (defBody s_law_pick) (defScope s_law_pick) .none kV32 dc32 pm32 an32 cd32 ct32), sl32⟩)
    (c32 : PySem.W.codeIn K cd32 "_law_pick" = true)
    (k32 : PySem.W.keepIn K (.ref f32) = true)
    (a33 : PySem.W.nsIn K mainGlobals "_law_words" = some (some (.ref f33)))
    (l33 : K.lookup f33 = some ⟨oc33, od33, .func (PySem.W.fnOf "_law_words" "_law_words" (defArgs s_law_words) (defBody s_law_words) (defScope s_law_words) .none kV33 dc33 pm33 an33 cd33 ct33), sl33⟩)
    (c33 : PySem.W.codeIn K cd33 "_law_words" = true)
    (k33 : PySem.W.keepIn K (.ref f33) = true)
    (a34 : PySem.W.nsIn K mainGlobals "_law_gap" = some (some (.ref f34)))
    (l34 : K.lookup f34 = some ⟨oc34, od34, .func (PySem.W.fnOf "_law_gap" "_law_gap" (defArgs s_law_gap) (defBody s_law_gap) (defScope s_law_gap) .none kV34 dc34 pm34 an34 cd34 ct34), sl34⟩)
    (c34 : PySem.W.codeIn K cd34 "_law_gap" = true)
    (k34 : PySem.W.keepIn K (.ref f34) = true)
    (a35 : PySem.W.nsIn K mainGlobals "_law_expression" = some (some (.ref f35)))
    (l35 : K.lookup f35 = some ⟨oc35, od35, .func (PySem.W.fnOf "_law_expression" "_law_expression" (defArgs s_law_expression) (defBody s_law_expression) (defScope s_law_expression) .none kV35 dc35 pm35 an35 cd35 ct35), sl35⟩)
    (c35 : PySem.W.codeIn K cd35 "_law_expression" = true)
    (k35 : PySem.W.keepIn K (.ref f35) = true)
    (a36 : PySem.W.nsIn K mainGlobals "_law_parts" = some (some (.ref f36)))
    (l36 : K.lookup f36 = some ⟨oc36, od36, .func (PySem.W.fnOf "_law_parts" "_law_parts" (defArgs s_law_parts) (defBody s_law_parts) (defScope s_law_parts) .none kV36 dc36 pm36 an36 cd36 ct36), sl36⟩)
    (c36 : PySem.W.codeIn K cd36 "_law_parts" = true)
    (k36 : PySem.W.keepIn K (.ref f36) = true)
    (a37 : PySem.W.nsIn K mainGlobals "_law_level" = some (some (.ref f37)))
    (l37 : K.lookup f37 = some ⟨oc37, od37, .func (PySem.W.fnOf "_law_level" "_law_level" (defArgs s_law_level) (defBody s_law_level) (defScope s_law_level) .none kV37 dc37 pm37 an37 cd37 ct37), sl37⟩)
    (c37 : PySem.W.codeIn K cd37 "_law_level" = true)
    (k37 : PySem.W.keepIn K (.ref f37) = true)
    (a38 : PySem.W.nsIn K mainGlobals "_law_single" = some (some (.ref f38)))
    (l38 : K.lookup f38 = some ⟨oc38, od38, .func (PySem.W.fnOf "_law_single" "_law_single" (defArgs s_law_single) (defBody s_law_single) (defScope s_law_single) .none kV38 dc38 pm38 an38 cd38 ct38), sl38⟩)
    (c38 : PySem.W.codeIn K cd38 "_law_single" = true)
    (k38 : PySem.W.keepIn K (.ref f38) = true)
    (a39 : PySem.W.nsIn K mainGlobals "_law_due" = some (some (.ref f39)))
    (l39 : K.lookup f39 = some ⟨oc39, od39, .func (PySem.W.fnOf "_law_due" "_law_due" (defArgs s_law_due) (defBody s_law_due) (defScope s_law_due) .none kV39 dc39 pm39 an39 cd39 ct39), sl39⟩)
    (c39 : PySem.W.codeIn K cd39 "_law_due" = true)
    (k39 : PySem.W.keepIn K (.ref f39) = true)
    (a40 : PySem.W.nsIn K mainGlobals "_law_tried" = some (some (.ref f40)))
    (l40 : K.lookup f40 = some ⟨oc40, od40, .func (PySem.W.fnOf "_law_tried" "_law_tried" (defArgs s_law_tried) (defBody s_law_tried) (defScope s_law_tried) .none kV40 dc40 pm40 an40 cd40 ct40), sl40⟩)
    (c40 : PySem.W.codeIn K cd40 "_law_tried" = true)
    (k40 : PySem.W.keepIn K (.ref f40) = true)
    (a41 : PySem.W.nsIn K mainGlobals "_law_bent" = some (some (.ref f41)))
    (l41 : K.lookup f41 = some ⟨oc41, od41, .func (PySem.W.fnOf "_law_bent" "_law_bent" (defArgs s_law_bent) (defBody s_law_bent) (defScope s_law_bent) .none kV41 dc41 pm41 an41 cd41 ct41), sl41⟩)
    (c41 : PySem.W.codeIn K cd41 "_law_bent" = true)
    (k41 : PySem.W.keepIn K (.ref f41) = true)
    (a42 : PySem.W.nsIn K mainGlobals "law" = some (some (.ref f42)))
    (l42 : K.lookup f42 = some ⟨oc42, od42, .func (PySem.W.fnOf "law" "law" (defArgs s_law) (defBody s_law) (defScope s_law) .none kV42 dc42 pm42 an42 cd42 ct42), sl42⟩)
    (c42 : PySem.W.codeIn K cd42 "law" = true)
    (k42 : PySem.W.keepIn K (.ref f42) = true)
    (aC : PySem.W.nsIn K mainGlobals "Say" = some (some (.ref C)))
    (pg : PySem.W.plainGet K C Str.empty = true)
    (hd : PySem.W.hasDictIn K C = true)
    (po : PySem.W.plainOver K C = true)
    (sa : PySem.W.findIn K (.ref C) "__setattr__" = some (some (.builtin "object.__setattr__")))
    (mk : PySem.W.makesIn K C = true)
    (kc : PySem.W.keepIn K (.ref C) = true)
    (nN : PySem.W.findIn K (.ref C) "names" = some none)
    (nP : PySem.W.findIn K (.ref C) "points" = some none)
    (gL : PySem.W.nsIn K mainGlobals "LETTERS" = some (some (.str "abcdefghijklmnopqrstuvwxyz" tL)))
    (gM : PySem.W.nsIn K mainGlobals "LONGEST" = some (some (.int 8 tM)))
    (ic : PySem.W.findIn K (.ref C) "__class__" = some (some (.builtin "object.__class__")))
    (isg : PySem.W.specialIn K (.builtin "object.__class__") "__get__" = some (some (.builtin "getset_descriptor.__get__")))
    (itk : PySem.W.takesIn K (.builtin "object.__class__") = some true)
    (imr : PySem.W.mroIn K C (.type "object") = some true)
    (sf : PySem.W.selfFirst K C = true)
    (nf : PySem.W.notFirst K C (.ref C) = true)
    (ne : PySem.W.findIn K (.ref C) "__ne__" = some (some (.builtin "object.__ne__")))
    (so : PySem.W.subIn K (.ref C) (.type "object") = some true)
    (rd : PySem.W.readsIn K C (.type "type") = true)
    (rg : PySem.W.specialIn K (.ref C) "__getattribute__" = some (some (.builtin "type.__getattribute__")))
    (aK : PySem.W.nsIn K mainGlobals "Stack" = some (some (.ref Sk)))
    (pgK : PySem.W.plainGet K Sk Str.empty = true)
    (hdK : PySem.W.hasDictIn K Sk = true)
    (poK : PySem.W.plainOver K Sk = true)
    (saK : PySem.W.findIn K (.ref Sk) "__setattr__" = some (some (.builtin "object.__setattr__")))
    (mkK : PySem.W.makesIn K Sk = true)
    (kcK : PySem.W.keepIn K (.ref Sk) = true)
    (nK0 : PySem.W.findIn K (.ref Sk) "ranks" = some none)
    (nK1 : PySem.W.findIn K (.ref Sk) "prefix" = some none)
    (nK2 : PySem.W.findIn K (.ref Sk) "suffix" = some none)
    (nK3 : PySem.W.findIn K (.ref Sk) "makes" = some none)
    (nK4 : PySem.W.findIn K (.ref Sk) "held" = some none)
    (nK5 : PySem.W.findIn K (.ref Sk) "waiting" = some none)
    (nK6 : PySem.W.findIn K (.ref Sk) "is_open" = some none)
    (icK : PySem.W.findIn K (.ref Sk) "__class__" = some (some (.builtin "object.__class__")))
    (imrK : PySem.W.mroIn K Sk (.type "object") = some true)
    (aU : PySem.W.nsIn K mainGlobals "BadText" = some (some (.ref CU)))
    (aDE : PySem.W.nsIn K mainGlobals "DeedError" = some (some (.ref DE)))
    (xU : K.lookup CU = some (excClassObj nmU qU CU NU bsU [.ref DE, .type "ValueError", .type "Exception", .type "BaseException", .type "object"] true snU subU abU colU ddU mU0 mU1 mU2 mU3 mU5 "ValueError.__new__"))
    (saU : PySem.W.findIn K (.ref CU) "__setattr__" = some (some (.builtin "object.__setattr__")))
    (exU : PySem.W.subIn K (.ref CU) (.type "BaseException") = some true)
    (tyU : PySem.W.typeIn K (.ref CU) = some (.type "type"))
    (kcU : PySem.W.keepIn K (.ref CU) = true)
    (clU : PySem.W.isClsIn K CU = true)
    (suU : PySem.W.subIn K (.ref CU) (.ref CU) = some true)
    (tfU : PySem.W.typeIn K (.ref f29) = some (.type "function"))
    (rdD : PySem.W.readsIn K DE (.type "type") = true)
    (rgD : PySem.W.specialIn K (.ref DE) "__getattribute__" = some (some (.builtin "type.__getattribute__")))
    (fcD : PySem.W.findCls K (.ref DE) (.type "type") "__init__" = some (.val (.builtin "ValueError.__init__")))
    (aSR : PySem.W.nsIn K mainGlobals "SAY_RANKS" = some (some (.ref SR)))
    (dwR : He.dicW K SR = some (He.keysIn w.params ["&", "^", "|"]))
    (suS : PySem.W.subIn K (.ref C) (.type "str") = some false)
    (zr0 : PySem.W.nsIn K SR "&" = some (some (.int 2 tr0)))
    (zr1 : PySem.W.nsIn K SR "^" = some (some (.int 1 tr1)))
    (zr2 : PySem.W.nsIn K SR "|" = some (some (.int 0 tr2)))
    (z_len : PySem.W.nsIn K mainGlobals "len" = some none)
    (z_sorted : PySem.W.nsIn K mainGlobals "sorted" = some none)
    (z_set : PySem.W.nsIn K mainGlobals "set" = some none)
    (z_str : PySem.W.nsIn K mainGlobals "str" = some none)
    (z_int : PySem.W.nsIn K mainGlobals "int" = some none)
    (z_tuple : PySem.W.nsIn K mainGlobals "tuple" = some none)
    (z_list : PySem.W.nsIn K mainGlobals "list" = some none)
    (z_any : PySem.W.nsIn K mainGlobals "any" = some none)
    (z_all : PySem.W.nsIn K mainGlobals "all" = some none)
    (z_isinstance : PySem.W.nsIn K mainGlobals "isinstance" = some none)
    (z_range : PySem.W.nsIn K mainGlobals "range" = some none)
    (z_zip : PySem.W.nsIn K mainGlobals "zip" = some none)
    (z_bool : PySem.W.nsIn K mainGlobals "bool" = some none)
    (z_dict : PySem.W.nsIn K mainGlobals "dict" = some none)
    (z_enumerate : PySem.W.nsIn K mainGlobals "enumerate" = some none)
    (z_repr : PySem.W.nsIn K mainGlobals "repr" = some none) :
    ∃ fd : FuncData, (∀ (s : Shared) (v : Value), BindsTo s fd ⟨[v], []⟩ [("_law_script", v)]) ∧ ∀ base : Heap, K.In base → base.Ns mainGlobals mg → FnOk l.prog w K mg base CX0 40 fa fd ["_law_script"] (spLawB K) := by
  have e := hfa.symm.trans (PySem.W.mg_of X G a42)
  cases e
  have Bz : Bn mg := ⟨PySem.W.mg_none_of X G z_len, PySem.W.mg_none_of X G z_sorted, PySem.W.mg_none_of X G z_set, PySem.W.mg_none_of X G z_str, PySem.W.mg_none_of X G z_int, PySem.W.mg_none_of X G z_tuple, PySem.W.mg_none_of X G z_list, PySem.W.mg_none_of X G z_any, PySem.W.mg_none_of X G z_all, PySem.W.mg_none_of X G z_isinstance, PySem.W.mg_none_of X G z_range, PySem.W.mg_none_of X G z_zip, PySem.W.mg_none_of X G z_bool, PySem.W.mg_none_of X G z_dict, PySem.W.mg_none_of X G z_enumerate, PySem.W.mg_none_of X G z_repr⟩
  have T : Tx K mg C := { toBn := Bz, g_Say := PySem.W.mg_of X G aC, cl := ⟨pg, hd, po, sa⟩, nN := nN, nP := nP, g_LETTERS := ⟨tL, PySem.W.mg_of X G gL⟩, g_LONGEST := ⟨tM, PySem.W.mg_of X G gM⟩, ic := ic, isg := isg, itk := itk, imr := imr }
  have F1 := fun_mk (st := s_is_name) l1 c1 k1
  have b1 := F1.binds (ps := ["thing"]) fun _ _ _ _ _ _ us hl => match us, hl with | [_], _ => rfl
  have F2 := fun_mk (st := s_choices_of) l2 c2 k2
  have b2 := F2.binds (ps := ["names"]) fun _ _ _ _ _ _ us hl => match us, hl with | [_], _ => rfl
  have F3 := fun_mk (st := s_check_name) l3 c3 k3
  have b3 := F3.binds (ps := ["name"]) fun _ _ _ _ _ _ us hl => match us, hl with | [_], _ => rfl
  have F4 := fun_mk (st := s_set_to) l4 c4 k4
  have b4 := F4.binds (ps := ["row", "name", "truth"]) fun _ _ _ _ _ _ us hl => match us, hl with | [_, _, _], _ => rfl
  have F5 := fun_mk (st := s_said_at) l5 c5 k5
  have b5 := F5.binds (ps := ["names", "points"]) fun _ _ _ _ _ _ us hl => match us, hl with | [_, _], _ => rfl
  have F6 := fun_mk (st := s_choices_over) l6 c6 k6
  have b6 := F6.binds (ps := ["names"]) fun _ _ _ _ _ _ us hl => match us, hl with | [_], _ => rfl
  have F7 := fun_mk (st := s_Say_init) l7 c7 k7
  have b7 := F7.binds (ps := ["self", "names", "points"]) fun _ _ _ _ _ _ us hl => match us, hl with | [_, _, _], _ => rfl
  have F8 := fun_mk (st := s_Say_test) l8 c8 k8
  have b8 := F8.binds (ps := ["name"]) fun _ _ _ _ _ _ us hl => match us, hl with | [_], _ => rfl
  have F9 := fun_mk (st := s_Say_yes) l9 c9 k9
  have b9 := F9.binds (ps := []) fun _ _ _ _ _ _ us hl => match us, hl with | [], _ => rfl
  have F10 := fun_mk (st := s_Say_no) l10 c10 k10
  have b10 := F10.binds (ps := []) fun _ _ _ _ _ _ us hl => match us, hl with | [], _ => rfl
  have F11 := fun_mk (st := s_Say_at) l11 c11 k11
  have b11 := F11.binds (ps := ["self", "row"]) fun _ _ _ _ _ _ us hl => match us, hl with | [_, _], _ => rfl
  have F13 := fun_mk (st := s_Say_and) l13 c13 k13
  have b13 := F13.binds (ps := ["self", "other"]) fun _ _ _ _ _ _ us hl => match us, hl with | [_, _], _ => rfl
  have F14 := fun_mk (st := s_Say_or) l14 c14 k14
  have b14 := F14.binds (ps := ["self", "other"]) fun _ _ _ _ _ _ us hl => match us, hl with | [_, _], _ => rfl
  have F15 := fun_mk (st := s_Say_xor) l15 c15 k15
  have b15 := F15.binds (ps := ["self", "other"]) fun _ _ _ _ _ _ us hl => match us, hl with | [_, _], _ => rfl
  have F16 := fun_mk (st := s_Say_invert) l16 c16 k16
  have b16 := F16.binds (ps := ["self"]) fun _ _ _ _ _ _ us hl => match us, hl with | [_], _ => rfl
  have F19 := fun_mk (st := s_Say_eq) l19 c19 k19
  have b19 := F19.binds (ps := ["self", "other"]) fun _ _ _ _ _ _ us hl => match us, hl with | [_, _], _ => rfl
  have F20 := fun_mk (st := s_words_of) l20 c20 k20
  have b20 := F20.binds (ps := ["text", "signs"]) fun _ _ _ _ _ _ us hl => match us, hl with | [_, _], _ => rfl
  have F21 := fun_mk (st := s_joined_say) l21 c21 k21
  have b21 := F21.binds (ps := ["sign", "says"]) fun _ _ _ _ _ _ us hl => match us, hl with | [_, _], _ => rfl
  have F22 := fun_mk (st := s_read_say) l22 c22 k22
  have b22 := F22.binds (ps := ["text"]) fun _ _ _ _ _ _ us hl => match us, hl with | [_], _ => rfl
  have F23 := fun_mk (st := s_Stack_init) l23 c23 k23
  have b23 := F23.binds (ps := ["self", "ranks", "prefix", "suffix", "makes"]) fun _ _ _ _ _ _ us hl => match us, hl with | [_, _, _, _, _], _ => rfl
  have F24 := fun_mk (st := s_Stack_close) l24 c24 k24
  have b24 := F24.binds (ps := ["self"]) fun _ _ _ _ _ _ us hl => match us, hl with | [_], _ => rfl
  have F25 := fun_mk (st := s_Stack_work) l25 c25 k25
  have b25 := F25.binds (ps := ["self", "least"]) fun _ _ _ _ _ _ us hl => match us, hl with | [_, _], _ => rfl
  have F26 := fun_mk (st := s_Stack_add_value) l26 c26 k26
  have b26 := F26.binds (ps := ["self", "value"]) fun _ _ _ _ _ _ us hl => match us, hl with | [_, _], _ => rfl
  have F27 := fun_mk (st := s_Stack_add_sign) l27 c27 k27
  have b27 := F27.binds (ps := ["self", "sign"]) fun _ _ _ _ _ _ us hl => match us, hl with | [_, _], _ => rfl
  have F28 := fun_mk (st := s_Stack_result) l28 c28 k28
  have b28 := F28.binds (ps := ["self"]) fun _ _ _ _ _ _ us hl => match us, hl with | [_], _ => rfl
  have F29 := fun_mk (st := s_BadText_init) l29 c29 k29
  have b29 := F29.binds (ps := ["self"]) fun _ _ _ _ _ _ us hl => match us, hl with | [_], _ => rfl
  have F30 := fun_mk (st := s_law_box) l30 c30 k30
  have b30 := F30.binds (ps := ["_law_script"]) fun _ _ _ _ _ _ us hl => match us, hl with | [_], _ => rfl
  have F31 := fun_mk (st := s_law_take) l31 c31 k31
  have b31 := F31.binds (ps := ["_law_box_here", "_law_size"]) fun _ _ _ _ _ _ us hl => match us, hl with | [_, _], _ => rfl
  have F32 := fun_mk (st := s_law_pick) l32 c32 k32
  have b32 := F32.binds (ps := ["_law_box_here", "_law_things"]) fun _ _ _ _ _ _ us hl => match us, hl with | [_, _], _ => rfl
  have F33 := fun_mk (st := s_law_words) l33 c33 k33
  have b33 := F33.binds (ps := ["_law_box_here", "_law_many", "_law_taken"]) fun _ _ _ _ _ _ us hl => match us, hl with | [_, _, _], _ => rfl
  have F34 := fun_mk (st := s_law_gap) l34 c34 k34
  have b34 := F34.binds (ps := ["_law_box_here"]) fun _ _ _ _ _ _ us hl => match us, hl with | [_], _ => rfl
  have F35 := fun_mk (st := s_law_expression) l35 c35 k35
  have b35 := F35.binds (ps := ["_law_box_here", "_law_names", "_law_deep"]) fun _ _ _ _ _ _ us hl => match us, hl with | [_, _, _], _ => rfl
  have F36 := fun_mk (st := s_law_parts) l36 c36 k36
  have b36 := F36.binds (ps := ["_law_text"]) fun _ _ _ _ _ _ us hl => match us, hl with | [_], _ => rfl
  have F37 := fun_mk (st := s_law_level) l37 c37 k37
  have b37 := F37.binds (ps := ["_law_parts_here", "_law_at", "_law_signs"]) fun _ _ _ _ _ _ us hl => match us, hl with | [_, _, _], _ => rfl
  have F38 := fun_mk (st := s_law_single) l38 c38 k38
  have b38 := F38.binds (ps := ["_law_parts_here", "_law_at"]) fun _ _ _ _ _ _ us hl => match us, hl with | [_, _], _ => rfl
  have F39 := fun_mk (st := s_law_due) l39 c39 k39
  have b39 := F39.binds (ps := ["_law_text"]) fun _ _ _ _ _ _ us hl => match us, hl with | [_], _ => rfl
  have F40 := fun_mk (st := s_law_tried) l40 c40 k40
  have b40 := F40.binds (ps := ["_law_text"]) fun _ _ _ _ _ _ us hl => match us, hl with | [_], _ => rfl
  have F41 := fun_mk (st := s_law_bent) l41 c41 k41
  have b41 := F41.binds (ps := ["_law_box_here", "_law_text"]) fun _ _ _ _ _ _ us hl => match us, hl with | [_, _], _ => rfl
  have F42 := fun_mk (st := s_law) l42 c42 k42
  have b42 := F42.binds (ps := ["_law_script"]) fun _ _ _ _ _ _ us hl => match us, hl with | [_], _ => rfl
  refine ⟨PySem.W.fnOf "law" "law" (defArgs s_law) (defBody s_law) (defScope s_law) .none kV42 dc42 pm42 an42 cd42 ct42, fun s v => .of_eq rfl, fun base _ _ => ?_⟩
  have C1 : C8.Cal l.prog w K mg base _ "is_name" _ [] := mkCalX F1 (PySem.W.mg_of X G a1) b1 (ok_is_name F1 T)
  have C2 : C8.Cal l.prog w K mg base _ "choices_of" _ [] := mkCalX F2 (PySem.W.mg_of X G a2) b2 (ok_choices_of F2 Bz)
  have C3 : C8.Cal l.prog w K mg base _ "check_name" _ [] := mkCalX F3 (PySem.W.mg_of X G a3) b3 (ok_check_name F3 T C1)
  have C4 : C8.Cal l.prog w K mg base _ "set_to" _ [] := mkCalX F4 (PySem.W.mg_of X G a4) b4 (ok_set_to F4 Bz)
  have CM : C8.Mak l.prog w K mg base 1 "Say" C (spM (RInit C)) [] := ⟨f7, _, _, [], ⟨mk, a7, i7, kc⟩, ok_Say_init F7 T, T.g_Say, b7, .nil⟩
  have C5 : C8.Cal l.prog w K mg base _ "said_at" _ [] := mkCalX F5 (PySem.W.mg_of X G a5) b5 (ok_said_atG F5 T C2 C4 CM)
  have CSL : C8.Cal l.prog w K mg base _ "said_at" _ [] := mkCalX F5 (PySem.W.mg_of X G a5) b5 (ok_said_at F5 T C2 C4 CM)
  have C6 : C8.Cal l.prog w K mg base _ "choices_over" _ [] := mkCalX F6 (PySem.W.mg_of X G a6) b6 (ok_choices_overG F6 T C2)
  have S8 : OSm l.prog w K mg base 3 C "test" _ := ⟨_, p8, f8, ⟨rd, rg⟩, ⟨a8, ⟨_, i8⟩, k8⟩, fnR_of (ok_Say_test F8 T C3 CM) b8⟩
  have S9 : OSm l.prog w K mg base 3 C "yes" _ := ⟨_, p9, f9, ⟨rd, rg⟩, ⟨a9, ⟨_, i9⟩, k9⟩, fnR_of (ok_Say_yes F9 T CM) b9⟩
  have S10 : OSm l.prog w K mg base 3 C "no" _ := ⟨_, p10, f10, ⟨rd, rg⟩, ⟨a10, ⟨_, i10⟩, k10⟩, fnR_of (ok_Say_no F10 T CM) b10⟩
  have C11 : C8.Met l.prog w K mg base _ C "at" _ [] := ⟨f11, _, _, [], T.cl, ⟨a11, i11, k11⟩, ok_Say_at F11 T, b11, .nil⟩
  have R13 : FnR l.prog w K mg base CX0 _ f13 _ := fnR_of (ok_Say_andG F13 T C5 C6 C11) b13
  have R14 : FnR l.prog w K mg base CX0 _ f14 _ := fnR_of (ok_Say_orG F14 T C5 C6 C11) b14
  have R15 : FnR l.prog w K mg base CX0 _ f15 _ := fnR_of (ok_Say_xorG F15 T C5 C6 C11) b15
  have R16 : FnR l.prog w K mg base CX0 _ f16 _ := fnR_of (ok_Say_invert F16 T CSL C2 C11) b16
  have R19 : FnR l.prog w K mg base CX0 _ f19 _ := fnR_of (ok_Say_eq F19 T) b19
  have Oand : OBin l.prog w K mg base 4 C .BitAnd _ := ⟨f13, sf, a13, i13, R13⟩
  have Oor : OBin l.prog w K mg base 4 C .BitOr _ := ⟨f14, sf, a14, i14, R14⟩
  have Oxor : OBin l.prog w K mg base 4 C .BitXor _ := ⟨f15, sf, a15, i15, R15⟩
  have Oinv : OInv l.prog w K mg base 4 C _ := ⟨f16, a16, i16, R16⟩
  have Oeq : OCmp l.prog w K mg base 1 C .Eq _ := ⟨f19, nf, a19, i19, R19⟩
  have One : ONe l.prog w K mg base 1 C _ := ⟨f19, nf, ne, a19, i19, so, R19⟩
  have OEX : OexC K CU := ⟨⟨nmU, qU, NU, bsU, _, snU, subU, abU, colU, ddU, mU0, mU1, mU2, mU3, mU5, xU, by rfl⟩, saU, exU, tyU, kcU⟩
  have UBT : ErrN l.prog w K mg base 1 CU "BadText" := ⟨OEX, PySem.W.mg_of X G aU, exm_of exU clU tyU suU, f29, _, a29, tfU, ok_BT_init F29 (PySem.W.mg_of X G aDE) ⟨rdD, rgD⟩ fcD OEX, b29⟩
  have SK : SkT K Sk := ⟨⟨pgK, hdK, poK, saK⟩, nK0, nK1, nK2, nK3, nK4, nK5, nK6⟩
  have KS : KIs K w SR rks := ⟨dwR, by decide +kernel, by decide, fun p hp => by
    simp only [rks, List.mem_cons, List.not_mem_nil, or_false] at hp
    rcases hp with rfl | rfl | rfl
    · exact ⟨_, zr0⟩
    · exact ⟨_, zr1⟩
    · exact ⟨_, zr2⟩⟩
  have TRD : TRd K mg w C Sk f21 SR := { toTx := T, S := SK, g_SAY_RANKS := PySem.W.mg_of X G aSR, g_joined_say := PySem.W.mg_of X G a21, ks := KS, noS := kit_str suS }
  have R21 : FnR l.prog w K mg base CX0 _ f21 _ := fnR_of (ok_joined_say F21 T Oand Oor Oxor Oinv) b21
  have CSK : C8.Mak l.prog w K mg base 1 "Stack" Sk (spN (RSkInit Sk)) [] := ⟨f23, _, _, [], ⟨mkK, a23, i23, kcK⟩, ok_Stack_init F23 SK, PySem.W.mg_of X G aK, b23, .nil⟩
  have C24 : C8.Met l.prog w K mg base 6 Sk "close" _ [] := ⟨f24, _, _, [], SK.cl, ⟨a24, i24, k24⟩, ok_Stack_close F24 T SK R21 F21.kp, b24, .nil⟩
  have C25 : C8.Met l.prog w K mg base 6 Sk "work" _ [] := ⟨f25, _, _, [], SK.cl, ⟨a25, i25, k25⟩, ok_Stack_work F25 T SK R21 F21.kp, b25, .nil⟩
  have XM26 : MetX l.prog w K mg base 7 Sk "add_value" _ := ⟨f26, _, _, SK.cl, ⟨a26, i26, k26⟩, ok_Stack_add_value F26 T SK UBT C24, b26⟩
  have XM27 : MetX l.prog w K mg base 7 Sk "add_sign" _ := ⟨f27, _, _, SK.cl, ⟨a27, i27, k27⟩, ok_Stack_add_sign F27 T SK R21 F21.kp UBT C24 C25, b27⟩
  have XM28 : MetX l.prog w K mg base 7 Sk "result" _ := ⟨f28, _, _, SK.cl, ⟨a28, i28, k28⟩, ok_Stack_result F28 T SK UBT C25, b28⟩
  have X20 : CalX l.prog w K mg base 3 "words_of" _ := ⟨f20, _, _, ok_words_of F20 T UBT, PySem.W.mg_of X G a20, F20.kp, b20⟩
  have X22 : CalX l.prog w K mg base 8 "read_say" _ := ⟨f22, _, _, ok_read_say F22 TRD UBT CSK X20 XM26 XM27 XM28 S8 S9 S10, PySem.W.mg_of X G a22, F22.kp, b22⟩
  have C30 : C8.Cal l.prog w K mg base _ "_law_box" _ [] := mkCalX F30 (PySem.W.mg_of X G a30) b30 (ok_law_box F30 Bz)
  have C31 : C8.Cal l.prog w K mg base _ "_law_take" _ [] := mkCalX F31 (PySem.W.mg_of X G a31) b31 (ok_law_take F31 Bz)
  have C32 : C8.Cal l.prog w K mg base _ "_law_pick" _ [] := mkCalX F32 (PySem.W.mg_of X G a32) b32 (ok_law_pick F32 Bz C31)
  have C33 : C8.Cal l.prog w K mg base _ "_law_words" _ [] := mkCalX F33 (PySem.W.mg_of X G a33) b33 (ok_law_words F33 Bz C31 C32)
  have C34 : C8.Cal l.prog w K mg base _ "_law_gap" _ [] := mkCalX F34 (PySem.W.mg_of X G a34) b34 (ok_law_gap F34 Bz C32)
  have A35 := all_law_expression (P := l.prog) (w := w) (base := base) F35 (PySem.W.mg_of X G a35) b35 T C31 C32 C34 Oand Oor Oxor Oinv S8 S9 S10 2
  have C36 : C8.Cal l.prog w K mg base _ "_law_parts" _ [] := mkCalX F36 (PySem.W.mg_of X G a36) b36 (ok_law_parts F36 Bz)
  have AP := all_parse (P := l.prog) (w := w) (base := base) F37 (PySem.W.mg_of X G a37) b37 F38 (PySem.W.mg_of X G a38) b38 T Oand Oor Oxor Oinv S8 S9 S10 5
  have C39 : C8.Cal l.prog w K mg base _ "_law_due" _ [] := mkCalX F39 (PySem.W.mg_of X G a39) b39 (ok_law_due 5 F39 T C36 AP.2)
  have C40 : C8.Cal l.prog w K mg base _ "_law_tried" _ [] := mkCalX F40 (PySem.W.mg_of X G a40) b40 (ok_law_tried F40 UBT X22)
  have C41 : C8.Cal l.prog w K mg base _ "_law_bent" _ [] := mkCalX F41 (PySem.W.mg_of X G a41) b41 (ok_law_bent F41 Bz C31 C32)
  exact ok_law F42 T Oeq One S8 S9 C30 C31 C33 A35 C41 C39 C40
theorem walk {l : PySem.W.OpenLaw} {q : Program} {loose : List Str} {XP : (Str → Option Value) → Heap → Prop} {YP : World → Heap → Prop} {d : DefRec} (hn : l.most = some 63) (hdf : d.params.defaults = [])
    (F : ∀ (w : World) (mg : Str → Option Value) (fa : Addr) (h : Heap), YP w h → h.Ns mainGlobals mg → mg d.name = some (.ref fa) → ∃ K : PySem.W.Frag, K.In h ∧
      ∃ fd : FuncData, (∀ (s : Shared) (v : Value), BindsTo s fd ⟨[v], []⟩ [("_law_script", v)]) ∧ ∀ base : Heap, K.In base → base.Ns mainGlobals mg → FnOk l.prog w K mg base CX0 40 fa fd ["_law_script"] (spLawB K)) :
    PySem.W.WalkO q loose XP YP l.row.toRowW d [] (fun f vs => PySem.call f vs) := by
  refine L2.walk_ofE (l := l) (n := 63) (k := 40) (x := "_law_script") (CX := L2.CX0) hn (by decide) hdf ⟨rfl, by decide, by decide⟩ ?_ (fun _ _ _ _ z => z)
  intro w mg fa h Y G hmg
  obtain ⟨K, KX, fd, hb, hF⟩ := F w mg fa h Y G hmg
  exact ⟨K, fd, spLawB K, KX, hb, fun H a ns hl _ hS => ⟨a, ns, rfl, hS, Nat.le_trans hl (by decide), fun _ => rfl⟩, hF⟩
end Du
namespace Du
open PySem L2 PySem.Spec PyProof.Rows
theorem made {l : PySem.W.OpenLaw} {w : World} {K : PySem.W.Frag} {h : Heap} {mg : Str → Option Value} {fa : Addr} (X : K.In h) (G : h.Ns mainGlobals mg) (hfa : mg "law" = some (.ref fa)) (c : SaysS fnL tabL [] exL w h K) :
    ∃ fd : FuncData, (∀ (s : Shared) (v : Value), BindsTo s fd ⟨[v], []⟩ [("_law_script", v)]) ∧ ∀ base : Heap, K.In base → base.Ns mainGlobals mg → FnOk l.prog w K mg base CX0 40 fa fd ["_law_script"] (spLawB K) := by
  obtain ⟨oc1, od1, kV1, dc1, pm1, an1, cd1, ct1, sl1, l1, c1, k1⟩ := c.def_ 0 (d := d1) rfl
  obtain ⟨oc2, od2, kV2, dc2, pm2, an2, cd2, ct2, sl2, l2, c2, k2⟩ := c.def_ 1 (d := d2) rfl
  obtain ⟨oc3, od3, kV3, dc3, pm3, an3, cd3, ct3, sl3, l3, c3, k3⟩ := c.def_ 2 (d := d3) rfl
  obtain ⟨oc4, od4, kV4, dc4, pm4, an4, cd4, ct4, sl4, l4, c4, k4⟩ := c.def_ 3 (d := d4) rfl
  obtain ⟨oc5, od5, kV5, dc5, pm5, an5, cd5, ct5, sl5, l5, c5, k5⟩ := c.def_ 4 (d := d5) rfl
  obtain ⟨oc6, od6, kV6, dc6, pm6, an6, cd6, ct6, sl6, l6, c6, k6⟩ := c.def_ 5 (d := d6) rfl
  obtain ⟨oc7, od7, kV7, dc7, pm7, an7, cd7, ct7, sl7, l7, c7, k7⟩ := c.def_ 6 (d := d7) rfl
  obtain ⟨oc8, od8, kV8, dc8, pm8, an8, cd8, ct8, sl8, l8, c8, k8⟩ := c.def_ 7 (d := d8) rfl
  obtain ⟨oc9, od9, kV9, dc9, pm9, an9, cd9, ct9, sl9, l9, c9, k9⟩ := c.def_ 8 (d := d9) rfl
  obtain ⟨oc10, od10, kV10, dc10, pm10, an10, cd10, ct10, sl10, l10, c10, k10⟩ := c.def_ 9 (d := d10) rfl
  obtain ⟨oc11, od11, kV11, dc11, pm11, an11, cd11, ct11, sl11, l11, c11, k11⟩ := c.def_ 10 (d := d11) rfl
  obtain ⟨oc13, od13, kV13, dc13, pm13, an13, cd13, ct13, sl13, l13, c13, k13⟩ := c.def_ 11 (d := d13) rfl
  obtain ⟨oc14, od14, kV14, dc14, pm14, an14, cd14, ct14, sl14, l14, c14, k14⟩ := c.def_ 12 (d := d14) rfl
  obtain ⟨oc15, od15, kV15, dc15, pm15, an15, cd15, ct15, sl15, l15, c15, k15⟩ := c.def_ 13 (d := d15) rfl
  obtain ⟨oc16, od16, kV16, dc16, pm16, an16, cd16, ct16, sl16, l16, c16, k16⟩ := c.def_ 14 (d := d16) rfl
  obtain ⟨oc19, od19, kV19, dc19, pm19, an19, cd19, ct19, sl19, l19, c19, k19⟩ := c.def_ 15 (d := d19) rfl
  obtain ⟨oc20, od20, kV20, dc20, pm20, an20, cd20, ct20, sl20, l20, c20, k20⟩ := c.def_ 16 (d := d20) rfl
  obtain ⟨oc21, od21, kV21, dc21, pm21, an21, cd21, ct21, sl21, l21, c21, k21⟩ := c.def_ 17 (d := d21) rfl
  obtain ⟨oc22, od22, kV22, dc22, pm22, an22, cd22, ct22, sl22, l22, c22, k22⟩ := c.def_ 18 (d := d22) rfl
  obtain ⟨oc23, od23, kV23, dc23, pm23, an23, cd23, ct23, sl23, l23, c23, k23⟩ := c.def_ 19 (d := d23) rfl
  obtain ⟨oc24, od24, kV24, dc24, pm24, an24, cd24, ct24, sl24, l24, c24, k24⟩ := c.def_ 20 (d := d24) rfl
  obtain ⟨oc25, od25, kV25, dc25, pm25, an25, cd25, ct25, sl25, l25, c25, k25⟩ := c.def_ 21 (d := d25) rfl
  obtain ⟨oc26, od26, kV26, dc26, pm26, an26, cd26, ct26, sl26, l26, c26, k26⟩ := c.def_ 22 (d := d26) rfl
  obtain ⟨oc27, od27, kV27, dc27, pm27, an27, cd27, ct27, sl27, l27, c27, k27⟩ := c.def_ 23 (d := d27) rfl
  obtain ⟨oc28, od28, kV28, dc28, pm28, an28, cd28, ct28, sl28, l28, c28, k28⟩ := c.def_ 24 (d := d28) rfl
  obtain ⟨oc29, od29, kV29, dc29, pm29, an29, cd29, ct29, sl29, l29, c29, k29⟩ := c.def_ 25 (d := d29) rfl
  obtain ⟨oc30, od30, kV30, dc30, pm30, an30, cd30, ct30, sl30, l30, c30, k30⟩ := c.def_ 26 (d := d30) rfl
  obtain ⟨oc31, od31, kV31, dc31, pm31, an31, cd31, ct31, sl31, l31, c31, k31⟩ := c.def_ 27 (d := d31) rfl
  obtain ⟨oc32, od32, kV32, dc32, pm32, an32, cd32, ct32, sl32, l32, c32, k32⟩ := c.def_ 28 (d := d32) rfl
  obtain ⟨oc33, od33, kV33, dc33, pm33, an33, cd33, ct33, sl33, l33, c33, k33⟩ := c.def_ 29 (d := d33) rfl
  obtain ⟨oc34, od34, kV34, dc34, pm34, an34, cd34, ct34, sl34, l34, c34, k34⟩ := c.def_ 30 (d := d34) rfl
  obtain ⟨oc35, od35, kV35, dc35, pm35, an35, cd35, ct35, sl35, l35, c35, k35⟩ := c.def_ 31 (d := d35) rfl
  obtain ⟨oc36, od36, kV36, dc36, pm36, an36, cd36, ct36, sl36, l36, c36, k36⟩ := c.def_ 32 (d := d36) rfl
  obtain ⟨oc37, od37, kV37, dc37, pm37, an37, cd37, ct37, sl37, l37, c37, k37⟩ := c.def_ 33 (d := d37) rfl
  obtain ⟨oc38, od38, kV38, dc38, pm38, an38, cd38, ct38, sl38, l38, c38, k38⟩ := c.def_ 34 (d := d38) rfl
  obtain ⟨oc39, od39, kV39, dc39, pm39, an39, cd39, ct39, sl39, l39, c39, k39⟩ := c.def_ 35 (d := d39) rfl
  obtain ⟨oc40, od40, kV40, dc40, pm40, an40, cd40, ct40, sl40, l40, c40, k40⟩ := c.def_ 36 (d := d40) rfl
  obtain ⟨oc41, od41, kV41, dc41, pm41, an41, cd41, ct41, sl41, l41, c41, k41⟩ := c.def_ 37 (d := d41) rfl
  obtain ⟨oc42, od42, kV42, dc42, pm42, an42, cd42, ct42, sl42, l42, c42, k42⟩ := c.def_ 38 (d := d42) rfl
  have a1 : PySem.W.nsIn K mainGlobals "is_name" = some (some (.ref (He.ga K "is_name"))) := of_decide_eq_true (c.fact 0 (b := decide (PySem.W.nsIn K mainGlobals "is_name" = some (some (.ref (He.ga K "is_name"))))) rfl)
  have a2 : PySem.W.nsIn K mainGlobals "choices_of" = some (some (.ref (He.ga K "choices_of"))) := of_decide_eq_true (c.fact 1 (b := decide (PySem.W.nsIn K mainGlobals "choices_of" = some (some (.ref (He.ga K "choices_of"))))) rfl)
  have a3 : PySem.W.nsIn K mainGlobals "check_name" = some (some (.ref (He.ga K "check_name"))) := of_decide_eq_true (c.fact 2 (b := decide (PySem.W.nsIn K mainGlobals "check_name" = some (some (.ref (He.ga K "check_name"))))) rfl)
  have a4 : PySem.W.nsIn K mainGlobals "set_to" = some (some (.ref (He.ga K "set_to"))) := of_decide_eq_true (c.fact 3 (b := decide (PySem.W.nsIn K mainGlobals "set_to" = some (some (.ref (He.ga K "set_to"))))) rfl)
  have a5 : PySem.W.nsIn K mainGlobals "said_at" = some (some (.ref (He.ga K "said_at"))) := of_decide_eq_true (c.fact 4 (b := decide (PySem.W.nsIn K mainGlobals "said_at" = some (some (.ref (He.ga K "said_at"))))) rfl)
  have a6 : PySem.W.nsIn K mainGlobals "choices_over" = some (some (.ref (He.ga K "choices_over"))) := of_decide_eq_true (c.fact 5 (b := decide (PySem.W.nsIn K mainGlobals "choices_over" = some (some (.ref (He.ga K "choices_over"))))) rfl)
  have a7 : PySem.W.findIn K (.ref (He.ga K "Say")) "__init__" = some (some (.ref (He.ma K (He.ga K "Say") "__init__"))) := of_decide_eq_true (c.fact 6 (b := decide (PySem.W.findIn K (.ref (He.ga K "Say")) "__init__" = some (some (.ref (He.ma K (He.ga K "Say") "__init__"))))) rfl)
  have i7 : PySem.W.isFn K (.ref (He.ma K (He.ga K "Say") "__init__")) = true := c.fact 7 (b := PySem.W.isFn K (.ref (He.ma K (He.ga K "Say") "__init__"))) rfl
  have a8 := isGet_ok (c.fact 8 (b := isGet (PySem.W.findCls K (.ref (He.ga K "Say")) (.type "type") "test") (.builtin "staticmethod.__get__") (.ref (spA K (He.ga K "Say") "test")) .none (.ref (He.ga K "Say"))) rfl)
  have i8 : PySem.W.recIn K (spA K (He.ga K "Say") "test") "staticmethod" = some (.ref (stA K (spA K (He.ga K "Say") "test")) :: (srA K (spA K (He.ga K "Say") "test"))) := of_decide_eq_true (c.fact 9 (b := decide (PySem.W.recIn K (spA K (He.ga K "Say") "test") "staticmethod" = some (.ref (stA K (spA K (He.ga K "Say") "test")) :: (srA K (spA K (He.ga K "Say") "test"))))) rfl)
  have a9 := isGet_ok (c.fact 10 (b := isGet (PySem.W.findCls K (.ref (He.ga K "Say")) (.type "type") "yes") (.builtin "staticmethod.__get__") (.ref (spA K (He.ga K "Say") "yes")) .none (.ref (He.ga K "Say"))) rfl)
  have i9 : PySem.W.recIn K (spA K (He.ga K "Say") "yes") "staticmethod" = some (.ref (stA K (spA K (He.ga K "Say") "yes")) :: (srA K (spA K (He.ga K "Say") "yes"))) := of_decide_eq_true (c.fact 11 (b := decide (PySem.W.recIn K (spA K (He.ga K "Say") "yes") "staticmethod" = some (.ref (stA K (spA K (He.ga K "Say") "yes")) :: (srA K (spA K (He.ga K "Say") "yes"))))) rfl)
  have a10 := isGet_ok (c.fact 12 (b := isGet (PySem.W.findCls K (.ref (He.ga K "Say")) (.type "type") "no") (.builtin "staticmethod.__get__") (.ref (spA K (He.ga K "Say") "no")) .none (.ref (He.ga K "Say"))) rfl)
  have i10 : PySem.W.recIn K (spA K (He.ga K "Say") "no") "staticmethod" = some (.ref (stA K (spA K (He.ga K "Say") "no")) :: (srA K (spA K (He.ga K "Say") "no"))) := of_decide_eq_true (c.fact 13 (b := decide (PySem.W.recIn K (spA K (He.ga K "Say") "no") "staticmethod" = some (.ref (stA K (spA K (He.ga K "Say") "no")) :: (srA K (spA K (He.ga K "Say") "no"))))) rfl)
  have a11 : PySem.W.findIn K (.ref (He.ga K "Say")) "at" = some (some (.ref (He.ma K (He.ga K "Say") "at"))) := of_decide_eq_true (c.fact 14 (b := decide (PySem.W.findIn K (.ref (He.ga K "Say")) "at" = some (some (.ref (He.ma K (He.ga K "Say") "at"))))) rfl)
  have i11 : PySem.W.isFn K (.ref (He.ma K (He.ga K "Say") "at")) = true := c.fact 15 (b := PySem.W.isFn K (.ref (He.ma K (He.ga K "Say") "at"))) rfl
  have a13 : PySem.W.findIn K (.ref (He.ga K "Say")) "__and__" = some (some (.ref (He.ma K (He.ga K "Say") "__and__"))) := of_decide_eq_true (c.fact 16 (b := decide (PySem.W.findIn K (.ref (He.ga K "Say")) "__and__" = some (some (.ref (He.ma K (He.ga K "Say") "__and__"))))) rfl)
  have i13 : PySem.W.isFn K (.ref (He.ma K (He.ga K "Say") "__and__")) = true := c.fact 17 (b := PySem.W.isFn K (.ref (He.ma K (He.ga K "Say") "__and__"))) rfl
  have a14 : PySem.W.findIn K (.ref (He.ga K "Say")) "__or__" = some (some (.ref (He.ma K (He.ga K "Say") "__or__"))) := of_decide_eq_true (c.fact 18 (b := decide (PySem.W.findIn K (.ref (He.ga K "Say")) "__or__" = some (some (.ref (He.ma K (He.ga K "Say") "__or__"))))) rfl)
  have i14 : PySem.W.isFn K (.ref (He.ma K (He.ga K "Say") "__or__")) = true := c.fact 19 (b := PySem.W.isFn K (.ref (He.ma K (He.ga K "Say") "__or__"))) rfl
  have a15 : PySem.W.findIn K (.ref (He.ga K "Say")) "__xor__" = some (some (.ref (He.ma K (He.ga K "Say") "__xor__"))) := of_decide_eq_true (c.fact 20 (b := decide (PySem.W.findIn K (.ref (He.ga K "Say")) "__xor__" = some (some (.ref (He.ma K (He.ga K "Say") "__xor__"))))) rfl)
  have i15 : PySem.W.isFn K (.ref (He.ma K (He.ga K "Say") "__xor__")) = true := c.fact 21 (b := PySem.W.isFn K (.ref (He.ma K (He.ga K "Say") "__xor__"))) rfl
  have a16 : PySem.W.findIn K (.ref (He.ga K "Say")) "__invert__" = some (some (.ref (He.ma K (He.ga K "Say") "__invert__"))) := of_decide_eq_true (c.fact 22 (b := decide (PySem.W.findIn K (.ref (He.ga K "Say")) "__invert__" = some (some (.ref (He.ma K (He.ga K "Say") "__invert__"))))) rfl)
  have i16 : PySem.W.isFn K (.ref (He.ma K (He.ga K "Say") "__invert__")) = true := c.fact 23 (b := PySem.W.isFn K (.ref (He.ma K (He.ga K "Say") "__invert__"))) rfl
  have a19 : PySem.W.findIn K (.ref (He.ga K "Say")) "__eq__" = some (some (.ref (He.ma K (He.ga K "Say") "__eq__"))) := of_decide_eq_true (c.fact 24 (b := decide (PySem.W.findIn K (.ref (He.ga K "Say")) "__eq__" = some (some (.ref (He.ma K (He.ga K "Say") "__eq__"))))) rfl)
  have i19 : PySem.W.isFn K (.ref (He.ma K (He.ga K "Say") "__eq__")) = true := c.fact 25 (b := PySem.W.isFn K (.ref (He.ma K (He.ga K "Say") "__eq__"))) rfl
  have a20 : PySem.W.nsIn K mainGlobals "words_of" = some (some (.ref (He.ga K "words_of"))) := of_decide_eq_true (c.fact 26 (b := decide (PySem.W.nsIn K mainGlobals "words_of" = some (some (.ref (He.ga K "words_of"))))) rfl)
  have a21 : PySem.W.nsIn K mainGlobals "joined_say" = some (some (.ref (He.ga K "joined_say"))) := of_decide_eq_true (c.fact 27 (b := decide (PySem.W.nsIn K mainGlobals "joined_say" = some (some (.ref (He.ga K "joined_say"))))) rfl)
  have a22 : PySem.W.nsIn K mainGlobals "read_say" = some (some (.ref (He.ga K "read_say"))) := of_decide_eq_true (c.fact 28 (b := decide (PySem.W.nsIn K mainGlobals "read_say" = some (some (.ref (He.ga K "read_say"))))) rfl)
  have a23 : PySem.W.findIn K (.ref (He.ga K "Stack")) "__init__" = some (some (.ref (He.ma K (He.ga K "Stack") "__init__"))) := of_decide_eq_true (c.fact 29 (b := decide (PySem.W.findIn K (.ref (He.ga K "Stack")) "__init__" = some (some (.ref (He.ma K (He.ga K "Stack") "__init__"))))) rfl)
  have i23 : PySem.W.isFn K (.ref (He.ma K (He.ga K "Stack") "__init__")) = true := c.fact 30 (b := PySem.W.isFn K (.ref (He.ma K (He.ga K "Stack") "__init__"))) rfl
  have a24 : PySem.W.findIn K (.ref (He.ga K "Stack")) "close" = some (some (.ref (He.ma K (He.ga K "Stack") "close"))) := of_decide_eq_true (c.fact 31 (b := decide (PySem.W.findIn K (.ref (He.ga K "Stack")) "close" = some (some (.ref (He.ma K (He.ga K "Stack") "close"))))) rfl)
  have i24 : PySem.W.isFn K (.ref (He.ma K (He.ga K "Stack") "close")) = true := c.fact 32 (b := PySem.W.isFn K (.ref (He.ma K (He.ga K "Stack") "close"))) rfl
  have a25 : PySem.W.findIn K (.ref (He.ga K "Stack")) "work" = some (some (.ref (He.ma K (He.ga K "Stack") "work"))) := of_decide_eq_true (c.fact 33 (b := decide (PySem.W.findIn K (.ref (He.ga K "Stack")) "work" = some (some (.ref (He.ma K (He.ga K "Stack") "work"))))) rfl)
  have i25 : PySem.W.isFn K (.ref (He.ma K (He.ga K "Stack") "work")) = true := c.fact 34 (b := PySem.W.isFn K (.ref (He.ma K (He.ga K "Stack") "work"))) rfl
  have a26 : PySem.W.findIn K (.ref (He.ga K "Stack")) "add_value" = some (some (.ref (He.ma K (He.ga K "Stack") "add_value"))) := of_decide_eq_true (c.fact 35 (b := decide (PySem.W.findIn K (.ref (He.ga K "Stack")) "add_value" = some (some (.ref (He.ma K (He.ga K "Stack") "add_value"))))) rfl)
  have i26 : PySem.W.isFn K (.ref (He.ma K (He.ga K "Stack") "add_value")) = true := c.fact 36 (b := PySem.W.isFn K (.ref (He.ma K (He.ga K "Stack") "add_value"))) rfl
  have a27 : PySem.W.findIn K (.ref (He.ga K "Stack")) "add_sign" = some (some (.ref (He.ma K (He.ga K "Stack") "add_sign"))) := of_decide_eq_true (c.fact 37 (b := decide (PySem.W.findIn K (.ref (He.ga K "Stack")) "add_sign" = some (some (.ref (He.ma K (He.ga K "Stack") "add_sign"))))) rfl)
  have i27 : PySem.W.isFn K (.ref (He.ma K (He.ga K "Stack") "add_sign")) = true := c.fact 38 (b := PySem.W.isFn K (.ref (He.ma K (He.ga K "Stack") "add_sign"))) rfl
  have a28 : PySem.W.findIn K (.ref (He.ga K "Stack")) "result" = some (some (.ref (He.ma K (He.ga K "Stack") "result"))) := of_decide_eq_true (c.fact 39 (b := decide (PySem.W.findIn K (.ref (He.ga K "Stack")) "result" = some (some (.ref (He.ma K (He.ga K "Stack") "result"))))) rfl)
  have i28 : PySem.W.isFn K (.ref (He.ma K (He.ga K "Stack") "result")) = true := c.fact 40 (b := PySem.W.isFn K (.ref (He.ma K (He.ga K "Stack") "result"))) rfl
  have a29 : PySem.W.findIn K (.ref (He.ga K "BadText")) "__init__" = some (some (.ref (He.ma K (He.ga K "BadText") "__init__"))) := of_decide_eq_true (c.fact 41 (b := decide (PySem.W.findIn K (.ref (He.ga K "BadText")) "__init__" = some (some (.ref (He.ma K (He.ga K "BadText") "__init__"))))) rfl)
  have i29 : PySem.W.isFn K (.ref (He.ma K (He.ga K "BadText") "__init__")) = true := c.fact 42 (b := PySem.W.isFn K (.ref (He.ma K (He.ga K "BadText") "__init__"))) rfl
  have a30 : PySem.W.nsIn K mainGlobals "_law_box" = some (some (.ref (He.ga K "_law_box"))) := of_decide_eq_true (c.fact 43 (b := decide (PySem.W.nsIn K mainGlobals "_law_box" = some (some (.ref (He.ga K "_law_box"))))) rfl)
  have a31 : PySem.W.nsIn K mainGlobals "_law_take" = some (some (.ref (He.ga K "_law_take"))) := of_decide_eq_true (c.fact 44 (b := decide (PySem.W.nsIn K mainGlobals "_law_take" = some (some (.ref (He.ga K "_law_take"))))) rfl)
  have a32 : PySem.W.nsIn K mainGlobals "_law_pick" = some (some (.ref (He.ga K "_law_pick"))) := of_decide_eq_true (c.fact 45 (b := decide (PySem.W.nsIn K mainGlobals "_law_pick" = some (some (.ref (He.ga K "_law_pick"))))) rfl)
  have a33 : PySem.W.nsIn K mainGlobals "_law_words" = some (some (.ref (He.ga K "_law_words"))) := of_decide_eq_true (c.fact 46 (b := decide (PySem.W.nsIn K mainGlobals "_law_words" = some (some (.ref (He.ga K "_law_words"))))) rfl)
  have a34 : PySem.W.nsIn K mainGlobals "_law_gap" = some (some (.ref (He.ga K "_law_gap"))) := of_decide_eq_true (c.fact 47 (b := decide (PySem.W.nsIn K mainGlobals "_law_gap" = some (some (.ref (He.ga K "_law_gap"))))) rfl)
  have a35 : PySem.W.nsIn K mainGlobals "_law_expression" = some (some (.ref (He.ga K "_law_expression"))) := of_decide_eq_true (c.fact 48 (b := decide (PySem.W.nsIn K mainGlobals "_law_expression" = some (some (.ref (He.ga K "_law_expression"))))) rfl)
  have a36 : PySem.W.nsIn K mainGlobals "_law_parts" = some (some (.ref (He.ga K "_law_parts"))) := of_decide_eq_true (c.fact 49 (b := decide (PySem.W.nsIn K mainGlobals "_law_parts" = some (some (.ref (He.ga K "_law_parts"))))) rfl)
  have a37 : PySem.W.nsIn K mainGlobals "_law_level" = some (some (.ref (He.ga K "_law_level"))) := of_decide_eq_true (c.fact 50 (b := decide (PySem.W.nsIn K mainGlobals "_law_level" = some (some (.ref (He.ga K "_law_level"))))) rfl)
  have a38 : PySem.W.nsIn K mainGlobals "_law_single" = some (some (.ref (He.ga K "_law_single"))) := of_decide_eq_true (c.fact 51 (b := decide (PySem.W.nsIn K mainGlobals "_law_single" = some (some (.ref (He.ga K "_law_single"))))) rfl)
  have a39 : PySem.W.nsIn K mainGlobals "_law_due" = some (some (.ref (He.ga K "_law_due"))) := of_decide_eq_true (c.fact 52 (b := decide (PySem.W.nsIn K mainGlobals "_law_due" = some (some (.ref (He.ga K "_law_due"))))) rfl)
  have a40 : PySem.W.nsIn K mainGlobals "_law_tried" = some (some (.ref (He.ga K "_law_tried"))) := of_decide_eq_true (c.fact 53 (b := decide (PySem.W.nsIn K mainGlobals "_law_tried" = some (some (.ref (He.ga K "_law_tried"))))) rfl)
  have a41 : PySem.W.nsIn K mainGlobals "_law_bent" = some (some (.ref (He.ga K "_law_bent"))) := of_decide_eq_true (c.fact 54 (b := decide (PySem.W.nsIn K mainGlobals "_law_bent" = some (some (.ref (He.ga K "_law_bent"))))) rfl)
  have a42 : PySem.W.nsIn K mainGlobals "law" = some (some (.ref (He.ga K "law"))) := of_decide_eq_true (c.fact 55 (b := decide (PySem.W.nsIn K mainGlobals "law" = some (some (.ref (He.ga K "law"))))) rfl)
  have aC : PySem.W.nsIn K mainGlobals "Say" = some (some (.ref (He.ga K "Say"))) := of_decide_eq_true (c.fact 56 (b := decide (PySem.W.nsIn K mainGlobals "Say" = some (some (.ref (He.ga K "Say"))))) rfl)
  have pg : PySem.W.plainGet K (He.ga K "Say") Str.empty = true := c.fact 57 (b := PySem.W.plainGet K (He.ga K "Say") Str.empty) rfl
  have hd : PySem.W.hasDictIn K (He.ga K "Say") = true := c.fact 58 (b := PySem.W.hasDictIn K (He.ga K "Say")) rfl
  have po : PySem.W.plainOver K (He.ga K "Say") = true := c.fact 59 (b := PySem.W.plainOver K (He.ga K "Say")) rfl
  have sa : PySem.W.findIn K (.ref (He.ga K "Say")) "__setattr__" = some (some (.builtin "object.__setattr__")) := of_decide_eq_true (c.fact 60 (b := decide (PySem.W.findIn K (.ref (He.ga K "Say")) "__setattr__" = some (some (.builtin "object.__setattr__")))) rfl)
  have mk : PySem.W.makesIn K (He.ga K "Say") = true := c.fact 61 (b := PySem.W.makesIn K (He.ga K "Say")) rfl
  have kc : PySem.W.keepIn K (.ref (He.ga K "Say")) = true := c.fact 62 (b := PySem.W.keepIn K (.ref (He.ga K "Say"))) rfl
  have nN : PySem.W.findIn K (.ref (He.ga K "Say")) "names" = some none := of_decide_eq_true (c.fact 63 (b := decide (PySem.W.findIn K (.ref (He.ga K "Say")) "names" = some none)) rfl)
  have nP : PySem.W.findIn K (.ref (He.ga K "Say")) "points" = some none := of_decide_eq_true (c.fact 64 (b := decide (PySem.W.findIn K (.ref (He.ga K "Say")) "points" = some none)) rfl)
  obtain ⟨_, gL⟩ := isStr_ok (c.fact 65 (b := isStr (PySem.W.nsIn K mainGlobals "LETTERS") "abcdefghijklmnopqrstuvwxyz") rfl)
  obtain ⟨_, gM⟩ := isInt_ok (c.fact 66 (b := isInt (PySem.W.nsIn K mainGlobals "LONGEST") 8) rfl)
  have ic : PySem.W.findIn K (.ref (He.ga K "Say")) "__class__" = some (some (.builtin "object.__class__")) := of_decide_eq_true (c.fact 67 (b := decide (PySem.W.findIn K (.ref (He.ga K "Say")) "__class__" = some (some (.builtin "object.__class__")))) rfl)
  have isg : PySem.W.specialIn K (.builtin "object.__class__") "__get__" = some (some (.builtin "getset_descriptor.__get__")) := of_decide_eq_true (c.fact 68 (b := decide (PySem.W.specialIn K (.builtin "object.__class__") "__get__" = some (some (.builtin "getset_descriptor.__get__")))) rfl)
  have itk : PySem.W.takesIn K (.builtin "object.__class__") = some true := of_decide_eq_true (c.fact 69 (b := decide (PySem.W.takesIn K (.builtin "object.__class__") = some true)) rfl)
  have imr : PySem.W.mroIn K (He.ga K "Say") (.type "object") = some true := of_decide_eq_true (c.fact 70 (b := decide (PySem.W.mroIn K (He.ga K "Say") (.type "object") = some true)) rfl)
  have sf : PySem.W.selfFirst K (He.ga K "Say") = true := c.fact 71 (b := PySem.W.selfFirst K (He.ga K "Say")) rfl
  have nf : PySem.W.notFirst K (He.ga K "Say") (.ref (He.ga K "Say")) = true := c.fact 72 (b := PySem.W.notFirst K (He.ga K "Say") (.ref (He.ga K "Say"))) rfl
  have ne : PySem.W.findIn K (.ref (He.ga K "Say")) "__ne__" = some (some (.builtin "object.__ne__")) := of_decide_eq_true (c.fact 73 (b := decide (PySem.W.findIn K (.ref (He.ga K "Say")) "__ne__" = some (some (.builtin "object.__ne__")))) rfl)
  have so : PySem.W.subIn K (.ref (He.ga K "Say")) (.type "object") = some true := of_decide_eq_true (c.fact 74 (b := decide (PySem.W.subIn K (.ref (He.ga K "Say")) (.type "object") = some true)) rfl)
  have rd : PySem.W.readsIn K (He.ga K "Say") (.type "type") = true := c.fact 75 (b := PySem.W.readsIn K (He.ga K "Say") (.type "type")) rfl
  have rg : PySem.W.specialIn K (.ref (He.ga K "Say")) "__getattribute__" = some (some (.builtin "type.__getattribute__")) := of_decide_eq_true (c.fact 76 (b := decide (PySem.W.specialIn K (.ref (He.ga K "Say")) "__getattribute__" = some (some (.builtin "type.__getattribute__")))) rfl)
  have aK : PySem.W.nsIn K mainGlobals "Stack" = some (some (.ref (He.ga K "Stack"))) := of_decide_eq_true (c.fact 77 (b := decide (PySem.W.nsIn K mainGlobals "Stack" = some (some (.ref (He.ga K "Stack"))))) rfl)
  have pgK : PySem.W.plainGet K (He.ga K "Stack") Str.empty = true := c.fact 78 (b := PySem.W.plainGet K (He.ga K "Stack") Str.empty) rfl
  have hdK : PySem.W.hasDictIn K (He.ga K "Stack") = true := c.fact 79 (b := PySem.W.hasDictIn K (He.ga K "Stack")) rfl
  have poK : PySem.W.plainOver K (He.ga K "Stack") = true := c.fact 80 (b := PySem.W.plainOver K (He.ga K "Stack")) rfl
  have saK : PySem.W.findIn K (.ref (He.ga K "Stack")) "__setattr__" = some (some (.builtin "object.__setattr__")) := of_decide_eq_true (c.fact 81 (b := decide (PySem.W.findIn K (.ref (He.ga K "Stack")) "__setattr__" = some (some (.builtin "object.__setattr__")))) rfl)
  have mkK : PySem.W.makesIn K (He.ga K "Stack") = true := c.fact 82 (b := PySem.W.makesIn K (He.ga K "Stack")) rfl
  have kcK : PySem.W.keepIn K (.ref (He.ga K "Stack")) = true := c.fact 83 (b := PySem.W.keepIn K (.ref (He.ga K "Stack"))) rfl
  have nK0 : PySem.W.findIn K (.ref (He.ga K "Stack")) "ranks" = some none := of_decide_eq_true (c.fact 84 (b := decide (PySem.W.findIn K (.ref (He.ga K "Stack")) "ranks" = some none)) rfl)
  have nK1 : PySem.W.findIn K (.ref (He.ga K "Stack")) "prefix" = some none := of_decide_eq_true (c.fact 85 (b := decide (PySem.W.findIn K (.ref (He.ga K "Stack")) "prefix" = some none)) rfl)
  have nK2 : PySem.W.findIn K (.ref (He.ga K "Stack")) "suffix" = some none := of_decide_eq_true (c.fact 86 (b := decide (PySem.W.findIn K (.ref (He.ga K "Stack")) "suffix" = some none)) rfl)
  have nK3 : PySem.W.findIn K (.ref (He.ga K "Stack")) "makes" = some none := of_decide_eq_true (c.fact 87 (b := decide (PySem.W.findIn K (.ref (He.ga K "Stack")) "makes" = some none)) rfl)
  have nK4 : PySem.W.findIn K (.ref (He.ga K "Stack")) "held" = some none := of_decide_eq_true (c.fact 88 (b := decide (PySem.W.findIn K (.ref (He.ga K "Stack")) "held" = some none)) rfl)
  have nK5 : PySem.W.findIn K (.ref (He.ga K "Stack")) "waiting" = some none := of_decide_eq_true (c.fact 89 (b := decide (PySem.W.findIn K (.ref (He.ga K "Stack")) "waiting" = some none)) rfl)
  have nK6 : PySem.W.findIn K (.ref (He.ga K "Stack")) "is_open" = some none := of_decide_eq_true (c.fact 90 (b := decide (PySem.W.findIn K (.ref (He.ga K "Stack")) "is_open" = some none)) rfl)
  have icK : PySem.W.findIn K (.ref (He.ga K "Stack")) "__class__" = some (some (.builtin "object.__class__")) := of_decide_eq_true (c.fact 91 (b := decide (PySem.W.findIn K (.ref (He.ga K "Stack")) "__class__" = some (some (.builtin "object.__class__")))) rfl)
  have imrK : PySem.W.mroIn K (He.ga K "Stack") (.type "object") = some true := of_decide_eq_true (c.fact 92 (b := decide (PySem.W.mroIn K (He.ga K "Stack") (.type "object") = some true)) rfl)
  have aU : PySem.W.nsIn K mainGlobals "BadText" = some (some (.ref (He.ga K "BadText"))) := of_decide_eq_true (c.fact 93 (b := decide (PySem.W.nsIn K mainGlobals "BadText" = some (some (.ref (He.ga K "BadText"))))) rfl)
  have aDE : PySem.W.nsIn K mainGlobals "DeedError" = some (some (.ref (He.ga K "DeedError"))) := of_decide_eq_true (c.fact 94 (b := decide (PySem.W.nsIn K mainGlobals "DeedError" = some (some (.ref (He.ga K "DeedError"))))) rfl)
  obtain ⟨_, _, _, _, _, _, _, _, _, _, _, _, _, _, xU⟩ := isExcO_ok (c.fact 95 (b := isExcO (K.lookup (He.ga K "BadText")) (He.ga K "BadText") [.ref (He.ga K "DeedError"), .type "ValueError", .type "Exception", .type "BaseException", .type "object"]) rfl)
  have saU : PySem.W.findIn K (.ref (He.ga K "BadText")) "__setattr__" = some (some (.builtin "object.__setattr__")) := of_decide_eq_true (c.fact 96 (b := decide (PySem.W.findIn K (.ref (He.ga K "BadText")) "__setattr__" = some (some (.builtin "object.__setattr__")))) rfl)
  have exU : PySem.W.subIn K (.ref (He.ga K "BadText")) (.type "BaseException") = some true := of_decide_eq_true (c.fact 97 (b := decide (PySem.W.subIn K (.ref (He.ga K "BadText")) (.type "BaseException") = some true)) rfl)
  have tyU : PySem.W.typeIn K (.ref (He.ga K "BadText")) = some (.type "type") := of_decide_eq_true (c.fact 98 (b := decide (PySem.W.typeIn K (.ref (He.ga K "BadText")) = some (.type "type"))) rfl)
  have kcU : PySem.W.keepIn K (.ref (He.ga K "BadText")) = true := c.fact 99 (b := PySem.W.keepIn K (.ref (He.ga K "BadText"))) rfl
  have clU : PySem.W.isClsIn K (He.ga K "BadText") = true := c.fact 100 (b := PySem.W.isClsIn K (He.ga K "BadText")) rfl
  have suU : PySem.W.subIn K (.ref (He.ga K "BadText")) (.ref (He.ga K "BadText")) = some true := of_decide_eq_true (c.fact 101 (b := decide (PySem.W.subIn K (.ref (He.ga K "BadText")) (.ref (He.ga K "BadText")) = some true)) rfl)
  have tfU : PySem.W.typeIn K (.ref (He.ma K (He.ga K "BadText") "__init__")) = some (.type "function") := of_decide_eq_true (c.fact 102 (b := decide (PySem.W.typeIn K (.ref (He.ma K (He.ga K "BadText") "__init__")) = some (.type "function"))) rfl)
  have rdD : PySem.W.readsIn K (He.ga K "DeedError") (.type "type") = true := c.fact 103 (b := PySem.W.readsIn K (He.ga K "DeedError") (.type "type")) rfl
  have rgD : PySem.W.specialIn K (.ref (He.ga K "DeedError")) "__getattribute__" = some (some (.builtin "type.__getattribute__")) := of_decide_eq_true (c.fact 104 (b := decide (PySem.W.specialIn K (.ref (He.ga K "DeedError")) "__getattribute__" = some (some (.builtin "type.__getattribute__")))) rfl)
  have fcD := isVal_ok (c.fact 105 (b := isVal (PySem.W.findCls K (.ref (He.ga K "DeedError")) (.type "type") "__init__") (.builtin "ValueError.__init__")) rfl)
  have aSR : PySem.W.nsIn K mainGlobals "SAY_RANKS" = some (some (.ref (He.ga K "SAY_RANKS"))) := of_decide_eq_true (c.fact 106 (b := decide (PySem.W.nsIn K mainGlobals "SAY_RANKS" = some (some (.ref (He.ga K "SAY_RANKS"))))) rfl)
  have dwR : He.dicW K (He.ga K "SAY_RANKS") = some (He.keysIn w.params ["&", "^", "|"]) := c.tab 0 (t := (fun K => (He.ga K "SAY_RANKS"), ["&", "^", "|"])) rfl
  have suS : PySem.W.subIn K (.ref (He.ga K "Say")) (.type "str") = some false := of_decide_eq_true (c.fact 107 (b := decide (PySem.W.subIn K (.ref (He.ga K "Say")) (.type "str") = some false)) rfl)
  obtain ⟨_, zr0⟩ := isInt_ok (c.fact 108 (b := isInt (PySem.W.nsIn K (He.ga K "SAY_RANKS") "&") 2) rfl)
  obtain ⟨_, zr1⟩ := isInt_ok (c.fact 109 (b := isInt (PySem.W.nsIn K (He.ga K "SAY_RANKS") "^") 1) rfl)
  obtain ⟨_, zr2⟩ := isInt_ok (c.fact 110 (b := isInt (PySem.W.nsIn K (He.ga K "SAY_RANKS") "|") 0) rfl)
  have z_len : PySem.W.nsIn K mainGlobals "len" = some none := of_decide_eq_true (c.fact 111 (b := decide (PySem.W.nsIn K mainGlobals "len" = some none)) rfl)
  have z_sorted : PySem.W.nsIn K mainGlobals "sorted" = some none := of_decide_eq_true (c.fact 112 (b := decide (PySem.W.nsIn K mainGlobals "sorted" = some none)) rfl)
  have z_set : PySem.W.nsIn K mainGlobals "set" = some none := of_decide_eq_true (c.fact 113 (b := decide (PySem.W.nsIn K mainGlobals "set" = some none)) rfl)
  have z_str : PySem.W.nsIn K mainGlobals "str" = some none := of_decide_eq_true (c.fact 114 (b := decide (PySem.W.nsIn K mainGlobals "str" = some none)) rfl)
  have z_int : PySem.W.nsIn K mainGlobals "int" = some none := of_decide_eq_true (c.fact 115 (b := decide (PySem.W.nsIn K mainGlobals "int" = some none)) rfl)
  have z_tuple : PySem.W.nsIn K mainGlobals "tuple" = some none := of_decide_eq_true (c.fact 116 (b := decide (PySem.W.nsIn K mainGlobals "tuple" = some none)) rfl)
  have z_list : PySem.W.nsIn K mainGlobals "list" = some none := of_decide_eq_true (c.fact 117 (b := decide (PySem.W.nsIn K mainGlobals "list" = some none)) rfl)
  have z_any : PySem.W.nsIn K mainGlobals "any" = some none := of_decide_eq_true (c.fact 118 (b := decide (PySem.W.nsIn K mainGlobals "any" = some none)) rfl)
  have z_all : PySem.W.nsIn K mainGlobals "all" = some none := of_decide_eq_true (c.fact 119 (b := decide (PySem.W.nsIn K mainGlobals "all" = some none)) rfl)
  have z_isinstance : PySem.W.nsIn K mainGlobals "isinstance" = some none := of_decide_eq_true (c.fact 120 (b := decide (PySem.W.nsIn K mainGlobals "isinstance" = some none)) rfl)
  have z_range : PySem.W.nsIn K mainGlobals "range" = some none := of_decide_eq_true (c.fact 121 (b := decide (PySem.W.nsIn K mainGlobals "range" = some none)) rfl)
  have z_zip : PySem.W.nsIn K mainGlobals "zip" = some none := of_decide_eq_true (c.fact 122 (b := decide (PySem.W.nsIn K mainGlobals "zip" = some none)) rfl)
  have z_bool : PySem.W.nsIn K mainGlobals "bool" = some none := of_decide_eq_true (c.fact 123 (b := decide (PySem.W.nsIn K mainGlobals "bool" = some none)) rfl)
  have z_dict : PySem.W.nsIn K mainGlobals "dict" = some none := of_decide_eq_true (c.fact 124 (b := decide (PySem.W.nsIn K mainGlobals "dict" = some none)) rfl)
  have z_enumerate : PySem.W.nsIn K mainGlobals "enumerate" = some none := of_decide_eq_true (c.fact 125 (b := decide (PySem.W.nsIn K mainGlobals "enumerate" = some none)) rfl)
  have z_repr : PySem.W.nsIn K mainGlobals "repr" = some none := of_decide_eq_true (c.fact 126 (b := decide (PySem.W.nsIn K mainGlobals "repr" = some none)) rfl)
  exact all_mk X G hfa a1 l1 c1 k1 a2 l2 c2 k2 a3 l3 c3 k3 a4 l4 c4 k4 a5 l5 c5 k5 a6 l6 c6 k6 a7 i7 l7 c7 k7 a8 i8 l8 c8 k8 a9 i9 l9 c9 k9 a10 i10 l10 c10 k10 a11 i11 l11 c11 k11 a13 i13 l13 c13 k13 a14 i14 l14 c14 k14 a15 i15 l15 c15 k15 a16 i16 l16 c16 k16 a19 i19 l19 c19 k19 a20 l20 c20 k20 a21 l21 c21 k21 a22 l22 c22 k22 a23 i23 l23 c23 k23 a24 i24 l24 c24 k24 a25 i25 l25 c25 k25 a26 i26 l26 c26 k26 a27 i27 l27 c27 k27 a28 i28 l28 c28 k28 a29 i29 l29 c29 k29 a30 l30 c30 k30 a31 l31 c31 k31 a32 l32 c32 k32 a33 l33 c33 k33 a34 l34 c34 k34 a35 l35 c35 k35 a36 l36 c36 k36 a37 l37 c37 k37 a38 l38 c38 k38 a39 l39 c39 k39 a40 l40 c40 k40 a41 l41 c41 k41 a42 l42 c42 k42 aC pg hd po sa mk kc nN nP gL gM ic isg itk imr sf nf ne so rd rg aK pgK hdK poK saK mkK kcK nK0 nK1 nK2 nK3 nK4 nK5 nK6 icK imrK aU aDE xU saU exU tyU kcU clU suU tfU rdD rgD fcD aSR dwR suS zr0 zr1 zr2 z_len z_sorted z_set z_str z_int z_tuple z_list z_any z_all z_isinstance z_range z_zip z_bool z_dict z_enumerate z_repr
end Du
open PySem PySem.W PySem.Calls PyProof.Rows
theorem PySem.Challenge.cw_deedmeanings_k57_texts_of_says_refused_holds : PySem.Challenge.rw_deedmeanings_k57_texts_of_says_refused.Holds := by
  w_on; o_law
  refine HandSHeadRun.head_any (r := OpenLaw.row PySem.Challenge.rw_deedmeanings_k57_texts_of_says_refused) (q := view (OpenLaw.row PySem.Challenge.rw_deedmeanings_k57_texts_of_says_refused).prog [37]) (H := Du.hk) (ob := Du.ob) (M := 12000) (loose := Du.looseL) (d := HandSHeadRun.topDef (OpenLaw.row PySem.Challenge.rw_deedmeanings_k57_texts_of_says_refused).prog 37) (kwd := []) Du.ob_eq
    (by kernel_rfl) (fun s => by kernel_rfl) Du.theRun (by kernel_rfl) (by kernel_rfl) (by kernel_rfl) (by rfl) (by first | assumption | decide +kernel) (by decide +kernel) ⟨rfl, rfl, rfl, rfl, rfl, by decide +kernel⟩ ?hw ?hc
  case hw => w_witness2
  case hc =>
    refine Du.walk (l := PySem.Challenge.rw_deedmeanings_k57_texts_of_says_refused) rfl (by kernel_rfl) ?F
    intro w mg fa h Y G hmg0
    obtain ⟨K, KX, c⟩ := Y
    have hmg : mg ("law" : PySem.Str) = some (.ref fa) := by
      have e : (HandSHeadRun.topDef (OpenLaw.row PySem.Challenge.rw_deedmeanings_k57_texts_of_says_refused).prog 37).name = ("law" : PySem.Str) := by kernel_rfl
      rw [← e]
      exact hmg0
    exact ⟨K, KX, Du.made KX G hmg c⟩
