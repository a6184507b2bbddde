import PyProof.Rows.All
import Wide.All
import OpenK.AllK
import Wide.FinOn
import HandS.ForMost
import KE.KeyNested
import KE.KDictKeyed
import HandS.Codes
import HandS.Zip
import HandS.Star
import HandS.Walk
import HandS.TupAny
import HandS.Style
import HandS.Conv
import HandS.RaiseMore
import HandS.Deep
import HandS.IsInst
import HandS.Flow
import HandS.Strs
import HandS.SetFor
import HandS.DictComp
import HandS.More
import HandS.ClsMeth
import HandS.SlotsOwn
import KE.KOpsOwn
import HandS.Lambda
import KE.KDictPairs
import HandS.DictEq
import KE.KDictList
import KE.KDictZip
import PyProof.DictUpdate
import PyProof.SetRoads
import KE.GoesEnum
import HandS.Iter
import PyProof.ReprRoads
import PyProof.ReprLen
import HandS.Ends
import HandS.Defaults
import HandS.NoneIn
import KE.KDictWalk
import HandS.OwnEq
import HandS.EndTab
import HandS.WordsExc
import HandS.TryMany
import HandS.ExcInit
import HandS.ExcField
import PySem.Challenge.RW_deedmeanings_k06_says_refused
set_option Elab.async false
set_option linter.all false
set_option maxRecDepth 100000
set_option maxHeartbeats 4000000
namespace Du
open PySem L2 PySem.Spec PyProof.Rows
/-! dicts whose keys are tuples of tuples: entries (key, where its tuple stands, value) -/
abbrev NEs := List (NestedKey × Addr × V)
def NPr (es : NEs) (xs : List (NestedKey × Addr × Value)) : Prop := Paired (fun (e : NestedKey × Addr × V) (x : NestedKey × Addr × Value) => e.1 = x.1 ∧ e.2.1 = x.2.1 ∧ RelV e.2.2 x.2.2) es xs
def NDat (hf : NestedKey → Int) (a : Addr) (es : NEs) (h : Heap) : Prop := (a == sysModules) = false ∧ es.length ≤ sizeLine ∧ ∃ xs, NPr es xs ∧ ∃ o ee ep, h.get? a = some o ∧ o.ExactDict ∧ o.data = .dict ee ep ∧ ee.toList = xs.map (fun x => ⟨hf x.1, .ref x.2.1, x.2.2⟩) ∧ (xs.map (·.1)).Nodup
/-- the dict at a, its object o being known -/
def NDO (hf : NestedKey → Int) (a : Addr) (es : NEs) (o : Obj) : HO := .ext fun h => h.get? a = some o ∧ NDat hf a es h
theorem NDat.at' {hf : NestedKey → Int} {a : Addr} {es : NEs} {h h' : Heap} (x : NDat hf a es h) (k : ∀ o, h.get? a = some o → h'.get? a = some o) : NDat hf a es h' := by
  obtain ⟨h1, h2, xs, h3, o, ee, ep, h4, h5⟩ := x
  exact ⟨h1, h2, xs, h3, o, ee, ep, k o h4, h5⟩
theorem NDat.ok {P : Program} {w : World} {H : Hp} {hf : NestedKey → Int} {a : Addr} {es : NEs} {h : Heap} {o : Obj} (x : NDat hf a es h) (ho : h.get? a = some o) : ObjOk P w H h a (NDO hf a es o) :=
  ⟨⟨ho, x⟩, ⟨o, ho⟩, fun _ _ y k => ⟨k _ y.1, y.2.at' k⟩⟩
theorem NDO.inj {hf : NestedKey → Int} {a : Addr} {es : NEs} {P : Program} {w : World} {H : Hp} {h : Heap} {o : Obj} (ok : HOk P w H h) (e : H a = some (NDO hf a es o)) : NDat hf a es h := (show ObjOk P w H h a (NDO hf a es o) from ok a _ e).1.2
theorem NDO.obj {hf : NestedKey → Int} {a : Addr} {es : NEs} {P : Program} {w : World} {H : Hp} {h : Heap} {o : Obj} (ok : HOk P w H h) (e : H a = some (NDO hf a es o)) : h.get? a = some o := (show ObjOk P w H h a (NDO hf a es o) from ok a _ e).1.1
/-! a tracked value is a key -/
mutual
inductive NkV (H : Hp) : NestedKey → V → Prop
  | non : NkV H .none .non
  | int (i : Int) : NkV H (.num i) (.int i)
  | str (s : Str) : NkV H (.text s) (.str s)
  | tup {a : Addr} {ks : List NestedKey} {vs : List V} : H a = some (.tup vs) → NkVs H ks vs → NkV H (.tup ks) (.ref a)
inductive NkVs (H : Hp) : List NestedKey → List V → Prop
  | nil : NkVs H [] []
  | cons {k : NestedKey} {v : V} {ks : List NestedKey} {vs : List V} : NkV H k v → NkVs H ks vs → NkVs H (k :: ks) (v :: vs)
end
mutual
theorem NkV.is {P : Program} {w : World} {H : Hp} {h : Heap} (ok : HOk P w H h) : ∀ {k : NestedKey} {v : V} {u : Value}, NkV H k v → RelV v u → NestedIs h k u
  | _, _, _, .non, r => by cases (show _ = Value.none from r); exact .none
  | _, _, _, .int i, r => by obtain ⟨t, rfl⟩ := (show ∃ t, _ = Value.int i t from r); exact .int i t
  | _, _, _, .str s, r => by obtain ⟨t, rfl⟩ := (show ∃ t, _ = Value.str s t from r); exact .text s t
  | _, _, _, .tup (a := a) (vs := vs) e ks, r => by
    cases (show _ = Value.ref a from r)
    obtain ⟨_, its, rv, o, h1, h2, n, h3⟩ := (show ObjOk P w H h a (.tup vs) from ok a _ e)
    exact .tup h1 h2 h3 (NkVs.is ok ks (by simpa using rv))
theorem NkVs.is {P : Program} {w : World} {H : Hp} {h : Heap} (ok : HOk P w H h) : ∀ {ks : List NestedKey} {vs : List V} {us : List Value}, NkVs H ks vs → Vals vs us → NestedAll h ks us
  | _, _, _, .nil, r => by cases r; exact .nil
  | _, _, _, .cons k ks, r => by cases r with
    | cons r rs => exact .cons (NkV.is ok k r) (NkVs.is ok ks rs)
end
/-- all keys stand, none is deep -/
def NKeys (H : Hp) (es : NEs) : Prop := ∀ e ∈ es, NkV H e.1 (.ref e.2.1) ∧ e.1.depth ≤ 8
def nval (es : NEs) (k : NestedKey) : Option V := (es.find? fun e => decide (e.1 = k)).map (·.2.2)
def nput (es : NEs) (k : NestedKey) (b : Addr) (v : V) : NEs := if (es.any fun e => decide (e.1 = k)) = true then es.map (fun e => if e.1 = k then (e.1, e.2.1, v) else e) else es ++ [(k, b, v)]
section
variable {P : Program} {w : World} {H : Hp} {h : Heap} {a : Addr} {es : NEs}
theorem NPr.val {xs : List (NestedKey × Addr × Value)} (r : NPr es xs) (k : NestedKey) : RelO (nval es k) ((atKey xs k).map (·.2)) := by
  unfold NPr at r
  induction r with
  | nil => trivial
  | @cons e x es xs hx t ih =>
    obtain ⟨h1, h2, h3⟩ := hx
    unfold nval atKey at ih ⊢
    rw [List.find?_cons, List.find?_cons, ← h1]
    by_cases q : e.1 = k
    · simp only [q, decide_true]; exact h3
    · simp only [q, decide_false]; exact ih
theorem NPr.any {xs : List (NestedKey × Addr × Value)} (r : NPr es xs) (k : NestedKey) : (es.any fun e => decide (e.1 = k)) = (atKey xs k).isSome := by
  unfold NPr at r
  induction r with
  | nil => rfl
  | @cons e x es xs hx t ih =>
    unfold atKey at ih ⊢
    rw [List.any_cons, List.find?_cons, ← hx.1, ih]
    by_cases q : e.1 = k
    · simp [q]
    · simp [q]
theorem NPr.put {xs : List (NestedKey × Addr × Value)} (r : NPr es xs) (k : NestedKey) (b : Addr) {v : V} {u : Value} (rv : RelV v u) : NPr (nput es k b v) (storedH xs k b u) := by
  unfold nput storedH
  rw [r.any k]
  split
  · have repl : ∀ {es : NEs} {xs : List (NestedKey × Addr × Value)}, NPr es xs → NPr (es.map fun e => if e.1 = k then (e.1, e.2.1, v) else e) (xs.map (putAt k u)) := fun {es xs} r => by
      unfold NPr at r ⊢
      induction r with
      | nil => exact .nil
      | @cons e x es xs hx t ih =>
        obtain ⟨h1, h2, h3⟩ := hx
        rw [List.map_cons, List.map_cons]
        refine .cons ?_ ih
        unfold putAt
        by_cases q : e.1 = k
        · rw [if_pos q, if_pos (by rw [← h1]; exact q)]; exact ⟨h1, h2, rv⟩
        · rw [if_neg q, if_neg (by rw [← h1]; exact q)]; exact ⟨h1, h2, h3⟩
    exact repl r
  · have app : ∀ {es : NEs} {xs : List (NestedKey × Addr × Value)}, NPr es xs → NPr (es ++ [(k, b, v)]) (xs ++ [(k, b, u)]) := fun {es xs} r => by
      unfold NPr at r ⊢
      induction r with
      | nil => exact .cons ⟨rfl, rfl, rv⟩ .nil
      | cons hx t ih => exact .cons hx ih
    exact app r
theorem NPr.len {xs : List (NestedKey × Addr × Value)} (r : NPr es xs) : es.length = xs.length := Paired.length r
theorem nput_len (es : NEs) (k : NestedKey) (b : Addr) (v : V) : (nput es k b v).length ≤ es.length + 1 := by
  unfold nput; split <;> simp
theorem NDat.dictH (ok : HOk P w H h) (x : NDat (fun k => k.hash w) a es h) (ks : NKeys H es) : es.length ≤ sizeLine ∧ (a == sysModules) = false ∧ ∃ xs, NPr es xs ∧ h.DictOfH (nestedKind P w) a xs := by
  obtain ⟨h1, h2, xs, h3, o, ee, ep, h4, h5, h6, h7, h8⟩ := x
  refine ⟨h2, h1, xs, h3, o, ee, ep, h4, h5, h6, h7, ?_, h8⟩
  have all : ∀ {es : NEs} {xs : List (NestedKey × Addr × Value)}, NPr es xs → NKeys H es → ∀ x ∈ xs, (nestedKind P w).is h x.1 x.2.1 := fun {es xs} r => by
    unfold NPr at r
    induction r with
    | nil => intro _ x hx; cases hx
    | @cons e x es xs hx t ih =>
      intro ks y hy
      rcases List.mem_cons.mp hy with rfl | hy
      · obtain ⟨k1, k2⟩ := ks e List.mem_cons_self
        rw [← hx.1, ← hx.2.1]
        exact ⟨k1.is ok rfl, k2⟩
      · exact ih (fun e' he => ks e' (List.mem_cons_of_mem _ he)) y hy
  exact all h3 ks
end
/-- what the dict at a holds at the key that stands at b -/
def NGet (w : World) (H : Hp) (x y : V) (o : Option V) : Prop := ∃ (a b : Addr) (es : NEs) (k : NestedKey) (ob : Obj), x = .ref a ∧ y = .ref b ∧ H a = some (NDO (fun k => k.hash w) a es ob) ∧ NKeys H es ∧ NkV H k (.ref b) ∧ k.depth ≤ 8 ∧ o = nval es k
section
variable {X : Cx} {pins : List (Addr × Obj)} {σ : L2.St} {H : Hp} {s : Shared} {x y v : V} {u r q0 : Value} {o : Option V} {A : Around} {E : Value → Shared → Prop}
theorem n_room (hu : A.units + 20 < cLine) : (nestedKind X.prog X.w).room A.in1 := show A.units + 1 + 8 < cLine by omega
theorem n_getItem {Q : Value → Shared → Prop} (hu : A.units + 20 < cLine) (I : Inv X pins σ H s) (g : NGet X.w H x y (some v)) (rx : RelV x r) (ry : RelV y u) (h : ∀ w' s', Inv X pins σ H s' → RelV v w' → Q w' s') :
    s.TypeIs r "dict" ∧ wpAny (model X.prog X.w) A (getItem r u) Q E s := by
  obtain ⟨a, b, es, k, ob, rfl, rfl, ha, ks, kb, kd, e⟩ := g
  cases (show r = Value.ref a from rx)
  cases (show u = Value.ref b from ry)
  obtain ⟨z, hd, xs, rel, dd⟩ := (NDO.inj I.hok ha).dictH I.hok ks
  obtain ⟨w', hw, rw'⟩ := RelO.some_of (v := v) (o := (atKey xs k).map (·.2)) (by rw [e]; exact rel.val k)
  obtain ⟨p, hp, hp2⟩ := Option.map_eq_some_iff.mp hw
  refine ⟨dd.typeIs, wpAny_getItem_heap (knd := nestedKind X.prog X.w) (n_room hu) ⟨kb.is I.hok rfl, kd⟩ dd hp ?_⟩
  rw [hp2]
  exact h w' _ (I.tok _) rw'
theorem n_in {Q : Value → Shared → Prop} (hu : A.units + 20 < cLine) (I : Inv X pins σ H s) (g : NGet X.w H x y o) (rx : RelV x r) (ry : RelV y u) (h : ∀ s', Inv X pins σ H s' → Q (.bool o.isSome) s') :
    wpAny (model X.prog X.w) A (compareOp .In u r) Q E s := by
  obtain ⟨a, b, es, k, ob, rfl, rfl, ha, ks, kb, kd, e⟩ := g
  cases (show r = Value.ref a from rx)
  cases (show u = Value.ref b from ry)
  obtain ⟨z, hd, xs, rel, dd⟩ := (NDO.inj I.hok ha).dictH I.hok ks
  refine wpAny_in_heap (knd := nestedKind X.prog X.w) (n_room hu) ⟨kb.is I.hok rfl, kd⟩ hd dd ?_
  have q := (rel.val k).isSome_eq
  rw [Option.isSome_map] at q
  rw [← q, ← e]
  exact h _ (I.tok _)
theorem n_notIn {Q : Value → Shared → Prop} (hu : A.units + 20 < cLine) (I : Inv X pins σ H s) (g : NGet X.w H x y o) (rx : RelV x r) (ry : RelV y u) (h : ∀ s', Inv X pins σ H s' → Q (.bool (!o.isSome)) s') :
    wpAny (model X.prog X.w) A (compareOp .NotIn u r) Q E s := by
  obtain ⟨a, b, es, k, ob, rfl, rfl, ha, ks, kb, kd, e⟩ := g
  cases (show r = Value.ref a from rx)
  cases (show u = Value.ref b from ry)
  obtain ⟨z, hd, xs, rel, dd⟩ := (NDO.inj I.hok ha).dictH I.hok ks
  refine wpAny_notIn_heap (knd := nestedKind X.prog X.w) (n_room hu) ⟨kb.is I.hok rfl, kd⟩ hd dd ?_
  have q := (rel.val k).isSome_eq
  rw [Option.isSome_map] at q
  rw [← q, ← e]
  exact h _ (I.tok _)
theorem n_setItem {a b : Addr} {es : NEs} {k : NestedKey} {ob : Obj} {Q : Unit → Shared → Prop} (hu : A.units + 20 < cLine) (I : Inv X pins σ H s) (ha : H a = some (NDO (fun k => k.hash X.w) a es ob)) (ks : NKeys H es) (kb : NkV H k (.ref b)) (kd : k.depth ≤ 8) (hz : es.length < sizeLine) (rv : RelV v r)
    (h : ∀ s' o', Inv X pins σ (upd H a (NDO (fun k => k.hash X.w) a (nput es k b v) o')) s' → Q () s') : wpAny (model X.prog X.w) A (setItem (.ref a) (.ref b) r) Q E s := by
  obtain ⟨z, hd, xs, rel, dd⟩ := (NDO.inj I.hok ha).dictH I.hok ks
  refine wpAny_setItem_heap (knd := nestedKind X.prog X.w) (hsz := by rw [← rel.len]; exact z) (n_room hu) ⟨kb.is I.hok rfl, kd⟩ dd fun h' dd' hs => ?_
  obtain ⟨q, ee, ep, hq, h2, h3, h4, _, h5⟩ := dd'
  refine h _ q ?_
  refine d_write I (by rw [ha]; exact True.intro) hs ⟨q, hq⟩ (NDat.ok ⟨hd, ?_, _, rel.put k b rv, q, ee, ep, hq, h2, h3, h4, h5⟩ hq)
  have := nput_len es k b v
  omega
end
/-! readings and rules -/
def tNGet (w : World) (td ty : TE) : TE := fun σ H Q => td σ H fun x H1 => ty σ H1 fun y H2 => ∃ v, NGet w H2 x y (some v) ∧ Q v H2
def tNIn (w : World) (ty td : TE) : TE := fun σ H Q => ty σ H fun y H1 => td σ H1 fun x H2 => ∃ o, NGet w H2 x y o ∧ Q (.bl o.isSome) H2
def tNNotIn (w : World) (ty td : TE) : TE := fun σ H Q => ty σ H fun y H1 => td σ H1 fun x H2 => ∃ o, NGet w H2 x y o ∧ Q (.bl (!o.isSome)) H2
def sNPut (w : World) (td ty tv : TE) : TS := fun D σ H => tv σ H fun v H1 => td σ H1 fun x H2 => ty σ H2 fun y H3 => ∃ (a b : Addr) (es : NEs) (k : NestedKey) (ob : Obj), x = .ref a ∧ y = .ref b ∧ H3 a = some (NDO (fun k => k.hash w) a es ob) ∧ NKeys H3 es ∧ NkV H3 k (.ref b) ∧ k.depth ≤ 8 ∧ es.length < sizeLine ∧ ∀ o', D.nx σ (upd H3 a (NDO (fun k => k.hash w) a (nput es k b v) o'))
def tDNewN (w : World) : TE := fun _ H Q => ∀ p o, H p = none → Q (.ref p) (upd H p (NDO (fun k => k.hash w) p [] o))
section
variable {X : Cx} {w : World} {o i e value : Expr} {pos pos' tpos : Pos} {td ty tv : TE}
theorem pe_nget {k : Nat} (hw : X.w = w) (hr : Room k X.A) (ho : PE X o td) (hi : PE X i ty) (hs : NoSl i) : PE X (.Subscript o i pos) (tNGet w td ty) := by
  subst hw
  refine ⟨fun pins s σ H Q I h => ?_⟩
  refine subD_of PySem.F.slot_dict_getitem.lookup hs (thn (ho.run pins s σ H _ I h) fun u s1 ⟨x, H1, I1, rx, q1⟩ => thn (hi.run pins s1 σ H1 _ I1 q1) fun iv s2 ⟨y, H2, I2, ry, v, g, q2⟩ => ?_)
  exact n_getItem (by have := hr.un; omega) I2 g rx ry fun w' s3 I3 rw' => ⟨v, H2, I3, rw', q2⟩
theorem pc_nin {k : Nat} (hw : X.w = w) (hr : Room k X.A) (hi : PE X i ty) (ho : PE X o td) : PC X .In i o (tNIn w ty td) := by
  subst hw
  refine ⟨fun pins s σ H Q I h => ?_⟩
  refine thn (hi.run pins s σ H _ I h) fun iv s1 ⟨y, H1, I1, ry, q1⟩ => thn (ho.run pins s1 σ H1 _ I1 q1) fun u s2 ⟨x, H2, I2, rx, ov, g, q2⟩ => ?_
  exact n_in (by have := hr.un; omega) I2 g rx ry fun s3 I3 => ⟨.bl ov.isSome, H2, I3, rfl, q2⟩
theorem pc_nnotin {k : Nat} (hw : X.w = w) (hr : Room k X.A) (hi : PE X i ty) (ho : PE X o td) : PC X .NotIn i o (tNNotIn w ty td) := by
  subst hw
  refine ⟨fun pins s σ H Q I h => ?_⟩
  refine thn (hi.run pins s σ H _ I h) fun iv s1 ⟨y, H1, I1, ry, q1⟩ => thn (ho.run pins s1 σ H1 _ I1 q1) fun u s2 ⟨x, H2, I2, rx, ov, g, q2⟩ => ?_
  exact n_notIn (by have := hr.un; omega) I2 g rx ry fun s3 I3 => ⟨.bl (!ov.isSome), H2, I3, rfl, q2⟩
theorem ps_nput {k : Nat} (hw : X.w = w) (hr : Room k X.A) (ho : PE X o td) (hi : PE X i ty) (hv : PE X value tv) (hs : swapsWith value (some (.Subscript o i pos')) pos.line X.env = pure false := by rfl) :
    PS X (.Assign [.Subscript o i pos'] value pos) (sNPut w td ty tv) := by
  subst hw
  refine ⟨fun pins s σ H D I h => ?_⟩
  refine wpAny_Assign_Subscript (thn (hv.run pins s σ H _ I h) fun r s1 ⟨v, H1, I1, rv, q1⟩ => thn (ho.run pins s1 σ H1 _ I1 q1) fun u s2 ⟨x, H2, I2, rx, q2⟩ => thn (hi.run pins s2 σ H2 _ I2 q2) fun iv s3 ⟨y, H3, I3, ry, a, b, es, kk, ob, ex, ey, ha, ks, kb, kd, hz, q3⟩ => ?_) hs
  subst ex; subst ey
  obtain rfl : u = Value.ref a := rx
  obtain rfl : iv = Value.ref b := ry
  exact n_setItem (by have := hr.un; omega) I3 ha ks kb kd hz rv fun s4 o' I4 => ⟨σ, _, I4, q3 o'⟩
theorem pe_dnewN (hw : X.w = w) : PE X (.Dict [] [] pos) (tDNewN w) := by
  subst hw
  exact ⟨fun pins s σ H Q I h => wpAny_Dict_empty ⟨.ref s.heap.objs.size, _, I.laid (a := s.heap.objs.size) (o := NDO (fun k => k.hash X.w) s.heap.objs.size [] _) (t' := s.toks) (fun _ _ q => Heap.get?_push_of_some _ q) (Nat.le_refl _) (NDat.ok ⟨beq_eq_false_iff_ne.mpr (Ne.symm (Nat.ne_of_lt I.big)), Nat.zero_le _, [], .nil, _, #[], 0, Heap.get?_push_size _ rfl, ⟨rfl, rfl, rfl⟩, rfl, rfl, List.nodup_nil⟩ (Heap.get?_push_size _ rfl)), rfl, h _ _ (I.hok.fresh (Nat.le_refl _))⟩⟩
end
end Du
namespace Du
open PySem L2

/-! pure data, and how it lies in an abstract heap -/
inductive D where
  | non
  | bl (b : Bool)
  | int (i : Int)
  | str (s : Str)
  | lst (xs : List D)
  | tup (xs : List D)
  | dT (kvs : List (List Key × D))
  | dK (kvs : List (Key × D))
  | dN (hf : NestedKey → Int) (kvs : List (NestedKey × D))
  | ins (C : Addr) (fs : List (Str × D))
  /-- an address as such (a list that is changed, the spring of draws) -/
  | ptr (a : Addr)
  | ty (n : String)

mutual
def nkD : NestedKey → D
  | .none => .non
  | .num i => .int i
  | .text s => .str s
  | .tup ks => .tup (nkDs ks)
def nkDs : List NestedKey → List D
  | [] => []
  | k :: ks => nkD k :: nkDs ks
end
mutual
inductive Rep (Z : Addr → Prop) (H : Hp) : V → D → Prop
  | non : Rep Z H .non .non
  | bl (b : Bool) : Rep Z H (.bl b) (.bl b)
  | int (i : Int) : Rep Z H (.int i) (.int i)
  | str (s : Str) : Rep Z H (.str s) (.str s)
  | lst {a : Addr} {vs : List V} {ds : List D} : ¬ Z a → H a = some (.lst vs) → Reps Z H vs ds → Rep Z H (.ref a) (.lst ds)
  | tup {a : Addr} {vs : List V} {ds : List D} : ¬ Z a → H a = some (.tup vs) → Reps Z H vs ds → Rep Z H (.ref a) (.tup ds)
  | dT {a : Addr} {kvs : List (List Key × V)} {ds : List (List Key × D)} : ¬ Z a → Rd H a (.dT kvs) → RepT Z H kvs ds → Rep Z H (.ref a) (.dT ds)
  | dK {a : Addr} {kvs : List (Key × V)} {ds : List (Key × D)} : ¬ Z a → Rd H a (.dK kvs) → RepK Z H kvs ds → Rep Z H (.ref a) (.dK ds)
  | dN {a : Addr} {hf : NestedKey → Int} {es : NEs} {ob : Obj} {ds : List (NestedKey × D)} : ¬ Z a → H a = some (NDO hf a es ob) → RepN Z H es ds → Rep Z H (.ref a) (.dN hf ds)
  | ins {a C dx : Addr} {fs : List (Str × V)} {ds : List (Str × D)} : ¬ Z a → H a = some (.ins C dx fs) → RepF Z H fs ds → Rep Z H (.ref a) (.ins C ds)
  | ptr (a : Addr) : Rep Z H (.ref a) (.ptr a)
  | ty (n : String) : Rep Z H (.ty n) (.ty n)
inductive Reps (Z : Addr → Prop) (H : Hp) : List V → List D → Prop
  | nil : Reps Z H [] []
  | cons {v : V} {vs : List V} {d : D} {ds : List D} : Rep Z H v d → Reps Z H vs ds → Reps Z H (v :: vs) (d :: ds)
inductive RepT (Z : Addr → Prop) (H : Hp) : List (List Key × V) → List (List Key × D) → Prop
  | nil : RepT Z H [] []
  | cons {k : List Key} {v : V} {vs : List (List Key × V)} {d : D} {ds : List (List Key × D)} : Rep Z H v d → RepT Z H vs ds → RepT Z H ((k, v) :: vs) ((k, d) :: ds)
inductive RepK (Z : Addr → Prop) (H : Hp) : List (Key × V) → List (Key × D) → Prop
  | nil : RepK Z H [] []
  | cons {k : Key} {v : V} {vs : List (Key × V)} {d : D} {ds : List (Key × D)} : Rep Z H v d → RepK Z H vs ds → RepK Z H ((k, v) :: vs) ((k, d) :: ds)
inductive RepN (Z : Addr → Prop) (H : Hp) : NEs → List (NestedKey × D) → Prop
  | nil : RepN Z H [] []
  | cons {k : NestedKey} {b : Addr} {v : V} {es : NEs} {d : D} {ds : List (NestedKey × D)} : Rep Z H (.ref b) (nkD k) → k.depth ≤ 8 → Rep Z H v d → RepN Z H es ds → RepN Z H ((k, b, v) :: es) ((k, d) :: ds)
inductive RepF (Z : Addr → Prop) (H : Hp) : List (Str × V) → List (Str × D) → Prop
  | nil : RepF Z H [] []
  | cons {k : Str} {v : V} {vs : List (Str × V)} {d : D} {ds : List (Str × D)} : Rep Z H v d → RepF Z H vs ds → RepF Z H ((k, v) :: vs) ((k, d) :: ds)
end

/-- a dict may be locked meanwhile -/
def dictO : HO → Bool
  | .dK _ => true
  | .dT _ => true
  | _ => false
/-- what stood in H outside of Z stands in H' -/
def Ext (Z : Addr → Prop) (H H' : Hp) : Prop := ∀ a o, ¬ Z a → H a = some o → H' a = some o
abbrev Z0 : Addr → Prop := fun _ => False
def Ex (H H' : Hp) : Prop := ∀ a o, H a = some o → H' a = some o
theorem Ext.rf {Z : Addr → Prop} (H : Hp) : Ext Z H H := fun _ _ _ h => h
theorem Ext.tr {Z : Addr → Prop} {H H1 H2 : Hp} (x : Ext Z H H1) (y : Ext Z H1 H2) : Ext Z H H2 := fun a o n h => y a o n (x a o n h)
theorem Ext.wk {Z Z' : Addr → Prop} {H H1 : Hp} (x : Ext Z H H1) (h : ∀ a, Z a → Z' a) : Ext Z' H H1 := fun a o n e => x a o (fun z => n (h a z)) e
theorem Ex.to {Z : Addr → Prop} {H H1 : Hp} (x : Ex H H1) : Ext Z H H1 := fun a o _ h => x a o h
theorem Ex.rf (H : Hp) : Ex H H := fun _ _ h => h
theorem Ex.tr {H H1 H2 : Hp} (x : Ex H H1) (y : Ex H1 H2) : Ex H H2 := fun a o h => y a o (x a o h)
theorem Ext.new {Z : Addr → Prop} {H : Hp} {p : Addr} {o : HO} (h : H p = none) : Ext Z H (upd H p o) := fun a u _ e => by
  rw [upd_ne (ne_of_none e h)]
  exact e
theorem Ex.new {H : Hp} {p : Addr} {o : HO} (h : H p = none) : Ex H (upd H p o) := fun a u e => by
  rw [upd_ne (ne_of_none e h)]
  exact e
/-- an address of Z may change -/
theorem Ext.mut {Z : Addr → Prop} {H H1 : Hp} {p : Addr} {o : HO} (x : Ext Z H H1) (h : Z p) : Ext Z H (upd H1 p o) := fun a u n e => by
  have ne : a ≠ p := fun z => n (z ▸ h)
  rw [upd_ne ne]
  exact x a u n e
theorem Ext.mutN {Z : Addr → Prop} {H H1 : Hp} {p : Addr} {o : HO} (x : Ext Z H H1) (h : H p = none) : Ext Z H (upd H1 p o) := fun a u n e => by
  rw [upd_ne (ne_of_none e h)]
  exact x a u n e
theorem Ex.exact {H H' : Hp} (x : Ex H H') {a : Addr} {o : HO} (h : H a = some o) : H' a = some o := x a o h
theorem Ext.exact {Z : Addr → Prop} {H H' : Hp} (x : Ext Z H H') {a : Addr} {o : HO} (n : ¬ Z a) (h : H a = some o) : H' a = some o := x a o n h
theorem Ex.there {H H' : Hp} (x : Ex H H') {a : Addr} {o : HO} (h : H a = some o) : ∃ o', H' a = some o' := ⟨o, x a o h⟩
theorem Ex.free {H H' : Hp} (x : Ex H H') {a : Addr} (h : H' a = none) : H a = none := by
  cases q : H a with
  | none => rfl
  | some o =>
    obtain ⟨o', e⟩ := x.there q
    rw [h] at e; cases e

/-- a locked dict seen as the dict -/
def vw : HO → HO
  | .frz o (.dK k) => .dK k
  | .frz o (.dT k) => .dT k
  | o => o
def ExtW (Z : Addr → Prop) (H H' : Hp) : Prop := ∀ a o, ¬ Z a → H a = some o → ∃ o', H' a = some o' ∧ vw o' = vw o
theorem Ext.w {Z : Addr → Prop} {H H' : Hp} (x : Ext Z H H') : ExtW Z H H' := fun a o n h => ⟨o, x a o n h, rfl⟩
theorem vw_frz {o' : HO} {u : HO} (hd : dictO u = true) (h : vw o' = u) : o' = u ∨ ∃ o, o' = .frz o u := by
  cases o' with
  | frz o v =>
    cases v with
    | dK k => exact .inr ⟨o, by rw [← h]; rfl⟩
    | dT k => exact .inr ⟨o, by rw [← h]; rfl⟩
    | _ => subst h; cases hd
  | _ => exact .inl h
theorem vw_eq {o' o : HO} (hd : dictO o = false) (hf : ∀ p u, o ≠ .frz p u) (h : vw o' = vw o) : o' = o := by
  have e : vw o = o := by
    cases o with
    | frz p u => exact absurd rfl (hf p u)
    | _ => rfl
  rw [e] at h
  cases o' with
  | frz p v =>
    cases v with
    | dK k => rw [← h] at hd; cases hd
    | dT k => rw [← h] at hd; cases hd
    | _ => exact h
  | _ => exact h
theorem ExtW.exact {Z : Addr → Prop} {H H' : Hp} (x : ExtW Z H H') {a : Addr} {o : HO} (n : ¬ Z a) (h : H a = some o) (hd : dictO o = false) (hf : ∀ p u, o ≠ .frz p u) : H' a = some o := by
  obtain ⟨o', e, v⟩ := x a o n h
  rw [e, vw_eq hd hf v]
theorem ExtW.rd {Z : Addr → Prop} {H H' : Hp} (x : ExtW Z H H') {a : Addr} {u : HO} (n : ¬ Z a) (hd : dictO u = true) (h : Rd H a u) : Rd H' a u := by
  have vu : ∀ o, vw (.frz o u) = u := fun o => by cases u <;> first | rfl | cases hd
  have vv : vw u = u := by cases u <;> first | rfl | cases hd
  rcases h with h | ⟨o, h⟩
  · obtain ⟨o', e, v⟩ := x a u n h
    rcases vw_frz hd (v.trans vv) with z | ⟨p, z⟩
    · exact .inl (by rw [e, z])
    · exact .inr ⟨p, by rw [e, z]⟩
  · obtain ⟨o', e, v⟩ := x a _ n h
    rcases vw_frz hd (v.trans (vu o)) with z | ⟨p, z⟩
    · exact .inl (by rw [e, z])
    · exact .inr ⟨p, by rw [e, z]⟩
mutual
theorem Rep.monoW {Z : Addr → Prop} {H H' : Hp} (x : ExtW Z H H') : ∀ {v : V} {d : D}, Rep Z H v d → Rep Z H' v d
  | _, _, .non => .non
  | _, _, .bl b => .bl b
  | _, _, .int i => .int i
  | _, _, .str s => .str s
  | _, _, .lst n h r => .lst n (x.exact n h rfl (fun _ _ z => nomatch z)) (Reps.monoW x r)
  | _, _, .tup n h r => .tup n (x.exact n h rfl (fun _ _ z => nomatch z)) (Reps.monoW x r)
  | _, _, .dT n h r => .dT n (x.rd n rfl h) (RepT.monoW x r)
  | _, _, .dK n h r => .dK n (x.rd n rfl h) (RepK.monoW x r)
  | _, _, .dN n h r => .dN n (x.exact n h rfl (fun _ _ z => nomatch z)) (RepN.monoW x r)
  | _, _, .ins n h r => .ins n (x.exact n h rfl (fun _ _ z => nomatch z)) (RepF.monoW x r)
  | _, _, .ptr a => .ptr a
  | _, _, .ty n => .ty n
theorem Reps.monoW {Z : Addr → Prop} {H H' : Hp} (x : ExtW Z H H') : ∀ {v : List V} {d : List D}, Reps Z H v d → Reps Z H' v d
  | _, _, .nil => .nil
  | _, _, .cons r t => .cons (Rep.monoW x r) (Reps.monoW x t)
theorem RepT.monoW {Z : Addr → Prop} {H H' : Hp} (x : ExtW Z H H') : ∀ {v : List (List Key × V)} {d : List (List Key × D)}, RepT Z H v d → RepT Z H' v d
  | _, _, .nil => .nil
  | _, _, .cons r t => .cons (Rep.monoW x r) (RepT.monoW x t)
theorem RepK.monoW {Z : Addr → Prop} {H H' : Hp} (x : ExtW Z H H') : ∀ {v : List (Key × V)} {d : List (Key × D)}, RepK Z H v d → RepK Z H' v d
  | _, _, .nil => .nil
  | _, _, .cons r t => .cons (Rep.monoW x r) (RepK.monoW x t)
theorem RepN.monoW {Z : Addr → Prop} {H H' : Hp} (x : ExtW Z H H') : ∀ {v : NEs} {d : List (NestedKey × D)}, RepN Z H v d → RepN Z H' v d
  | _, _, .nil => .nil
  | _, _, .cons k kd r t => .cons (Rep.monoW x k) kd (Rep.monoW x r) (RepN.monoW x t)
theorem RepF.monoW {Z : Addr → Prop} {H H' : Hp} (x : ExtW Z H H') : ∀ {v : List (Str × V)} {d : List (Str × D)}, RepF Z H v d → RepF Z H' v d
  | _, _, .nil => .nil
  | _, _, .cons r t => .cons (Rep.monoW x r) (RepF.monoW x t)
end
theorem Rep.mono {Z : Addr → Prop} {H H' : Hp} (x : Ext Z H H') {v : V} {d : D} (r : Rep Z H v d) : Rep Z H' v d := r.monoW x.w
theorem Reps.mono {Z : Addr → Prop} {H H' : Hp} (x : Ext Z H H') {v : List V} {d : List D} (r : Reps Z H v d) : Reps Z H' v d := r.monoW x.w
theorem RepT.mono {Z : Addr → Prop} {H H' : Hp} (x : Ext Z H H') {v : List (List Key × V)} {d : List (List Key × D)} (r : RepT Z H v d) : RepT Z H' v d := r.monoW x.w
theorem RepK.mono {Z : Addr → Prop} {H H' : Hp} (x : Ext Z H H') {v : List (Key × V)} {d : List (Key × D)} (r : RepK Z H v d) : RepK Z H' v d := r.monoW x.w
theorem RepN.mono {Z : Addr → Prop} {H H' : Hp} (x : Ext Z H H') {v : NEs} {d : List (NestedKey × D)} (r : RepN Z H v d) : RepN Z H' v d := r.monoW x.w
theorem RepF.mono {Z : Addr → Prop} {H H' : Hp} (x : Ext Z H H') {v : List (Str × V)} {d : List (Str × D)} (r : RepF Z H v d) : RepF Z H' v d := r.monoW x.w
theorem Rd.some {H : Hp} {a : Addr} {u : HO} (h : Rd H a u) : ∃ o, H a = some o := by
  rcases h with h | ⟨o, h⟩ <;> exact ⟨_, h⟩
/-! other addresses may be forbidden, as long as they are none of the heap -/
mutual
theorem Rep.zs {Z Z' : Addr → Prop} {H : Hp} (x : ∀ a, Z' a → Z a ∨ H a = none) : ∀ {v : V} {d : D}, Rep Z H v d → Rep Z' H v d
  | _, _, .non => .non
  | _, _, .bl b => .bl b
  | _, _, .int i => .int i
  | _, _, .str s => .str s
  | _, _, .lst n h r => .lst (fun z => (x _ z).elim n fun e => by rw [h] at e; cases e) h (Reps.zs x r)
  | _, _, .tup n h r => .tup (fun z => (x _ z).elim n fun e => by rw [h] at e; cases e) h (Reps.zs x r)
  | _, _, .dT n h r => .dT (fun z => (x _ z).elim n fun e => by obtain ⟨o, q⟩ := Rd.some h; rw [q] at e; cases e) h (RepT.zs x r)
  | _, _, .dK n h r => .dK (fun z => (x _ z).elim n fun e => by obtain ⟨o, q⟩ := Rd.some h; rw [q] at e; cases e) h (RepK.zs x r)
  | _, _, .dN n h r => .dN (fun z => (x _ z).elim n fun e => by rw [h] at e; cases e) h (RepN.zs x r)
  | _, _, .ins n h r => .ins (fun z => (x _ z).elim n fun e => by rw [h] at e; cases e) h (RepF.zs x r)
  | _, _, .ptr a => .ptr a
  | _, _, .ty n => .ty n
theorem Reps.zs {Z Z' : Addr → Prop} {H : Hp} (x : ∀ a, Z' a → Z a ∨ H a = none) : ∀ {v : List V} {d : List D}, Reps Z H v d → Reps Z' H v d
  | _, _, .nil => .nil
  | _, _, .cons r t => .cons (Rep.zs x r) (Reps.zs x t)
theorem RepT.zs {Z Z' : Addr → Prop} {H : Hp} (x : ∀ a, Z' a → Z a ∨ H a = none) : ∀ {v : List (List Key × V)} {d : List (List Key × D)}, RepT Z H v d → RepT Z' H v d
  | _, _, .nil => .nil
  | _, _, .cons r t => .cons (Rep.zs x r) (RepT.zs x t)
theorem RepK.zs {Z Z' : Addr → Prop} {H : Hp} (x : ∀ a, Z' a → Z a ∨ H a = none) : ∀ {v : List (Key × V)} {d : List (Key × D)}, RepK Z H v d → RepK Z' H v d
  | _, _, .nil => .nil
  | _, _, .cons r t => .cons (Rep.zs x r) (RepK.zs x t)
theorem RepN.zs {Z Z' : Addr → Prop} {H : Hp} (x : ∀ a, Z' a → Z a ∨ H a = none) : ∀ {v : NEs} {d : List (NestedKey × D)}, RepN Z H v d → RepN Z' H v d
  | _, _, .nil => .nil
  | _, _, .cons k kd r t => .cons (Rep.zs x k) kd (Rep.zs x r) (RepN.zs x t)
theorem RepF.zs {Z Z' : Addr → Prop} {H : Hp} (x : ∀ a, Z' a → Z a ∨ H a = none) : ∀ {v : List (Str × V)} {d : List (Str × D)}, RepF Z H v d → RepF Z' H v d
  | _, _, .nil => .nil
  | _, _, .cons r t => .cons (Rep.zs x r) (RepF.zs x t)
end
theorem Reps.len {Z : Addr → Prop} {H : Hp} : ∀ {vs : List V} {ds : List D}, Reps Z H vs ds → vs.length = ds.length
  | _, _, .nil => rfl
  | _, _, .cons _ t => by simp [Reps.len t]
theorem Reps.app {Z : Addr → Prop} {H : Hp} : ∀ {vs ws : List V} {ds es : List D}, Reps Z H vs ds → Reps Z H ws es → Reps Z H (vs ++ ws) (ds ++ es)
  | _, _, _, _, .nil, s => s
  | _, _, _, _, .cons r t, s => .cons r (Reps.app t s)
theorem Reps.get {Z : Addr → Prop} {H : Hp} : ∀ {vs : List V} {ds : List D} {i : Nat} {d : D}, Reps Z H vs ds → ds[i]? = some d → ∃ v, vs[i]? = some v ∧ Rep Z H v d
  | _, _, _, _, .nil, e => by simp at e
  | _, _, 0, _, .cons r _, e => by simp at e; subst e; exact ⟨_, rfl, r⟩
  | _, _, i + 1, d, .cons _ t, e => by
    obtain ⟨v, h1, h2⟩ := Reps.get (i := i) (d := d) t (by simpa using e)
    exact ⟨v, by simpa using h1, h2⟩
theorem Reps.getV {Z : Addr → Prop} {H : Hp} : ∀ {vs : List V} {ds : List D} {i : Nat} {v : V}, Reps Z H vs ds → vs[i]? = some v → ∃ d, ds[i]? = some d ∧ Rep Z H v d
  | _, _, _, _, .nil, e => by simp at e
  | _, _, 0, _, .cons r _, e => by simp at e; subst e; exact ⟨_, rfl, r⟩
  | _, _, i + 1, v, .cons _ t, e => by
    obtain ⟨d, h1, h2⟩ := Reps.getV (i := i) (v := v) t (by simpa using e)
    exact ⟨d, by simpa using h1, h2⟩
theorem Reps.take {Z : Addr → Prop} {H : Hp} : ∀ {vs : List V} {ds : List D} (n : Nat), Reps Z H vs ds → Reps Z H (vs.take n) (ds.take n)
  | _, _, 0, _ => by simpa using .nil
  | _, _, _ + 1, .nil => by simpa using .nil
  | _, _, n + 1, .cons r t => .cons r (Reps.take n t)
theorem Reps.drop {Z : Addr → Prop} {H : Hp} : ∀ {vs : List V} {ds : List D} (n : Nat), Reps Z H vs ds → Reps Z H (vs.drop n) (ds.drop n)
  | _, _, 0, r => r
  | _, _, _ + 1, .nil => by simpa using .nil
  | _, _, n + 1, .cons _ t => Reps.drop n t
theorem Reps.rev {Z : Addr → Prop} {H : Hp} : ∀ {vs : List V} {ds : List D}, Reps Z H vs ds → Reps Z H vs.reverse ds.reverse
  | _, _, .nil => .nil
  | _, _, .cons r t => by rw [List.reverse_cons, List.reverse_cons]; exact (Reps.rev t).app (.cons r .nil)
theorem Reps.strs {Z : Addr → Prop} {H : Hp} : ∀ {vs : List V} {ss : List Str}, Reps Z H vs (ss.map D.str) → vs = ss.map V.str
  | _, [], .nil => rfl
  | _, s :: ss, .cons (.str _) t => by simp [Reps.strs t]
theorem Reps.ofStrs {Z : Addr → Prop} {H : Hp} : ∀ (ss : List Str), Reps Z H (ss.map V.str) (ss.map D.str)
  | [] => .nil
  | s :: ss => .cons (.str s) (Reps.ofStrs ss)
theorem Reps.bls {Z : Addr → Prop} {H : Hp} : ∀ {vs : List V} {ss : List Bool}, Reps Z H vs (ss.map D.bl) → vs = ss.map V.bl
  | _, [], .nil => rfl
  | _, s :: ss, .cons (.bl _) t => by simp [Reps.bls t]
theorem Reps.ofBls {Z : Addr → Prop} {H : Hp} : ∀ (ss : List Bool), Reps Z H (ss.map V.bl) (ss.map D.bl)
  | [] => .nil
  | s :: ss => .cons (.bl s) (Reps.ofBls ss)
theorem RepF.look {Z : Addr → Prop} {H : Hp} {f : Str} : ∀ {fs : List (Str × V)} {ds : List (Str × D)} {d : D}, RepF Z H fs ds → ds.lookup f = some d → ∃ v, fs.lookup f = some v ∧ Rep Z H v d
  | _, _, _, .nil, e => by simp at e
  | _, _, d, .cons (k := k) r t, e => by
    rw [List.lookup_cons] at e
    by_cases h : f == k
    · rw [h] at e; cases e
      exact ⟨_, by rw [List.lookup_cons, h], r⟩
    · rw [Bool.not_eq_true] at h
      rw [h] at e
      obtain ⟨v, h1, h2⟩ := RepF.look t e
      exact ⟨v, by rw [List.lookup_cons, h]; exact h1, h2⟩
theorem RepF.none {Z : Addr → Prop} {H : Hp} {f : Str} : ∀ {fs : List (Str × V)} {ds : List (Str × D)}, RepF Z H fs ds → ds.lookup f = none → fs.lookup f = none
  | _, _, .nil, e => by simp
  | _, _, .cons (k := k) r t, e => by
    rw [List.lookup_cons] at e ⊢
    by_cases h : f == k
    · rw [h] at e; cases e
    · rw [Bool.not_eq_true] at h
      rw [h] at e ⊢
      exact RepF.none t e

/-! slots -/
abbrev Rho := List (Option D)
def isTup : HO → Bool
  | .tup _ => true
  | _ => false
def okZ (Z : Addr → Prop) (H : Hp) : Prop := ∀ a, Z a → ∃ o, H a = some o ∧ isTup o = false
theorem okZ.no {Z : Addr → Prop} {H : Hp} (k : okZ Z H) {p : Addr} (h : H p = none) : ¬ Z p := fun z => by
  obtain ⟨o, e, _⟩ := k p z
  rw [h] at e; cases e
theorem okZ.noT {Z : Addr → Prop} {H : Hp} (k : okZ Z H) {p : Addr} {vs : List V} (h : H p = some (.tup vs)) : ¬ Z p := fun z => by
  obtain ⟨o, e, i⟩ := k p z
  rw [h] at e; cases e; cases i
theorem okZ.ex {Z : Addr → Prop} {H H' : Hp} (k : okZ Z H) (x : Ex H H') : okZ Z H' := fun a z => by
  obtain ⟨o, e, i⟩ := k a z
  exact ⟨o, x a o e, i⟩
theorem okZ.upd {Z : Addr → Prop} {H : Hp} (k : okZ Z H) {p : Addr} {o : HO} (ho : isTup o = false) : okZ Z (L2.upd H p o) := fun a z => by
  by_cases e : a = p
  · subst e; exact ⟨o, upd_same, ho⟩
  · rw [upd_ne e]; exact k a z
theorem okZ.new {Z : Addr → Prop} {H : Hp} (k : okZ Z H) {p : Addr} {o : HO} (hp : H p = none) : okZ Z (L2.upd H p o) := fun a z => by
  have e : a ≠ p := fun e => k.no hp (e ▸ z)
  rw [upd_ne e]; exact k a z
def SRep (Z : Addr → Prop) (H : Hp) (σ : L2.St) (ρ : Rho) : Prop := σ.length = ρ.length ∧ ∀ (i : Nat) (d : D), ρ[i]? = some (some d) → ∃ v, σ[i]? = some (some v) ∧ Rep Z H v d
theorem SRep.mono {Z : Addr → Prop} {H H' : Hp} {σ : L2.St} {ρ : Rho} (s : SRep Z H σ ρ) (x : Ext Z H H') : SRep Z H' σ ρ := ⟨s.1, fun i d e => by
  obtain ⟨v, h1, h2⟩ := s.2 i d e
  exact ⟨v, h1, h2.mono x⟩⟩
theorem SRep.monoW {Z : Addr → Prop} {H H' : Hp} {σ : L2.St} {ρ : Rho} (s : SRep Z H σ ρ) (x : ExtW Z H H') : SRep Z H' σ ρ := ⟨s.1, fun i d e => by
  obtain ⟨v, h1, h2⟩ := s.2 i d e
  exact ⟨v, h1, h2.monoW x⟩⟩
theorem SRep.zs {Z Z' : Addr → Prop} {H : Hp} {σ : L2.St} {ρ : Rho} (s : SRep Z H σ ρ) (x : ∀ a, Z' a → Z a ∨ H a = none) : SRep Z' H σ ρ := ⟨s.1, fun i d e => by
  obtain ⟨v, h1, h2⟩ := s.2 i d e
  exact ⟨v, h1, h2.zs x⟩⟩
theorem SRep.set {Z : Addr → Prop} {H : Hp} {σ : L2.St} {ρ : Rho} {v : V} {d : D} (s : SRep Z H σ ρ) (i : Nat) (r : Rep Z H v d) : SRep Z H (σ.set i (some v)) (ρ.set i (some d)) := ⟨by simp [s.1], fun j e h => by
  by_cases hj : i = j
  · subst hj
    have hl : i < ρ.length := by
      have := (List.getElem?_eq_some_iff.mp h).1
      simpa using this
    rw [List.getElem?_set_self hl] at h
    cases h
    exact ⟨v, List.getElem?_set_self (by rw [s.1]; exact hl), r⟩
  · rw [List.getElem?_set_ne hj] at h
    obtain ⟨w, h1, h2⟩ := s.2 j e h
    exact ⟨w, by rw [List.getElem?_set_ne hj]; exact h1, h2⟩⟩
theorem SRep.unset {Z : Addr → Prop} {H : Hp} {σ : L2.St} {ρ : Rho} (s : SRep Z H σ ρ) (i : Nat) (o : Option V) : SRep Z H (σ.set i o) (ρ.set i none) := ⟨by simp [s.1], fun j e h => by
  by_cases hj : i = j
  · subst hj
    have hl : i < ρ.length := by
      have := (List.getElem?_eq_some_iff.mp h).1
      simpa using this
    rw [List.getElem?_set_self hl] at h
    cases h
  · rw [List.getElem?_set_ne hj] at h
    obtain ⟨w, h1, h2⟩ := s.2 j e h
    exact ⟨w, by rw [List.getElem?_set_ne hj]; exact h1, h2⟩⟩
def wipeR (ρ : Rho) : List Nat → Rho
  | [] => ρ
  | v :: vs => (wipeR ρ vs).set v none
theorem SRep.wipe {Z : Addr → Prop} {H : Hp} {σ : L2.St} {ρ : Rho} (s : SRep Z H σ ρ) : ∀ (vs : List Nat), SRep Z H (L2.wipe σ vs) (wipeR ρ vs)
  | [] => s
  | v :: vs => (SRep.wipe s vs).unset v none
theorem SRep.start {Z : Addr → Prop} {H : Hp} {vs : List V} {ds : List D} (r : Reps Z H vs ds) (n : Nat) : SRep Z H (vs.map some ++ List.replicate n none) (ds.map some ++ List.replicate n none) := ⟨by simp [r.len], fun i d e => by
  by_cases h : i < ds.length
  · rw [List.getElem?_append_left (by simpa using h), List.getElem?_map] at e
    cases q : ds[i]? with
    | none => rw [q] at e; cases e
    | some d' =>
      rw [q] at e; cases e
      obtain ⟨v, h1, h2⟩ := r.get q
      exact ⟨v, by rw [List.getElem?_append_left (by simpa [r.len] using h), List.getElem?_map, h1]; rfl, h2⟩
  · rw [List.getElem?_append_right (by simpa using h), List.getElem?_replicate] at e
    split at e <;> cases e⟩
/-- forgetting slots -/
inductive Lq : Rho → Rho → Prop
  | nil : Lq [] []
  | skip {r' r : Rho} {o : Option D} : Lq r' r → Lq (none :: r') (o :: r)
  | keep {r' r : Rho} {o : Option D} : Lq r' r → Lq (o :: r') (o :: r)
theorem Lq.rf : ∀ r : Rho, Lq r r
  | [] => .nil
  | _ :: r => .keep (Lq.rf r)
theorem Lq.get : ∀ {r' r : Rho} {i : Nat} {d : D}, Lq r' r → r'[i]? = some (some d) → r[i]? = some (some d)
  | _, _, _, _, .nil, h => by simp at h
  | _, _, 0, _, .skip _, h => by simp at h
  | _, _, i + 1, _, .skip l, h => by simpa using Lq.get l (by simpa using h)
  | _, _, 0, _, .keep _, h => by simpa using h
  | _, _, i + 1, _, .keep l, h => by simpa using Lq.get l (by simpa using h)
theorem Lq.len : ∀ {r' r : Rho}, Lq r' r → r'.length = r.length
  | _, _, .nil => rfl
  | _, _, .skip l => by simp [Lq.len l]
  | _, _, .keep l => by simp [Lq.len l]
theorem SRep.lq {Z : Addr → Prop} {H : Hp} {σ : L2.St} {ρ ρ' : Rho} (s : SRep Z H σ ρ) (l : Lq ρ' ρ) : SRep Z H σ ρ' := ⟨s.1.trans l.len.symm, fun i d e => s.2 i d (l.get e)⟩
end Du
namespace Du
open PySem L2

/-! what a reading evaluates to, in data -/
def Ev (te : TE) (ρ : Rho) (d : D) : Prop := ∀ (Z : Addr → Prop) (σ : L2.St) (H : Hp) (Q : VK), okZ Z H → SRep Z H σ ρ → (∀ v H', Ex H H' → Rep Z H' v d → Q v H') → te σ H Q
def EvT (tt : TT) (ρ : Rho) (b : Bool) : Prop := ∀ (Z : Addr → Prop) (σ : L2.St) (H : Hp) (Q : Bool → Hp → Prop), okZ Z H → SRep Z H σ ρ → (∀ H', Ex H H' → Q b H') → tt σ H Q
def EvA (ta : TA) (ρ : Rho) (ds : List D) : Prop := ∀ (Z : Addr → Prop) (σ : L2.St) (H : Hp) (Q : List V → Hp → Prop), okZ Z H → SRep Z H σ ρ → (∀ vs H', Ex H H' → Reps Z H' vs ds → Q vs H') → ta σ H Q
def EvO (to : TO) (ρ : Rho) (o : Option Int) : Prop := ∀ (Z : Addr → Prop) (σ : L2.St) (H : Hp) (Q : Option Int → Hp → Prop), okZ Z H → SRep Z H σ ρ → (∀ H', Ex H H' → Q o H') → to σ H Q
/-- a relation of two values, one value, a list of values, in data -/
def R2D (r : R2) (d e z : D) : Prop := ∀ (Z : Addr → Prop) (H : Hp) (x y : V) (Q : VK), okZ Z H → Rep Z H x d → Rep Z H y e → (∀ v H', Ex H H' → Rep Z H' v z → Q v H') → r x y H Q
def R1D (r : V → Hp → VK → Prop) (d z : D) : Prop := ∀ (Z : Addr → Prop) (H : Hp) (x : V) (Q : VK), okZ Z H → Rep Z H x d → (∀ v H', Ex H H' → Rep Z H' v z → Q v H') → r x H Q
def RLD (r : List V → Hp → VK → Prop) (ds : List D) (z : D) : Prop := ∀ (Z : Addr → Prop) (H : Hp) (xs : List V) (Q : VK), okZ Z H → Reps Z H xs ds → (∀ v H', Ex H H' → Rep Z H' v z → Q v H') → r xs H Q
def RMD (r : V → List V → Hp → VK → Prop) (d : D) (ds : List D) (z : D) : Prop := ∀ (Z : Addr → Prop) (H : Hp) (x : V) (xs : List V) (Q : VK), okZ Z H → Rep Z H x d → Reps Z H xs ds → (∀ v H', Ex H H' → Rep Z H' v z → Q v H') → r x xs H Q

section
variable {ρ : Rho} {te ta tb tc : TE} {tt t u : TT} {d e f z : D} {b c : Bool} {ds es : List D}
theorem ev_var {i : Nat} (h : ρ[i]? = some (some d)) : Ev (tVar i) ρ d := fun Z σ H Q k s q => by
  obtain ⟨v, h1, h2⟩ := s.2 i d h
  exact ⟨v, h1, q v H (Ex.rf H) h2⟩
theorem ev_int {i : Int} : Ev (tC (.int i)) ρ (.int i) := fun _ _ H _ _ _ q => q _ H (Ex.rf H) (.int i)
theorem ev_bl : Ev (tC (.bl b)) ρ (.bl b) := fun _ _ H _ _ _ q => q _ H (Ex.rf H) (.bl b)
theorem ev_str {s : Str} : Ev (tC (.str s)) ρ (.str s) := fun _ _ H _ _ _ q => q _ H (Ex.rf H) (.str s)
theorem ev_non : Ev (tC .non) ρ .non := fun _ _ H _ _ _ q => q _ H (Ex.rf H) .non
theorem ev_op {r : R2} (ha : Ev ta ρ d) (hb : Ev tb ρ e) (hr : R2D r d e z) : Ev (tOp r ta tb) ρ z := fun Z σ H Q k s q =>
  ha Z σ H _ k s fun x H1 x1 r1 => hb Z σ H1 _ (k.ex x1) (s.mono x1.to) fun y H2 x2 r2 =>
    hr Z H2 x y Q ((k.ex x1).ex x2) (r1.mono x2.to) r2 fun v H3 x3 r3 => q v H3 ((x1.tr x2).tr x3) r3
theorem ev_un {r : V → Hp → VK → Prop} (ha : Ev ta ρ d) (hr : R1D r d z) : Ev (tUn r ta) ρ z := fun Z σ H Q k s q =>
  ha Z σ H _ k s fun x H1 x1 r1 => hr Z H1 x Q (k.ex x1) r1 fun v H3 x3 r3 => q v H3 (x1.tr x3) r3
theorem ev_nil : EvA tNil ρ [] := fun _ _ H _ _ _ q => q [] H (Ex.rf H) .nil
theorem ev_cons {tr : TA} (ha : Ev ta ρ d) (hr : EvA tr ρ ds) : EvA (tCons ta tr) ρ (d :: ds) := fun Z σ H Q k s q =>
  ha Z σ H _ k s fun x H1 x1 r1 => hr Z σ H1 _ (k.ex x1) (s.mono x1.to) fun xs H2 x2 r2 => q _ H2 (x1.tr x2) (.cons (r1.mono x2.to) r2)
theorem ev_starT {K : PySem.W.Frag} {tr : TA} (ha : Ev ta ρ (.tup es)) (hr : EvA tr ρ ds) : EvA (StX.tStar K ta tr) ρ (es ++ ds) := fun Z σ H Q k s q =>
  ha Z σ H _ k s fun x H1 x1 r1 => by
    cases r1 with
    | tup n h rs =>
      exact ⟨_, _, rfl, .inl (.inl (.inl h)), hr Z σ H1 _ (k.ex x1) (s.mono x1.to) fun xs H2 x2 r2 => q _ H2 (x1.tr x2) ((rs.mono x2.to).app r2)⟩
theorem ev_starL {K : PySem.W.Frag} {tr : TA} (ha : Ev ta ρ (.lst es)) (hr : EvA tr ρ ds) : EvA (StX.tStar K ta tr) ρ (es ++ ds) := fun Z σ H Q k s q =>
  ha Z σ H _ k s fun x H1 x1 r1 => by
    cases r1 with
    | lst n h rs =>
      exact ⟨_, _, rfl, .inr (.inl (.inl h)), hr Z σ H1 _ (k.ex x1) (s.mono x1.to) fun xs H2 x2 r2 => q _ H2 (x1.tr x2) ((rs.mono x2.to).app r2)⟩
theorem ev_tup {ta : TA} (ha : EvA ta ρ ds) (hz : ds.length ≤ 100000) : Ev (tTup ta) ρ (.tup ds) := fun Z σ H Q k s q =>
  ha Z σ H _ k s fun vs H1 x1 r1 => ⟨Nat.le_trans (by rw [r1.len]; exact hz) (by decide), fun p hp =>
    q _ _ (x1.tr (Ex.new hp)) (.tup ((k.ex x1).no hp) upd_same (r1.mono (Ext.new hp)))⟩
theorem ev_lst {ta : TA} (ha : EvA ta ρ ds) (hz : ds.length ≤ 100000) : Ev (tLst ta) ρ (.lst ds) := fun Z σ H Q k s q =>
  ha Z σ H _ k s fun vs H1 x1 r1 => ⟨Nat.le_trans (by rw [r1.len]; exact hz) (by decide), fun p hp =>
    q _ _ (x1.tr (Ex.new hp)) (.lst ((k.ex x1).no hp) upd_same (r1.mono (Ext.new hp)))⟩
theorem ev_cb {r : List V → Hp → VK → Prop} {ta : TA} (ha : EvA ta ρ ds) (hr : RLD r ds z) : Ev (tCB r ta) ρ z := fun Z σ H Q k s q =>
  ha Z σ H _ k s fun vs H1 x1 r1 => hr Z H1 vs Q (k.ex x1) r1 fun v H2 x2 r2 => q v H2 (x1.tr x2) r2
theorem ev_then {kk : V → Hp → VK → Prop} (ha : Ev ta ρ d) (hr : R1D kk d z) : Ev (tThen ta kk) ρ z := fun Z σ H Q k s q =>
  ha Z σ H _ k s fun x H1 x1 r1 => hr Z H1 x Q (k.ex x1) r1 fun v H3 x3 r3 => q v H3 (x1.tr x3) r3
theorem ev_fld {K : PySem.W.Frag} {C : Addr} {g : Str} {fs : List (Str × D)} (ha : Ev ta ρ (.ins C fs)) (hc : Cls K C) (hn : NoAttr K C g) (hl : fs.lookup g = some d) : Ev (tFld K ta g) ρ d := fun Z σ H Q k s q =>
  ha Z σ H _ k s fun x H1 x1 r1 => by
    cases r1 with
    | ins n h rs =>
      obtain ⟨v, h1, h2⟩ := rs.look hl
      exact ⟨_, _, _, _, v, rfl, h, hc, hn, h1, q v H1 x1 h2⟩
theorem et_test (h : Ev te ρ (.bl b)) : EvT (tTest te) ρ b := fun Z σ H Q k s q => h Z σ H _ k s fun v H1 x1 r1 => by cases r1; exact ⟨b, rfl, q H1 x1⟩
theorem et_B (h : Ev te ρ (.bl b)) : EvT (tB te) ρ b := fun Z σ H Q k s q => h Z σ H _ k s fun v H1 x1 r1 => by cases r1; exact ⟨b, rfl, q H1 x1⟩
theorem et_not (h : EvT t ρ b) : EvT (tNot t) ρ (!b) := fun Z σ H Q k s q => h Z σ H _ k s fun H1 x1 => q H1 x1
theorem et_and (h : EvT t ρ b) (g : b = true → EvT u ρ c) : EvT (tAnd t u) ρ (b && c) := fun Z σ H Q k s q => h Z σ H _ k s fun H1 x1 => by
  cases b with
  | true => exact iteT (g rfl Z σ H1 _ (k.ex x1) (s.mono x1.to) fun H2 x2 => q H2 (x1.tr x2))
  | false => exact iteF (q H1 x1)
theorem et_or (h : EvT t ρ b) (g : b = false → EvT u ρ c) : EvT (tOr t u) ρ (b || c) := fun Z σ H Q k s q => h Z σ H _ k s fun H1 x1 => by
  cases b with
  | true => exact iteT (q H1 x1)
  | false => exact iteF (g rfl Z σ H1 _ (k.ex x1) (s.mono x1.to) fun H2 x2 => q H2 (x1.tr x2))
theorem et_yes : EvT tYes ρ true := fun _ _ H _ _ _ q => q H (Ex.rf H)
theorem ev_andV (h : Ev ta ρ (.bl b)) (g : b = true → Ev tb ρ (.bl c)) : Ev (tAndV ta tb) ρ (.bl (b && c)) := fun Z σ H Q k s q => h Z σ H _ k s fun v H1 x1 r1 => by
  cases r1
  refine ⟨b, rfl, ?_⟩
  cases b with
  | true => exact iteT (g rfl Z σ H1 _ (k.ex x1) (s.mono x1.to) fun v H2 x2 r2 => q v H2 (x1.tr x2) r2)
  | false => exact iteF (q _ H1 x1 (.bl false))
theorem ev_orV (h : Ev ta ρ (.bl b)) (g : b = false → Ev tb ρ (.bl c)) : Ev (tOrV ta tb) ρ (.bl (b || c)) := fun Z σ H Q k s q => h Z σ H _ k s fun v H1 x1 r1 => by
  cases r1
  refine ⟨b, rfl, ?_⟩
  cases b with
  | true => exact iteT (q _ H1 x1 (.bl true))
  | false => exact iteF (g rfl Z σ H1 _ (k.ex x1) (s.mono x1.to) fun v H2 x2 r2 => q v H2 (x1.tr x2) r2)
theorem ev_notV (h : Ev ta ρ (.bl b)) : Ev (tNotV ta) ρ (.bl (!b)) := fun Z σ H Q k s q => h Z σ H _ k s fun v H1 x1 r1 => by
  cases r1
  exact ⟨b, rfl, q _ H1 x1 (.bl _)⟩
theorem ev_if (h : EvT t ρ b) (g1 : b = true → Ev ta ρ d) (g2 : b = false → Ev tb ρ d) : Ev (tIf t ta tb) ρ d := fun Z σ H Q k s q => h Z σ H _ k s fun H1 x1 => by
  cases b with
  | true => exact iteT (g1 rfl Z σ H1 _ (k.ex x1) (s.mono x1.to) fun v H2 x2 r2 => q v H2 (x1.tr x2) r2)
  | false => exact iteF (g2 rfl Z σ H1 _ (k.ex x1) (s.mono x1.to) fun v H2 x2 r2 => q v H2 (x1.tr x2) r2)
theorem ev_chain {r r' : R2} (ha : Ev ta ρ d) (hb : Ev tb ρ e) (hr : R2D r d e (.bl b)) (hc : b = true → Ev tc ρ f) (hr' : b = true → R2D r' e f (.bl c)) : Ev (tChain r r' ta tb tc) ρ (.bl (b && c)) := fun Z σ H Q k s q =>
  ha Z σ H _ k s fun x H1 x1 r1 => hb Z σ H1 _ (k.ex x1) (s.mono x1.to) fun y H2 x2 r2 =>
    hr Z H2 x y _ ((k.ex x1).ex x2) (r1.mono x2.to) r2 fun v H3 x3 r3 => by
      cases r3
      refine ⟨b, rfl, ?_⟩
      have xx := (x1.tr x2).tr x3
      cases b with
      | true =>
        exact iteT (hc rfl Z σ H3 _ (k.ex xx) (s.mono xx.to) fun w H4 x4 r4 => hr' rfl Z H4 y w Q (k.ex (xx.tr x4)) (r2.mono (x3.tr x4).to) r4 fun v H5 x5 r5 => q v H5 (xx.tr (x4.tr x5)) r5)
      | false => exact iteF (q _ H3 xx (.bl false))
theorem eo_none : EvO tNoPart ρ none := fun _ _ H _ _ _ q => q H (Ex.rf H)
theorem eo_some {i : Int} (h : Ev te ρ (.int i)) : EvO (tPart te) ρ (some i) := fun Z σ H Q k s q => h Z σ H _ k s fun v H1 x1 r1 => by cases r1; exact ⟨i, rfl, q H1 x1⟩

/-! calls of defs: the promise in data -/
def spP (R : List D → D → Prop) : Sp := fun vs H Q _ => ∃ (Z : Addr → Prop) (ds : List D) (d : D), okZ Z H ∧ Reps Z H vs ds ∧ R ds d ∧ ∀ v H', Ex H H' → Rep Z H' v d → Q v H'
theorem ev_call {R : List D → D → Prop} {E : XK} {ta : TA} (ha : EvA ta ρ ds) (hr : R ds z) : Ev (tCall (spP R) [] E ta) ρ z := fun Z σ H Q k s q =>
  ha Z σ H _ k s fun vs H1 x1 r1 => ⟨Z, ds, z, k.ex x1, by rw [List.append_nil]; exact r1, hr, fun v H2 x2 r2 => q v H2 (x1.tr x2) r2⟩
theorem ev_meth {C : Addr} {m : Str} {R : List D → D → Prop} {E : XK} {ta : TE} {t : TA} {fs : List (Str × D)} (hs : Ev ta ρ (.ins C fs)) (hm : fs.lookup m = none) (ha : EvA t ρ ds) (hr : R (.ins C fs :: ds) z) : Ev (tMeth C m (spP R) [] E ta t) ρ z := fun Z σ H Q k s q =>
  hs Z σ H _ k s fun x H0 x0 r0 => by
    cases r0 with
    | ins n h rs =>
      exact ⟨_, _, _, rfl, h, rs.none hm, ha Z σ H0 _ (k.ex x0) (s.mono x0.to) fun vs H1 x1 r1 => ⟨Z, _, z, (k.ex x0).ex x1, .cons (.ins n (x1.exact h) (rs.mono x1.to)) (by rw [List.append_nil]; exact r1), hr, fun v H2 x2 r2 => q v H2 ((x0.tr x1).tr x2) r2⟩⟩

/-! statements -/
inductive Out where
  | nx (ρ : Rho)
  | rt (d : D)
def Fin (o : Out) (Z : Addr → Prop) (H : Hp) (E : Ends) : Prop := match o with
  | .nx ρ' => ∀ σ' H', Ex H H' → SRep Z H' σ' ρ' → E.nx σ' H'
  | .rt d => ∀ v H', Ex H H' → Rep Z H' v d → E.rt v H'
def St (ts : TS) (ρ : Rho) (o : Out) : Prop := ∀ (Z : Addr → Prop) (σ : L2.St) (H : Hp) (E : Ends), okZ Z H → SRep Z H σ ρ → Fin o Z H E → ts E σ H
def GA (g : TG) (d : D) (ρ ρ' : Rho) : Prop := ∀ (Z : Addr → Prop) (σ : L2.St) (H : Hp) (v : V) (Q : L2.St → Hp → Prop), okZ Z H → SRep Z H σ ρ → Rep Z H v d → (∀ σ', SRep Z H σ' ρ' → Q σ' H) → g v σ H Q
def GAs (g : TGs) (ds : List D) (ρ ρ' : Rho) : Prop := ∀ (Z : Addr → Prop) (σ : L2.St) (H : Hp) (vs : List V) (Q : L2.St → Hp → Prop), okZ Z H → SRep Z H σ ρ → Reps Z H vs ds → (∀ σ', SRep Z H σ' ρ' → Q σ' H) → g vs σ H Q
theorem ga_name {i : Nat} : GA (gName i) d ρ (ρ.set i (some d)) := fun _ _ _ _ _ _ s r q => q _ (s.set i r)
theorem gas_nil : GAs gNil [] ρ ρ := fun _ _ _ _ _ _ s r q => by cases r; exact ⟨rfl, q _ s⟩
theorem gas_cons {g : TG} {gs : TGs} {ρ' ρ'' : Rho} (h : GA g d ρ ρ') (hs : GAs gs ds ρ' ρ'') : GAs (gCons g gs) (d :: ds) ρ ρ'' := fun Z σ H vs Q k s r q => by
  cases r with
  | cons r rs => exact ⟨_, _, rfl, h Z σ H _ _ k s r fun σ' s' => hs Z σ' H _ Q k s' rs q⟩
theorem ga_tup {K : PySem.W.Frag} {gs : TGs} {ρ' : Rho} {n : Nat} (h : GAs gs ds ρ ρ') (hl : ds.length = n) : GA (gTup K n gs) (.tup ds) ρ ρ' := fun Z σ H v Q k s r q => by
  cases r with
  | tup nz h1 rs => exact ⟨_, _, rfl, .inl (.inl h1), rs.len.trans hl, h Z σ H _ Q k s rs q⟩
theorem st_next : St tNext ρ (.nx ρ) := fun _ σ H _ _ s q => q σ H (Ex.rf H) s
theorem st_asg {g : TG} {ρ' : Rho} (h : Ev te ρ d) (hg : GA g d ρ ρ') : St (tAsg te g) ρ (.nx ρ') := fun Z σ H E k s q =>
  h Z σ H _ k s fun v H1 x1 r1 => hg Z σ H1 v _ (k.ex x1) (s.mono x1.to) r1 fun σ' s' => q σ' H1 x1 s'
theorem st_ret (h : Ev te ρ d) : St (tRet te) ρ (.rt d) := fun Z σ H E k s q => h Z σ H _ k s q
theorem st_drop (h : Ev te ρ d) : St (tDrop te) ρ (.nx ρ) := fun Z σ H E k s q => h Z σ H _ k s fun v H1 x1 r1 => q σ H1 x1 (s.mono x1.to)
theorem Fin.ex {o : Out} {Z : Addr → Prop} {H H1 : Hp} {E : Ends} (h : Fin o Z H E) (x : Ex H H1) : Fin o Z H1 E := by
  cases o with
  | nx ρ' => exact fun σ' H' x' s' => h σ' H' (x.tr x') s'
  | rt d => exact fun v H' x' r' => h v H' (x.tr x') r'
theorem Fin.sub {o : Out} {Z : Addr → Prop} {H : Hp} {E E' : Ends} (h : Fin o Z H E) (hn : E.nx = E'.nx) (hr : E.rt = E'.rt) : Fin o Z H E' := by
  cases o with
  | nx ρ' => intro σ' H' x' s'; rw [← hn]; exact h σ' H' x' s'
  | rt d => intro v H' x' r'; rw [← hr]; exact h v H' x' r'
theorem st_seq {t u : TS} {ρ' : Rho} {o : Out} (h : St t ρ (.nx ρ')) (g : St u ρ' o) : St (tSeq t u) ρ o := fun Z σ H E k s q =>
  h Z σ H _ k s fun σ' H1 x1 s1 => g Z σ' H1 E (k.ex x1) s1 (q.ex x1)
theorem st_seqR {t u : TS} (h : St t ρ (.rt d)) : St (tSeq t u) ρ (.rt d) := fun Z σ H E k s q => h Z σ H _ k s q
theorem st_if {c : TT} {t u : TS} {o : Out} (h : EvT c ρ b) (g1 : b = true → St t ρ o) (g2 : b = false → St u ρ o) : St (tIfS c t u) ρ o := fun Z σ H E k s q =>
  h Z σ H _ k s fun H1 x1 => by
    cases b with
    | true => exact iteT (g1 rfl Z σ H1 E (k.ex x1) (s.mono x1.to) (q.ex x1))
    | false => exact iteF (g2 rfl Z σ H1 E (k.ex x1) (s.mono x1.to) (q.ex x1))
theorem st_par {i j : Nat} {ta : TA} (h : EvA ta ρ [d, e]) : St (tPar i j ta) ρ (.nx ((ρ.set i (some d)).set j (some e))) := fun Z σ H E k s q =>
  h Z σ H _ k s fun vs H1 x1 r1 => by
    cases r1 with
    | cons r r1 => cases r1 with
      | cons r' r1 => cases r1; exact ⟨_, _, rfl, q _ H1 x1 (((s.mono x1.to).set i r).set j r')⟩

/-! what is walked -/
def WG (Z : Addr → Prop) (H1 : Hp) (H : Hp) : Prop := Ext Z H1 H ∧ okZ Z H
def WY (Z : Addr → Prop) (ds : List D) (i : Nat) (H : Hp) (x : V) (H' : Hp) : Prop := Ex H H' ∧ ∃ d, ds[i]? = some d ∧ Rep Z H' x d
def DW (Z : Addr → Prop) (J : It) (H1 : Hp) (ds : List D) : Prop := ∀ Z' : Addr → Prop, (∀ a, Z' a → Z a ∨ H1 a = none) → Walk J ds.length (WG Z' H1) (WY Z' ds)
def EvI (wi : TI) (ρ : Rho) (ds : List D) : Prop := ∀ (Z : Addr → Prop) (σ : L2.St) (H : Hp) (R : It → Hp → Prop), okZ Z H → SRep Z H σ ρ → (∀ J H1, Ex H H1 → DW Z J H1 ds → R J H1) → wi σ H R
theorem ei_list {K : PySem.W.Frag} {tl : TE} (h : Ev tl ρ (.lst ds)) : EvI (iList K tl) ρ ds := fun Z σ H R k s q =>
  h Z σ H _ k s fun x H1 x1 r1 => by
    cases r1 with
    | lst n h1 rs =>
      refine ⟨_, rfl, ⟨_, .inl (.inl h1)⟩, q _ H1 x1 fun Z' hz => ?_⟩
      have nz : ¬ Z' _ := fun z => (hz _ z).elim n fun e => by rw [h1] at e; cases e
      rw [← rs.len]
      refine walk_list.mono (fun H g => .inl (.inl (g.1.exact nz h1))) fun i Hc x H' hi g y => ?_
      obtain ⟨rfl, y⟩ := y
      obtain ⟨d, e1, e2⟩ := (rs.zs hz).getV y
      exact ⟨Ex.rf _, d, e1, e2.mono g.1⟩
theorem ei_tup {K : PySem.W.Frag} {tl : TE} (h : Ev tl ρ (.tup ds)) : EvI (iTup K tl) ρ ds := fun Z σ H R k s q =>
  h Z σ H _ k s fun x H1 x1 r1 => by
    cases r1 with
    | tup n h1 rs =>
      refine ⟨_, rfl, ⟨_, .inl (.inl h1)⟩, q _ H1 x1 fun Z' hz => ?_⟩
      have nz : ¬ Z' _ := fun z => (hz _ z).elim n fun e => by rw [h1] at e; cases e
      rw [← rs.len]
      refine walk_tup.mono (fun H g => .inl (.inl (g.1.exact nz h1))) fun i Hc x H' hi g y => ?_
      obtain ⟨rfl, y⟩ := y
      obtain ⟨d, e1, e2⟩ := (rs.zs hz).getV y
      exact ⟨Ex.rf _, d, e1, e2.mono g.1⟩
/-- a list or a tuple -/
def iSeq (K : PySem.W.Frag) (tl : TE) : TI := fun σ H R => iList K tl σ H R ∨ iTup K tl σ H R
theorem pi_seq {X : Cx} {tg l : Expr} {tl : TE} (h : PE X l tl) : PI X tg l (iSeq X.K tl) := ⟨fun pins s σ H R I q => q.elim (fun q => (pi_list h).run pins s σ H R I q) fun q => (pi_tup h).run pins s σ H R I q⟩
theorem ei_seqL {K : PySem.W.Frag} {tl : TE} (h : Ev tl ρ (.lst ds)) : EvI (iSeq K tl) ρ ds := fun Z σ H R k s q => .inl (ei_list h Z σ H R k s q)
theorem ei_seqT {K : PySem.W.Frag} {tl : TE} (h : Ev tl ρ (.tup ds)) : EvI (iSeq K tl) ρ ds := fun Z σ H R k s q => .inr (ei_tup h Z σ H R k s q)
theorem ei_range1 {ta : TA} {n : Nat} (h : EvA ta ρ [.int n]) (hn : n < 1000000) : EvI (iRng1 ta) ρ ((List.range n).map fun (i : Nat) => D.int i) := fun Z σ H R k s q =>
  h Z σ H _ k s fun vs H1 x1 r1 => by
    cases r1 with
    | cons r r1 =>
      cases r; cases r1
      refine ⟨n, rfl, by omega, by omega, q _ H1 x1 fun Z' hz => ?_⟩
      rw [List.length_map, List.length_range]
      refine walk_range.mono (fun _ _ => trivial) fun i Hc x H' hi g y => ?_
      obtain ⟨rfl, rfl⟩ := y
      have hi' : i < n := by simpa using hi
      refine ⟨Ex.rf _, .int i, ?_, by show Rep Z' _ (V.int (0 + (i : Int))) _; rw [Int.zero_add]; exact .int i⟩
      rw [List.getElem?_map, List.getElem?_range hi']; rfl
theorem ei_enum {K : PySem.W.Frag} {ta : TA} (h : EvA ta ρ [.lst ds]) : EvI (iEnum K ta) ρ (ds.zipIdx.map fun p => D.tup [.int p.2, p.1]) := fun Z σ H R k s q =>
  h Z σ H _ k s fun vs H1 x1 r1 => by
    cases r1 with
    | cons r r1 =>
      cases r1
      cases r with
      | lst n h1 rs =>
        refine ⟨_, _, rfl, .inl (.inl h1), q _ H1 x1 fun Z' hz => ?_⟩
        have nz : ¬ Z' _ := fun z => (hz _ z).elim n fun e => by rw [h1] at e; cases e
        rw [List.length_map, List.length_zipIdx, ← rs.len]
        refine walk_enum.mono (fun H g => .inl (.inl (g.1.exact nz h1))) fun i Hc x H' hi g y => ?_
        obtain ⟨T, a, b, rfl, hT, rfl, e1, e2⟩ := y
        cases e1
        obtain ⟨d, e3, e4⟩ := (rs.zs hz).getV e2
        refine ⟨Ex.new hT, .tup [.int i, d], ?_, .tup (g.2.no hT) upd_same (.cons (.int _) (.cons (e4.mono (g.1.tr (Ext.new hT))) .nil))⟩
        rw [List.getElem?_map, List.getElem?_zipIdx, e3]
        simp
theorem ei_zip {K : PySem.W.Frag} {ta : TA} (h : EvA ta ρ [.lst ds, .lst es]) : EvI (RZ.iZipA K ta) ρ ((ds.zip es).map fun p => D.tup [p.1, p.2]) := fun Z σ H R k s q =>
  h Z σ H _ k s fun vs H1 x1 r1 => by
    cases r1 with
    | cons r r1 => cases r1 with
      | cons r' r1 =>
        cases r1
        cases r with
        | lst n h1 rs => cases r' with
          | lst n' h1' rs' =>
            refine ⟨_, _, _, _, rfl, .inl ⟨.inl (.inl h1), .inl (.inl h1'), q _ H1 x1 fun Z' hz => ?_⟩⟩
            have nz : ¬ Z' _ := fun z => (hz _ z).elim n fun e => by rw [h1] at e; cases e
            have nz' : ¬ Z' _ := fun z => (hz _ z).elim n' fun e => by rw [h1'] at e; cases e
            rw [List.length_map, List.length_zip, ← rs.len, ← rs'.len]
            refine (walk_zip rfl).mono (fun H g => ⟨.inl (.inl (g.1.exact nz h1)), .inl (.inl (g.1.exact nz' h1'))⟩) fun i Hc x H' hi g y => ?_
            obtain ⟨T, a, b, rfl, hT, rfl, e1, e2⟩ := y
            obtain ⟨d, e3, e4⟩ := (rs.zs hz).getV e1
            obtain ⟨d', e3', e4'⟩ := (rs'.zs hz).getV e2
            refine ⟨Ex.new hT, .tup [d, d'], ?_, .tup (g.2.no hT) upd_same (.cons (e4.mono (g.1.tr (Ext.new hT))) (.cons (e4'.mono (g.1.tr (Ext.new hT))) .nil))⟩
            rw [List.getElem?_map, List.getElem?_zip_eq_some (z := (d, d')) |>.mpr ⟨e3, e3'⟩]; rfl

/-! comprehensions -/
theorem wipe_len (σ : L2.St) : ∀ vs : List Nat, (wipe σ vs).length = σ.length
  | [] => rfl
  | v :: vs => by unfold wipe; rw [List.length_set, wipe_len σ vs]
theorem wipe_set {σ : L2.St} {i : Nat} {x : Option V} : ∀ {vs : List Nat}, i ∈ vs → wipe (σ.set i x) vs = wipe σ vs
  | v :: vs, h => by
    unfold wipe
    by_cases hv : i ∈ vs
    · rw [wipe_set hv]
    · have e : i = v := by simpa [hv] using h
      subst e
      have : ∀ ws : List Nat, i ∉ ws → wipe (σ.set i x) ws = (wipe σ ws).set i x := by
        intro ws
        induction ws with
        | nil => intro _; rfl
        | cons w ws ih =>
          intro hw
          unfold wipe
          rw [ih (fun z => hw (List.mem_cons_of_mem _ z)), List.set_comm _ _ (fun z => hw (by rw [z]; exact List.mem_cons_self))]
      rw [this vs hv, List.set_set]
theorem wipe_wipe (σ : L2.St) (vs : List Nat) : wipe (wipe σ vs) vs = wipe σ vs := by
  have : ∀ ws : List Nat, (∀ w ∈ ws, w ∈ vs) → wipe (wipe σ ws) vs = wipe σ vs := by
    intro ws
    induction ws with
    | nil => intro _; rfl
    | cons w ws ih => intro h; show wipe ((wipe σ ws).set w none) vs = _; rw [wipe_set (h w List.mem_cons_self), ih fun z hz => h z (List.mem_cons_of_mem _ hz)]
  exact this vs fun _ h => h
def GW (g : TG) (vs : List Nat) (d : D) (ρ ρ' : Rho) : Prop := ∀ (Z : Addr → Prop) (σ : L2.St) (H : Hp) (v : V) (Q : L2.St → Hp → Prop), okZ Z H → SRep Z H σ ρ → Rep Z H v d → (∀ σ', SRep Z H σ' ρ' → wipe σ' vs = wipe σ vs → Q σ' H) → g v σ H Q
def GWs (g : TGs) (vs : List Nat) (ds : List D) (ρ ρ' : Rho) : Prop := ∀ (Z : Addr → Prop) (σ : L2.St) (H : Hp) (xs : List V) (Q : L2.St → Hp → Prop), okZ Z H → SRep Z H σ ρ → Reps Z H xs ds → (∀ σ', SRep Z H σ' ρ' → wipe σ' vs = wipe σ vs → Q σ' H) → g xs σ H Q
theorem gw_name {i : Nat} {vs : List Nat} (h : i ∈ vs) : GW (gName i) vs d ρ (ρ.set i (some d)) := fun _ _ _ _ _ _ s r q => q _ (s.set i r) (wipe_set h)
theorem gws_nil {vs : List Nat} : GWs gNil vs [] ρ ρ := fun _ _ _ _ _ _ s r q => by cases r; exact ⟨rfl, q _ s rfl⟩
theorem gws_cons {g : TG} {gs : TGs} {vs : List Nat} {ρ' ρ'' : Rho} (h : GW g vs d ρ ρ') (hs : GWs gs vs ds ρ' ρ'') : GWs (gCons g gs) vs (d :: ds) ρ ρ'' := fun Z σ H xs Q k s r q => by
  cases r with
  | cons r rs => exact ⟨_, _, rfl, h Z σ H _ _ k s r fun σ' s' w' => hs Z σ' H _ Q k s' rs fun σ'' s'' w'' => q σ'' s'' (w''.trans w')⟩
theorem gw_tup {K : PySem.W.Frag} {gs : TGs} {vs : List Nat} {ρ' : Rho} {n : Nat} (h : GWs gs vs ds ρ ρ') (hl : ds.length = n) : GW (gTup K n gs) vs (.tup ds) ρ ρ' := fun Z σ H v Q k s r q => by
  cases r with
  | tup nz h1 rs => exact ⟨_, _, rfl, .inl (.inl h1), rs.len.trans hl, h Z σ H _ Q k s rs q⟩
theorem okZ.add {Z : Addr → Prop} {H : Hp} {p : Addr} {o : HO} (k : okZ Z H) (ho : isTup o = false) : okZ (fun a => Z a ∨ a = p) (L2.upd H p o) := fun a z => by
  by_cases e : a = p
  · subst e; exact ⟨o, upd_same, ho⟩
  · rw [upd_ne e]; exact k a (z.resolve_right e)
theorem lc_main {α : Type} {xs : List α} {φ : α → D} {J : It} {g : TG} {vs : List Nat} {pb : α → Bool} {fe : α → D} {Z : Addr → Prop} {σ : L2.St} {H1 : Hp} {Q : VK} (k1 : okZ Z H1) (s0 : SRep Z H1 σ ρ) (w1 : DW Z J H1 (xs.map φ)) (hz : xs.length ≤ 100000)
    (hb : ∀ x ∈ xs, ∃ ρ', GW g vs (φ x) (wipeR ρ vs) ρ' ∧ EvT tt ρ' (pb x) ∧ (pb x = true → Ev te ρ' (fe x)))
    (q : ∀ v H', Ex H1 H' → Rep Z H' v (.lst ((xs.filter pb).map fe)) → Q v H') : ∀ Dd, H1 Dd = none → ∃ W : Nat → Nat → Hp → Prop, (∃ m, W 0 m (upd H1 Dd (.lst []))) ∧ ∀ i m H, W i m H →
    (J.stop i H ∧ Q (.ref Dd) H) ∨ (J.go i H ∧ ∃ Nx : Hp → Prop, (∀ H', Nx H' → ∃ m', m' < m ∧ W (i + 1) m' H') ∧ ∀ x H', J.yld i H x H' → g x (wipe σ vs) H' fun σ2 H2 => wipe σ2 vs = wipe σ vs ∧ tt σ2 H2 fun b H3 =>
      if b = true then te σ2 H3 fun y H4 => ∃ acc, H4 Dd = some (.lst acc) ∧ acc.length < sizeLine ∧ Nx (upd H4 Dd (.lst (acc ++ [y]))) else Nx H3) := by
  intro Dd hD
  have hz' : ∀ a, (Z a ∨ a = Dd) → Z a ∨ H1 a = none := fun a z => z.imp id fun (e : a = Dd) => by rw [e]; exact hD
  have W := w1 (fun a => Z a ∨ a = Dd) hz'
  have s1 : SRep (fun a => Z a ∨ a = Dd) H1 σ ρ := s0.zs hz'
  refine lc_it W (fun i Hc => Ext (fun a => Z a ∨ a = Dd) H1 Hc ∧ okZ (fun a => Z a ∨ a = Dd) Hc ∧ (∀ a o, Z a → H1 a = some o → Hc a = some o) ∧ ∃ acc, Hc Dd = some (.lst acc) ∧ Reps (fun a => Z a ∨ a = Dd) Hc acc (((xs.take i).filter pb).map fe)) ?_ ?_ ?_ ?_
  · refine ⟨Ext.new hD, k1.add rfl, fun a o z h => by rw [upd_ne (ne_of_none h hD)]; exact h, [], upd_same, by simpa using .nil⟩
  · rintro i Hc hi ⟨e1, e2, _⟩
    exact ⟨e1, e2⟩
  · rintro i x Hc H' hi ⟨e1, e2, e3, acc, e4, e5⟩ ⟨y1, d0, y20, y3⟩
    rw [List.getElem?_map] at y20
    obtain ⟨d, y2, rfl⟩ := Option.map_eq_some_iff.mp y20
    have hm : d ∈ xs := List.mem_of_getElem? y2
    obtain ⟨ρ', g1, g2, g3⟩ := hb d hm
    have x' : Ext (fun a => Z a ∨ a = Dd) H1 H' := e1.tr y1.to
    refine g1 _ (wipe σ vs) H' x _ (e2.ex y1) ((s1.wipe vs).mono x') y3 fun σ' s' w' => ⟨w'.trans (wipe_wipe σ vs), ?_⟩
    refine g2 _ σ' H' _ (e2.ex y1) s' fun H3 x3 => ?_
    have y13 := y1.tr x3
    have et : xs.take (i + 1) = xs.take i ++ [d] := by rw [List.take_add_one, y2]; rfl
    have keep : ∀ {Hn : Hp}, Ex Hc Hn → ∀ a o, Z a → H1 a = some o → Hn a = some o := fun xx a o z h => xx a o (e3 a o z h)
    cases hp : pb d with
    | true =>
      refine iteT (g3 hp _ σ' H3 _ (e2.ex y13) (s'.mono x3.to) fun v H4 x4 r4 => ?_)
      have y14 := y13.tr x4
      refine ⟨acc, y14.exact e4, Nat.lt_of_le_of_lt (m := 100000) ?_ (by decide), ?_⟩
      · rw [e5.len, List.length_map]
        exact Nat.le_trans (List.length_filter_le _ _) (Nat.le_trans (by rw [List.length_take]; exact Nat.min_le_right _ _) hz)
      · refine ⟨(e1.tr y14.to).mut (.inr rfl), (e2.ex y14).upd rfl, fun a o z h => ?_, _, upd_same, ?_⟩
        · rw [upd_ne (ne_of_none h hD)]
          exact keep y14 a o z h
        · rw [et, List.filter_append, List.map_append]
          have xm : Ext (fun a => Z a ∨ a = Dd) H4 (upd H4 Dd (.lst (acc ++ [v]))) := (Ext.rf H4).mut (.inr rfl)
          refine ((e5.mono y14.to).mono xm).app ?_
          have ef : [d].filter pb = [d] := by simp [hp]
          rw [ef]
          exact .cons (r4.mono xm) .nil
    | false =>
      refine iteF ⟨e1.tr y13.to, e2.ex y13, keep y13, acc, y13.exact e4, ?_⟩
      rw [et, List.filter_append, List.map_append]
      have ef : [d].filter pb = [] := by simp [hp]
      rw [ef]
      simpa using e5.mono y13.to
  · rintro Hc ⟨e1, e2, e3, acc, e4, e5⟩
    rw [List.length_map, List.take_length] at e5
    have xx : Ex H1 Hc := fun a o h => by
      by_cases z : Z a
      · exact e3 a o z h
      · exact e1 a o (fun y => y.elim z (ne_of_none h hD)) h
    exact q _ Hc xx (.lst (k1.no hD) e4 (e5.zs fun a z => .inl (.inl z)))
theorem ev_lc {α : Type} {xs : List α} {φ : α → D} {wi : TI} {g : TG} {vs : List Nat} {pb : α → Bool} {fe : α → D} (hi : EvI wi ρ (xs.map φ)) (hz : xs.length ≤ 100000)
    (hb : ∀ x ∈ xs, ∃ ρ', GW g vs (φ x) (wipeR ρ vs) ρ' ∧ EvT tt ρ' (pb x) ∧ (pb x = true → Ev te ρ' (fe x))) : Ev (tLc wi g tt te vs) ρ (.lst ((xs.filter pb).map fe)) := fun Z σ H Q k s q =>
  hi Z σ H _ k s fun J H1 x1 w1 => lc_main (k.ex x1) (s.mono x1.to) w1 hz hb fun v H' x' r' => q v H' (x1.tr x') r'
theorem ev_lc1 {α : Type} {xs : List α} {φ : α → D} {wi : TI} {g : TG} {vs : List Nat} {fe : α → D} (hi : EvI wi ρ (xs.map φ)) (hz : xs.length ≤ 100000)
    (hb : ∀ x ∈ xs, ∃ ρ', GW g vs (φ x) (wipeR ρ vs) ρ' ∧ Ev te ρ' (fe x)) : Ev (tLc wi g tYes te vs) ρ (.lst (xs.map fe)) := by
  have h := ev_lc (tt := tYes) (te := te) (g := g) (vs := vs) (pb := fun _ => true) (fe := fe) hi hz fun d hd => let ⟨ρ', h1, h2⟩ := hb d hd; ⟨ρ', h1, et_yes, fun _ => h2⟩
  rwa [List.filter_eq_self.mpr (fun _ _ => rfl)] at h
/-! loops -/
theorem st_for {wi : TI} {g : TG} {tb : TS} (rs : Nat → Rho) (hi : EvI wi ρ ds) (h0 : Lq (rs 0) ρ)
    (hb : ∀ (i : Nat) d, ds[i]? = some d → ∃ ρ' ρ'', GA g d (rs i) ρ' ∧ St tb ρ' (.nx ρ'') ∧ Lq (rs (i + 1)) ρ'') : St (tFor wi g tb) ρ (.nx (rs ds.length)) := fun Z σ H E k s q =>
  hi Z σ H _ k s fun J H1 x1 w1 => by
    refine for_it (w1 Z fun a z => .inl z) (fun i σ Hc => Ex H1 Hc ∧ SRep Z Hc σ (rs i)) ⟨Ex.rf H1, (s.mono x1.to).lq h0⟩ (fun i σ Hc _ h => ⟨h.1.to, (k.ex x1).ex h.1⟩) ?_ fun σ Hc h => q σ Hc (x1.tr h.1) h.2
    rintro i x σ Hc H' hi ⟨e1, e2⟩ ⟨y1, d, y2, y3⟩
    obtain ⟨ρ', ρ'', g1, g2, gl⟩ := hb i d y2
    have k' := (k.ex x1).ex (e1.tr y1)
    refine g1 Z σ H' x _ k' (e2.mono y1.to) y3 fun σ' s' => ?_
    exact g2 Z σ' H' _ k' s' fun σ'' H'' x'' s'' => ⟨e1.tr (y1.tr x''), s''.lq gl⟩
/-- a loop that a return leaves at its turn n -/
theorem st_forR {wi : TI} {g : TG} {tb : TS} {z : D} (rs : Nat → Rho) (n : Nat) (hi : EvI wi ρ ds) (h0 : Lq (rs 0) ρ) (hn : n < ds.length)
    (hb : ∀ (i : Nat) d, i < n → ds[i]? = some d → ∃ ρ' ρ'', GA g d (rs i) ρ' ∧ St tb ρ' (.nx ρ'') ∧ Lq (rs (i + 1)) ρ'')
    (hl : ∀ d, ds[n]? = some d → ∃ ρ', GA g d (rs n) ρ' ∧ St tb ρ' (.rt z)) : St (tFor wi g tb) ρ (.rt z) := fun Z σ H E k s q =>
  hi Z σ H _ k s fun J H1 x1 w1 => by
    refine for_it (w1 Z fun a z => .inl z) (fun i σ Hc => i ≤ n ∧ Ex H1 Hc ∧ SRep Z Hc σ (rs i)) ⟨Nat.zero_le _, Ex.rf H1, (s.mono x1.to).lq h0⟩ (fun i σ Hc _ h => ⟨h.2.1.to, (k.ex x1).ex h.2.1⟩) ?_ fun σ Hc h => absurd h.1 (by omega)
    rintro i x σ Hc H' hi ⟨e0, e1, e2⟩ ⟨y1, d, y2, y3⟩
    have k' := (k.ex x1).ex (e1.tr y1)
    by_cases hin : i < n
    · obtain ⟨ρ', ρ'', g1, g2, gl⟩ := hb i d hin y2
      refine g1 Z σ H' x _ k' (e2.mono y1.to) y3 fun σ' s' => ?_
      exact g2 Z σ' H' _ k' s' fun σ'' H'' x'' s'' => ⟨hin, e1.tr (y1.tr x''), s''.lq gl⟩
    · have en : i = n := by omega
      subst en
      obtain ⟨ρ', g1, g2⟩ := hl d y2
      refine g1 Z σ H' x _ k' (e2.mono y1.to) y3 fun σ' s' => ?_
      exact g2 Z σ' H' _ k' s' fun v H'' x'' r'' => q v H'' (x1.tr (e1.tr (y1.tr x''))) r''
/-! a def whose body is pure -/
def Ret (ts : TS) (ρ : Rho) (d : D) : Prop := St ts ρ (.rt d) ∨ d = .non ∧ ∃ ρ', St ts ρ (.nx ρ')
def rho0 (N : List Str) (ds : List D) : Rho := ds.map some ++ List.replicate (N.length - ds.length) none
theorem pure_ok {P : Program} {w : World} {K : PySem.W.Frag} {mg : Str → Option Value} {base : Heap} {x qual : Str} {stm : Stmt} {fa : Addr} {fd : FuncData} {N ps : List Str} {k : Nat} {R : List D → D → Prop} (F : Fun K x qual stm fa fd) (S : FnScope N ps (defScope stm)) (len : ∀ ds d, R ds d → ds.length = ps.length)
    (hb : ∀ (cdv : Value) (A : Around) (outer : List Env) (s : Shared) (H : Hp) (E : XK), Room k (A.deeper (PyProof.Rows.envOfC qual (defScope stm) s.heap.objs.size fa cdv)) →
      ∃ t, PSs (cxOf CX0 P w K mg base N qual (defScope stm) fa cdv A outer s H E).nox (defBody stm) t ∧ ∀ ds d, R ds d → Ret t (rho0 N ds) d) : FnOk P w K mg base CX0 (k + 1) fa fd ps (spP R) := by
  refine F.ok S (fun vs H Q E h => ?_) (fun cdv A outer s H vs Q E hr h => ?_)
  · obtain ⟨Z, ds, d, _, r, hR, _⟩ := h
    exact r.len.trans (len ds d hR)
  · obtain ⟨Z, ds, d, ok, r, hR, q⟩ := h
    obtain ⟨t, ht, hs⟩ := hb cdv A outer s H E hr
    refine ⟨t, ht, ?_⟩
    have s0 : SRep Z H (L2.start N vs) (rho0 N ds) := by
      unfold L2.start rho0
      rw [r.len]
      exact SRep.start r _
    rcases hs ds d hR with h | ⟨rfl, ρ', h⟩
    · exact h Z _ H _ ok s0 fun v H' x' r' => q v H' x' r'
    · exact h Z _ H _ ok s0 fun σ' H' x' s' => q .non H' x' .non
end
end Du
namespace Du
open PySem L2 PySem.Spec PyProof.Rows

/-! sets of texts: made of a list, sorted -/
def txt (e : Int × Value) : Str := match e.2 with | .str x _ => x | _ => Str.empty
def IsTxt (w : World) (e : Int × Value) : Prop := ∃ x tk, e.2 = Value.str x tk ∧ e.1 = hashStr w x
/-- the set at a holds just the texts of L, which are unlike -/
def TxtSet (w : World) (h : Heap) (a : Addr) (L : List Str) : Prop :=
  ∃ o es ep t, h.get? a = some o ∧ o.ExactSet ∧ o.data = .set es ep t ∧ (∀ e ∈ es.toList, IsTxt w e) ∧ (es.toList.map txt).Perm L ∧ L.Nodup ∧
    es.size < scanBound ∧ t.fits es.size = true ∧ Ris t.place.toList ∧ (w.params.followText "set-order" = true ∨ t.led = true)
section
variable {P : Program} {w : World} {A : Around} {E : Value → Shared → Prop} {s : Shared} {a : Addr} {L : List Str}
theorem TxtSet.at {h h' : Heap} (R : TxtSet w h a L) (k : ∀ o, h.get? a = some o → h'.get? a = some o) : TxtSet w h' a L := by
  obtain ⟨o, es, ep, t, ho, r⟩ := R
  exact ⟨o, es, ep, t, k o ho, r⟩
theorem txt_elems {l : List (Int × Value)} (g : ∀ e ∈ l, IsTxt w e) : ElemsOf (strKind P w) l := fun e he => by
  obtain ⟨k, tk, h1, h2⟩ := g e he
  exact ⟨⟨k, by rw [h1]; exact strKind_is P w k tk, h2⟩, by rw [h1] <;> rfl⟩
theorem txt_is {e : Int × Value} (g : IsTxt w e) (k : Str) : (strKind P w).is k e.2 = true ↔ txt e = k := by
  obtain ⟨k0, tk, h1, _⟩ := g
  unfold txt
  rw [h1]
  constructor
  · intro h
    obtain ⟨t, e⟩ := Value.isStrOf_shape (x := k) (v := .str k0 tk) h
    injection e
  · rintro rfl
    exact strKind_is P w _ tk
theorem txt_mem {l : List (Int × Value)} (g : ∀ e ∈ l, IsTxt w e) (k : Str) : k ∈ l.map txt ↔ ∃ e ∈ l, (strKind P w).is k e.2 = true := by
  rw [List.mem_map]
  exact ⟨fun ⟨e, he, q⟩ => ⟨e, he, (txt_is (g e he) k).2 q⟩, fun ⟨e, he, q⟩ => ⟨e, he, (txt_is (g e he) k).1 q⟩⟩
theorem txt_store {g : Bool → Sem Unit} (hg : ∀ (b : Bool) (s₁ : Shared) (Q' : Unit → Shared → Prop), Q' () s₁ → wpAny (model P w) A (g b) Q' E s₁)
    {o : Obj} {es : Array (Int × Value)} {ep : Nat} {t : SetTable} (ho : s.heap.get? a = some o) (hex : o.ExactSet) (hd : o.data = .set es ep t)
    {ns : Array (Int × Value)} {u : SetTable} (g1 : ∀ e ∈ ns.toList, IsTxt w e) (m1 : (ns.toList.map txt).Perm L) (nd : L.Nodup)
    (hb1 : ns.size < scanBound) (hf2 : u.fits ns.size = true) (hr : Ris u.place.toList) (hl : w.params.followText "set-order" = true ∨ u.led = true) {dm : Bool} {R : Option Bool → Shared → Prop}
    (hR : ∀ h', Heap.SameBut a s.heap h' → TxtSet w h' a L → R (some true) { s with heap := h' }) :
    wpAny (model P w) A (do
        storeSet a ns u
        if (!dm && u.tooFull) = true then do
            g (relayAll u ns (SetTable.grown ns.size)).2.2
            storeSet a (relayAll u ns (SetTable.grown ns.size)).1 (relayAll u ns (SetTable.grown ns.size)).2.1
            pure (some true)
          else pure (some true)) R E s := by
  refine wpAny_bind (wpAny_storeSet_of ho hd ?_ (fits_of_scanBound hb1))
  have ho1 := store_at (es' := ns) (t' := u) ho hd
  have sb1 := Heap.SameBut.update s.heap a (Obj.putSet ns u)
  split
  · have pm := relayAll_perm u ns (SetTable.grown ns.size)
    have f3 := relayAll_fits u ns (SetTable.grown ns.size)
    have r3 := relayAll_ris u ns (SetTable.grown ns.size)
    have l3 := relayAll_led u ns (SetTable.grown ns.size)
    generalize relayAll u ns (SetTable.grown ns.size) = Y at pm f3 r3 l3 ⊢
    obtain ⟨ms, v, gave⟩ := Y
    dsimp only at pm f3 r3 l3 ⊢
    have sz : ms.size = ns.size := by rw [← Array.length_toList, pm.length_eq, Array.length_toList]
    have b2 : ms.size < scanBound := by rw [sz]; exact hb1
    refine wpAny_bind (hg _ _ _ ?_)
    refine wpAny_bind (wpAny_storeSet_of ho1 rfl ?_ (fits_of_scanBound b2))
    refine wpAny_pure (hR _ (sb1.trans (Heap.SameBut.update _ a _)) ?_)
    exact ⟨_, ms, _, v, store_at (es' := ms) (t' := v) ho1 rfl, hex, rfl, fun e he => g1 e (pm.mem_iff.mp he), (pm.map txt).trans m1, nd, b2, f3, r3, hl.imp id fun z => by rw [l3]; exact z⟩
  · exact wpAny_pure (hR _ sb1 ⟨_, ns, _, u, ho1, hex, rfl, g1, m1, nd, hb1, hf2, hr, hl⟩)
/-- the texts, a further one among them -/
def addT (L : List Str) (k : Str) : List Str := if k ∈ L then L else k :: L
theorem txt_add {k : Str} {tk : Tok} {Q : Bool → Shared → Prop} (R : TxtSet w s.heap a L) (room : L.length + 1 < scanBound)
    (hQ : ∀ h' b, Heap.SameBut a s.heap h' → TxtSet w h' a (addT L k) → Q b { s with heap := h' }) :
    wpAny (model P w) A (setAddHashed a (.str k tk) ((strKind P w).hash k)) Q E s := by
  obtain ⟨o, es, ep, t, ho, hex, hd, g, pl, nd, hb, hf, hr, hl⟩ := R
  have hkey : (strKind P w).is k (.str k tk) = true := strKind_is P w k tk
  have hsc : (Value.str k tk).scannable = true := rfl
  have hel : ElemsOf (strKind P w) es.toList := txt_elems g
  unfold setAddHashed setAddHashedIn
  refine wpAny_holding (wpAny_bind (wpAny_setState_of ho hd hf ?_))
  dsimp only
  rw [byScan_of hsc hb hel]
  simp only [↓reduceIte]
  unfold setAddByScan
  refine wpAny_bind ?_
  refine wpAny_bind (wpAny_rule ?_)
  refine wpAny_bind (wpAny_setScan_of hkey ho hd hf hel ?_)
  cases hfi : List.findIdx? (fun e => (strKind P w).is k e.2) es.toList with
  | some j =>
    dsimp only
    obtain ⟨hj, pj, _⟩ := List.findIdx?_eq_some_iff_getElem.mp hfi
    have hk : k ∈ L := pl.mem_iff.mp ((txt_mem (P := P) g k).2 ⟨es.toList[j], List.getElem_mem hj, pj⟩)
    refine wpAny_pure (wpAny_pure ?_)
    refine hQ s.heap _ (Heap.SameBut.refl a s.heap) ?_
    unfold addT
    rw [if_pos hk]
    exact ⟨o, es, ep, t, ho, hex, hd, g, pl, nd, hb, hf, hr, hl⟩
  | none =>
    dsimp only
    have hnk : k ∉ L := fun z => by
      obtain ⟨e, he, q⟩ := (txt_mem (P := P) g k).1 (pl.mem_iff.mpr z)
      have c := List.findIdx?_eq_none_iff.mp hfi e he
      rw [q] at c
      cases c
    have ea : addT L k = k :: L := if_neg hnk
    have hgw : ∀ (b : Bool) {s₁ : Shared} {Q' : Unit → Shared → Prop}, Q' () s₁ → wpAny (model P w) A (match b with | true => rule "set.scan.the-table-gave-way" | false => pure ()) Q' E s₁ :=
      fun b s₁ Q' q => by cases b <;> first | exact wpAny_pure q | exact wpAny_rule q
    have pm := layNew_perm t es ((strKind P w).hash k) (.str k tk)
    have f1 := layNew_fits t es ((strKind P w).hash k) (.str k tk)
    have r1 := layNew_ris t es ((strKind P w).hash k) (.str k tk) hr
    have l1 := layNew_led t es ((strKind P w).hash k) (.str k tk)
    generalize layNew t es ((strKind P w).hash k) (.str k tk) = Y at pm f1 r1 l1 ⊢
    obtain ⟨ns, u, wd, gave⟩ := Y
    dsimp only at pm f1 r1 l1 ⊢
    rw [Array.toList_push] at pm
    have pc : ns.toList.Perm (((strKind P w).hash k, Value.str k tk) :: es.toList) := pm.trans (List.perm_append_singleton _ _)
    have pk : (ns.toList.map txt).Perm (addT L k) := by
      rw [ea]
      exact (pc.map txt).trans (pl.cons k)
    have g1 : ∀ e ∈ ns.toList, IsTxt w e := fun e he => by
      rcases List.mem_cons.mp (pc.mem_iff.mp he) with z | z
      · rw [z]; exact ⟨k, tk, rfl, rfl⟩
      · exact g e z
    have nd1 : (addT L k).Nodup := by rw [ea]; exact List.nodup_cons.mpr ⟨hnk, nd⟩
    have hsz : ns.size = L.length + 1 := by rw [← Array.length_toList, ← List.length_map txt, pk.length_eq, ea, List.length_cons]
    have hb1 : ns.size < scanBound := by rw [hsz]; exact room
    have hled : w.params.followText "set-order" = true ∨ u.led = true := hl.imp id fun z => by rw [l1]; exact z
    refine wpAny_bind (hgw _ ?_)
    split
    · refine wpAny_bind ?_
      rw [hashByValue_scannable 8 hsc]
      refine wpAny_pure ?_
      refine txt_store ?_ ho hex hd g1 pk nd1 hb1 ?_ ?_ ?_ ?_
      · intro b s₁ Q' q; cases b <;> first | exact wpAny_pure q | exact wpAny_rule q
      · first | (split <;> first | exact f1 | exact SetTable.fits_plain_off f1) | exact f1
      · first | (split <;> exact r1) | exact r1
      · first | (split <;> exact hled) | exact hled
      · intro h' sb r; dsimp only; exact wpAny_pure (hQ h' _ sb r)
    · refine wpAny_bind (wpAny_pure ?_)
      simp only [↓reduceIte]
      refine txt_store ?_ ho hex hd g1 pk nd1 hb1 f1 r1 hled ?_
      · intro b s₁ Q' q; cases b <;> first | exact wpAny_pure q | exact wpAny_rule q
      · intro h' sb r; dsimp only; exact wpAny_pure (hQ h' _ sb r)
/-- the texts of the first i -/
def addAll (L : List Str) : List Str → List Str
  | [] => L
  | k :: ks => addAll (addT L k) ks
theorem addT_len (L : List Str) (k : Str) : (addT L k).length ≤ L.length + 1 := by
  unfold addT; split <;> simp <;> omega
theorem txt_loop {I : Addr} {fp wr : List Addr} {G : Array GenState → Array GenState → Prop} {n : Nat} {Pv : Nat → Value → Prop} {St : Nat → Shared → Prop} {R : Result → Shared → Prop}
    (W : WalksS P w A.in1 I fp wr G n Pv St) (S : Addr) (hSf : S ∉ fp) (xs : List Str) (hn : n = xs.length) (hfew : xs.length + 1 < scanBound) (hval : ∀ i v, Pv i v → ∃ x tk, xs[i]? = some x ∧ v = .str x tk) :
    ∀ (k i : Nat) (s : Shared) (L : List Str), n - i = k → i ≤ n → St i s → TxtSet w s.heap S L → L.length ≤ i →
      (∀ s', Moved (S :: wr) G s s' → TxtSet w s'.heap S (addAll L (xs.drop i)) → R (.ok (.ret .none)) s') →
      codeAny (model P w) A (.builtin "set.update.loop" ⟨[.ref S, .ref I], []⟩) R s := by
  have nw : S ∉ wr := fun h => hSf (W.sub _ h)
  have sub : ∀ b ∈ wr, b ∈ S :: wr := fun b hb => List.mem_cons_of_mem _ hb
  intro k
  induction k with
  | zero =>
    intro i s L hk hi hst hS hL hR
    have hin : i = n := by omega
    refine codeAny_builtin F.entry_set_update_loop ?_
    rw [Around.under_plainId F.plain_set_update_loop _]
    show wpAny _ A.in1 (pyNext (.ref I) >>= _) _ _ s
    rw [hin] at hst
    refine wpAny_bind (W.done s _ _ hst fun s' hm => ?_)
    show wpAny _ A.in1 (ret Value.none) _ _ s'
    refine wpAny_pure (hR s' (hm.mono sub) ?_)
    have e : xs.drop i = [] := List.drop_eq_nil_of_le (by omega)
    rw [e]
    exact hS.at fun o e => hm.heap S o nw e
  | succ k ih =>
    intro i s L hk hi hst hS hL hR
    have hlt : i < n := by omega
    refine codeAny_builtin F.entry_set_update_loop ?_
    rw [Around.under_plainId F.plain_set_update_loop _]
    show wpAny _ A.in1 (pyNext (.ref I) >>= _) _ _ s
    refine wpAny_bind (W.item i s _ _ hlt hst fun v s' hP hst' hm => ?_)
    obtain ⟨x, tk, hx, rfl⟩ := hval i v hP
    have hS' : TxtSet w s'.heap S L := hS.at fun o e => hm.heap S o nw e
    show wpAny _ A.in1 (holding [Value.str x tk] (setAdd S (.str x tk)) >>= _) _ _ s'
    refine wpAny_bind (wpAny_holding ?_)
    unfold setAdd
    refine wpAny_holding ?_
    refine wpAny_bind ((PySem.strKind P w).pyHash (k := x) (strKind_is P w x tk) ?_)
    refine txt_add (s := { s' with toks := s'.toks + 1 }) hS' (by omega) fun h' b hsb hS2 => ?_
    have ed : xs.drop i = x :: xs.drop (i + 1) := by
      obtain ⟨hl, e⟩ := List.getElem?_eq_some_iff.mp hx
      rw [← e, List.drop_eq_getElem_cons hl]
    refine wpAny_pure ⟨plainId_quiet F.plain_set_update_loop _, ih (i + 1) _ (addT L x) (by omega) hlt (W.frame _ s' _ _ hst' (Nat.le_succ _) fun b hb o e => ?_) hS2 (Nat.le_trans (addT_len L x) (by omega)) fun s'' hm'' hS'' => ?_⟩
    · rw [hsb.2 b (fun h : b = S => hSf (by rw [← h]; exact hb))]; exact e
    · refine hR s'' (Moved.trans W.gtrans ((hm.mono sub).then_heap (Nat.le_succ _) fun b o hb e => ?_) hm'') (by rw [ed]; exact hS'')
      rw [hsb.2 b (fun h : b = S => hb (by rw [h]; exact List.mem_cons_self))]; exact e
abbrev freshSet (w : World) : Obj := { cls := .type "set", dict := none, data := .set #[] 0 (.fresh 0 0 (!w.params.followText "set-order")) }
theorem txt_fresh {h : Heap} (ho : h.get? a = some (freshSet w)) : TxtSet w h a [] :=
  ⟨_, #[], 0, _, ho, ⟨rfl, rfl, rfl⟩, rfl, (fun e he => by simp at he), List.Perm.nil, List.nodup_nil, (by decide), (by rfl), List.Pairwise.nil, by
    show _ ∨ (!w.params.followText "set-order") = true
    cases w.params.followText "set-order"
    · exact .inr rfl
    · exact .inl rfl⟩
theorem call_set_txt {l : Addr} {items : Array Value} (xs : List Str) {Q : Value → Shared → Prop} (hh : A.handled = none) (hl : s.heap.IsList l items) (hit : StrsAre items.toList xs) (hfew : xs.length + 1 < scanBound)
    (h : ∀ (h' : Heap) (tk : Nat), TxtSet w h' s.heap.objs.size (addAll [] xs) → (∀ b o, s.heap.get? b = some o → h'.get? b = some o) → Q (.ref s.heap.objs.size) { s with heap := h', toks := tk }) :
    wpAny (model P w) A (call (.type "set") [.ref l]) Q E s := by
  have hisz : items.size = xs.length := by rw [← Array.length_toList]; exact StrsAre.len_eq hit
  obtain ⟨c, tl, hmro⟩ := F.called_set.mro
  have hmade := F.called_set.made
  have hsub := F.called_set.sub
  refine wpAny_call (codeAny_of_tree ?_)
  show wpAny _ _ (callAny (.type "set") _) _ _ _
  refine wpAny_pure ⟨Code.quiet_builtin _ (by decide +kernel), codeAny_builtin F.entry_type_call ?_⟩
  rw [Around.under_plain (weight_type_call_type "set" [.ref l] []) rfl]
  have h1 := F.called_set.notType
  have h2 := F.called_set.canCreate
  have hct := F.typeCall_set_1 (.ref l)
  repeat (any_goals (first | assumption | wp_step))
  refine codeAny_mono (code_set_led1 (.ref l) (E := E) (Q₁ := fun obj s₁ => obj = .ref s.heap.objs.size ∧ s₁ = { s with heap := s.heap.push (freshSet w) }) ⟨rfl, rfl⟩) fun r s₁ hr => ?_
  cases r with
  | error e => exact hr
  | ok fl =>
    cases fl with
    | ret obj =>
      obtain ⟨rfl, rfl⟩ := hr
      have hS : (s.heap.push (freshSet w)).get? s.heap.objs.size = some (freshSet w) := Heap.get?_push_size _ rfl
      have hT : Shared.TypeIs { s with heap := s.heap.push (freshSet w) } (.ref s.heap.objs.size) "set" := ⟨_, hS, rfl⟩
      have hli := F.called_set.init.lookup
      have hbi := F.called_set.init.bind (.ref s.heap.objs.size)
      repeat (any_goals (first | assumption | wp_step))
      refine codeAny_mono (codeAny_call_builtin (R := wants (fun r s₂ => r = .none ∧ ∃ h' tk, s₂ = { s with heap := h', toks := tk } ∧ TxtSet w h' s.heap.objs.size (addAll [] xs) ∧
          (∀ b o, s.heap.get? b = some o → h'.get? b = some o)) E) F.called_set.init.plain F.entry_set_init (check_set_init_1 hT ?_)) fun r₂ s₂ hr₂ => ?_
      · obtain ⟨ol, hol, hcl, nl, hdl⟩ := hl
        obtain ⟨ocls, odict, odata, oslots⟩ := ol
        simp only at hcl hdl
        subst hcl; subst hdl
        have hol' : (s.heap.push (freshSet w)).get? l = some { cls := .type "list", dict := odict, data := .seq items nl, slots := oslots } := Heap.get?_push_of_some _ hol
        have hsls := F.sub_list_set
        have hslf := F.sub_list_frozenset
        have hne : (Value.type "list" == Value.type "dict") = false := by decide
        have hl1 : (s.heap.push (freshSet w)).IsList l items := ⟨_, hol', rfl, nl, rfl⟩
        unfold Builtin.«set.__init__» noKeywords Builtin.Frozenset.updateFrom
        generalize hPI : pyIter = PI
        wp_walk
        subst hPI
        refine wpAny_pyIter_list hl1 ?_
        refine wpAny_bind (wpAny_runValue ?_)
        have lS : l < s.heap.objs.size := Heap.lt_size hol
        have h3 : A.in1.in1.in1.handled = none := by simp [hh]
        have neI : l ≠ (s.heap.push (freshSet w)).objs.size := by
          rw [Heap.size_push]; exact Nat.ne_of_lt (Nat.lt_succ_of_lt lS)
        have nf : s.heap.objs.size ∉ [(s.heap.push (freshSet w)).objs.size, l] := by
          rw [Heap.size_push]; simp only [List.mem_cons, List.mem_singleton, List.not_mem_nil, or_false, not_or]
          exact ⟨Nat.ne_of_lt (Nat.lt_succ_self _), Nat.ne_of_gt lS⟩
        have hval : ∀ (i : Nat) (v : Value), items[i]? = some v → ∃ x tk, xs[i]? = some x ∧ v = .str x tk := fun i v hv => by
          have q : items.toList[i]? = some v := by rw [Array.getElem?_toList]; exact hv
          obtain ⟨tk, e⟩ := SS.strs_at hit i v q
          have hi : i < xs.length := by
            have := (Array.getElem?_eq_some_iff.mp hv).1
            omega
          exact ⟨_, tk, by rw [List.getD_eq_getElem?_getD, List.getElem?_eq_getElem hi]; rfl, e⟩
        refine txt_loop ((Walks.list h3 _ l neI items).toS) s.heap.objs.size nf xs hisz hfew hval (items.size - 0) 0 _ [] (by omega) (Nat.zero_le _)
          ⟨⟨_, Heap.get?_push_size _ rfl, rfl, rfl⟩, (hl1.push _)⟩ (txt_fresh (Heap.get?_push_of_some _ hS)) (Nat.le_refl _) fun s' hm hS' => ?_
        obtain ⟨h', g', d', tk', os'⟩ := s'
        have eg : g' = s.gens := hm.gens
        have ed : d' = s.drawn := hm.drawn
        have eo : os' = s.os := hm.os
        subst eg; subst ed; subst eo
        show wpAny _ _ _ _ _ _
        refine wpAny_pure ?_
        show wpAny _ _ (ret Value.none) _ _ _
        refine wpAny_pure ⟨rfl, h', tk', rfl, hS', fun b o e => ?_⟩
        have hb := Heap.lt_size e
        have b1 : b ≠ s.heap.objs.size := Nat.ne_of_lt hb
        have b2 : b ≠ (s.heap.push (freshSet w)).objs.size := by
          rw [Heap.size_push]; exact Nat.ne_of_lt (Nat.lt_succ_of_lt hb)
        exact hm.heap b o (by simp only [List.mem_cons, List.mem_singleton, List.not_mem_nil, or_false, not_or]; exact ⟨b1, b2⟩) (Heap.get?_push_of_some _ (Heap.get?_push_of_some _ e))
      · cases r₂ with
        | error e => exact hr₂
        | ok fl₂ =>
          cases fl₂ with
          | ret r =>
            obtain ⟨rfl, h', tk, rfl, hS', hk'⟩ := hr₂
            repeat (any_goals (first | assumption | wp_step))
            exact h _ _ hS' hk'
          | _ => exact hr₂.elim
    | _ => exact hr.elim
theorem strs_of : ∀ (l : List Value), (∀ v ∈ l, ∃ k tk, v = Value.str k tk) → StrsAre l (l.map strOf)
  | [], _ => .nil
  | v :: l, h => by
    obtain ⟨k, tk, rfl⟩ := h v List.mem_cons_self
    exact .cons k tk (strs_of l fun u hu => h u (List.mem_cons_of_mem _ hu))
theorem sorted_txt {Q : Value → Shared → Prop} (R : TxtSet w s.heap a L) (hh : A.handled = none) (h64 : L.length < 64)
    (hQ : ∀ s' p (out : Array Value) (c : Nat) (ys : List Str), (∀ b o, s.heap.get? b = some o → s'.heap.get? b = some o) → s'.gens = s.gens → s'.os = s.os → s.heap.objs.size ≤ p →
      s'.heap.get? p = some (seqObj "list" out c) → StrsAre out.toList ys → ys.Perm L → sortedS ys = true → Q (.ref p) s') :
    wpAny (model P w) A (call (.builtin "sorted") [.ref a]) Q E s := by
  obtain ⟨o, es, ep, t, ho, hex, hd, g, pl, nd, hb, hf, hr, hl⟩ := R
  refine Calls.call_function_entry kind_sorted plain_sorted entry_sorted (args_sorted1 _) ?_
  unfold Builtin.«sorted»
  refine wpAny_bind (m := checkCount "sorted" 1 1 _) (wpAny_pure ?_)
  refine wpAny_bind (collect_set (A := A.in1) hh ⟨o, ho, hex.1, hd⟩ hf hb hr hl fun s1 vs k1 hz g1 o1 pm => ?_)
  have lv : vs.length = L.length := by rw [pm.length_eq, List.length_map, ← pl.length_eq, List.length_map]
  have hI : StrsAre vs (vs.map strOf) := strs_of vs fun v hv => by
    obtain ⟨e, he, q⟩ := List.mem_map.mp (pm.mem_iff.mp hv)
    obtain ⟨k, tk, h1, _⟩ := g e he
    exact ⟨k, tk, by rw [← q]; exact h1⟩
  have pk : (vs.map strOf).Perm L := by
    have q := pm.map strOf
    rw [List.map_map] at q
    refine q.trans ?_
    rw [show es.toList.map (strOf ∘ fun x => x.2) = es.toList.map txt from List.map_congr_left fun e he => by
      obtain ⟨k, tk, h1, _⟩ := g e he
      show strOf e.2 = txt e
      unfold txt
      rw [h1]; rfl]
    exact pl
  refine wpAny_bind (wpAny_newList ?_ (by rw [lv, sizeLine_eq]; omega))
  have hoL : (s1.heap.push (seqObj "list" vs.toArray 0)).get? s1.heap.objs.size = some (seqObj "list" vs.toArray 0) := Heap.get?_push_size _ rfl
  refine wpAny_bind (wpAny_holding (wpAny_call_entry slot_list_sort ⟨_, hoL, rfl⟩ entry_list_sort (list_sort_treeK strKind_oneLt hoL hI.keysOf (fun v₁ v₂ rest e => keyKind_strs (by rw [← e]; exact hI)) (by rw [lv]; exact h64) fun st' hp hs => ⟨_, rfl, ?_⟩) (args_list_sort _)))
  obtain ⟨ys, a1, a2, a3⟩ := sorted_out_str hI hp hs
  obtain ⟨c, hc⟩ := sortedHeap_at (vs := vs) (out := (arrOf st').map (·.2)) hoL
  refine wpAny_pure ⟨_, rfl, hQ _ s1.heap.objs.size _ c ys (fun b u e => ?_) g1 o1 hz hc a1 (a2.trans pk) a3⟩
  have q := k1 b u e
  have hlt := Heap.lt_size q
  show (sortedHeap (s1.heap.push (seqObj "list" vs.toArray 0)) s1.heap.objs.size vs _).get? b = some u
  rw [sortedHeap_old (Nat.ne_of_lt hlt) (by rw [size_push']; exact Nat.lt_succ_of_lt hlt)]
  exact Heap.get?_push_of_some _ q
end

/-! the same by the layer's readings -/
def TxtO (w : World) (a : Addr) (L : List Str) : HO := .ext fun h => TxtSet w h a L
section
variable {X : Cx}
def rSetTxt (K : PySem.W.Frag) (w : World) : List V → Hp → VK → Prop := fun xs H Q => ∃ (a : Addr) (ys : List Str), xs = [V.ref a] ∧ SqL K H a (ys.map V.str) ∧ ys.length + 1 < scanBound ∧ ∀ p, H p = none → Q (.ref p) (upd H p (TxtO w p (addAll [] ys)))
theorem cr_setTxt (hc : X.calm = true) : CallR X (.type "set") (rSetTxt X.K X.w) := by
  intro pins s σ H vs us Q I r h
  obtain ⟨a, ys, rfl, hs, hf, q⟩ := h
  obtain ⟨its, rv, hl, _⟩ := I.list hs
  rw [Vals.ref1 r]
  refine call_set_txt ys (I.ok.hd hc) hl.isList (by simpa using rv.strs) hf fun h' tk hS hk => ?_
  have hn := I.hok.fresh (Nat.le_refl s.heap.objs.size)
  obtain ⟨o, _, _, _, ho, _⟩ := id hS
  exact ⟨.ref _, upd H s.heap.objs.size (TxtO X.w s.heap.objs.size (addAll [] ys)), I.laid (t' := tk) hk (Nat.le_refl _) (show ObjOk X.prog X.w _ h' s.heap.objs.size (TxtO X.w s.heap.objs.size (addAll [] ys)) from ⟨hS, ⟨o, ho⟩, fun h1 h2 p k => p.at k⟩), rfl, q _ hn⟩
def rSortedTxt (w : World) : List V → Hp → VK → Prop := fun vs H Q => ∃ (a : Addr) (L : List Str), vs = [V.ref a] ∧ H a = some (TxtO w a L) ∧ L.length < 64 ∧
  ∀ (ys : List Str) (p : Addr), ys.Perm L → sortedS ys = true → H p = none → Q (.ref p) (upd H p (.lst (ys.map V.str)))
theorem cr_sortedTxt (hc : X.calm = true) : CallR X (.builtin "sorted") (rSortedTxt X.w) := by
  intro pins s σ H vs us Q I r h
  obtain ⟨a, L, rfl, ha, h64, q⟩ := h
  have R : TxtSet X.w s.heap a L := (I.hok a _ ha).1
  rw [Vals.ref1 r]
  refine sorted_txt R (I.ok.hd hc) h64 fun s' p out c ys k g o hp hg hi hm hs => ?_
  have hlen : (ys.map V.str).length ≤ sizeLine := by rw [List.length_map, hm.length_eq, sizeLine_eq]; omega
  have hn : H p = none := I.hok.fresh hp
  have J : Inv X pins σ (upd H p (.lst (ys.map V.str))) { s with heap := s'.heap, gens := s'.gens, drawn := s'.drawn, toks := s'.toks } :=
    I.call (ch := []) (Un.laid k hp hn) (I.hok.laid k hp ⟨hlen, out.toList, c, vals_of_strs hi, hg⟩) (by rw [g]; exact I.bare) (fun _ z => nomatch z)
  have e : s' = { s with heap := s'.heap, gens := s'.gens, drawn := s'.drawn, toks := s'.toks } := by
    cases s'
    cases s
    cases o
    rfl
  rw [e]
  exact ⟨.ref p, _, J, rfl, q ys p hm hs hn⟩
end
end Du
namespace Du
open PySem L2 PySem.Spec PyProof.Rows

/-! a dict comprehension whose keys are tuples of texts and ints -/
theorem set_tupKey {X : Cx} {pins : List (Addr × Obj)} {σ : L2.St} {H : Hp} {s : Shared} {E : Value → Shared → Prop} {Dd b : Addr} {kvs : List (List Key × V)} {k : List Key} {v : V} {r : Value} {Q : Unit → Shared → Prop} (hu : X.A.units < cLine) (I : Inv X pins σ H s) (hD : H Dd = some (.dT kvs)) (hz : kvs.length < sizeLine)
    (eb : H b = some (.tup (k.map kV))) (rv : RelV v r) (h : ∀ s', Inv X pins σ (upd H Dd (.dT (putK kvs k v))) s' → Q () s') : wpAny (model X.prog X.w) X.A (dictSet Dd (.ref b) r) Q E s := by
  obtain ⟨z, hd, xs, rel, dd⟩ := dt_of I.hok hD
  have hl : (putK kvs k v).length ≤ sizeLine := by have := length_putK kvs k v; omega
  refine wpAny_dictSet_heap (hsz := by rw [← Paired.length rel]; exact z) (show (tupleKind (mixKind X.prog X.w)).room X.A from hu) (key_of I.hok eb) dd fun h' dd' hs => h _ ?_
  obtain ⟨q, es, ep, hq, h2, h3, h4, _, h5⟩ := dd'
  refine d_write I (by rw [hD]; exact True.intro) hs ⟨q, hq⟩ ⟨hl, hd, _, (rel.put k eb rv).keeps fun c ys ec => ?_, q, es, ep, hq, h2, h3, h4, h5⟩
  rw [upd_ne (ne_of ec hD (fun z => nomatch z))]
  exact ec
/-- one turn's store -/
def PutT (Dd : Addr) (y z : V) (H : Hp) (N : Hp → Prop) : Prop := ∃ (kvs : List (List Key × V)) (k : List Key) (b : Addr), y = .ref b ∧ H b = some (.tup (k.map kV)) ∧ H Dd = some (.dT kvs) ∧ kvs.length < sizeLine ∧ N (upd H Dd (.dT (putK kvs k z)))
def tDcT (wi : TI) (g : TG) (tt : TT) (tk tv : TE) (vs : List Nat) : TE := fun σ H Q => wi σ H fun J H1 => ∀ Dd, H1 Dd = none → ∃ W : Nat → Nat → Hp → Prop, (∃ m, W 0 m (upd H1 Dd (.dT []))) ∧ ∀ i m H, W i m H →
  (J.stop i H ∧ Q (.ref Dd) H) ∨ (J.go i H ∧ ∃ Nx : Hp → Prop, (∀ H', Nx H' → ∃ m', m' < m ∧ W (i + 1) m' H') ∧ ∀ x H', J.yld i H x H' → g x (wipe σ vs) H' fun σ2 H2 => wipe σ2 vs = wipe σ vs ∧ tt σ2 H2 fun b H3 =>
    if b = true then tk σ2 H3 fun y H4 => tv σ2 H4 fun z H5 => PutT Dd y z H5 Nx else Nx H3)
section
variable {X : Cx} {kx vx tg iter : Expr} {ifs : List Expr} {scope : Scope} {own : List (Str × Nat)} {wi : TI} {g : TG} {tt : TT} {tk tv : TE}
theorem dct_core {pins : List (Addr × Obj)} {s : Shared} {σ : L2.St} {H : Hp} {Q : VK} {pos pos' : Pos} {use : Option (Value → Sem Unit)} {Qf : Value → Shared → Prop}
    (hu : X.A.units < cLine) (hc : X.calm = true) (hN : X.N.Nodup) (I : Inv X pins σ H s) (hi : PI X tg iter wi) (ok : BlkOk X.N X.env.scope scope own)
    (hg : ∀ (s : Shared) (H : Hp) (C : Addr) (cl : List (Str × Addr)) (fp : List Addr), PG (X.blk s H scope (compEnvC scope cl C X.env) fp) tg g) (ht : ∀ (s : Shared) (H : Hp) (C : Addr) (cl : List (Str × Addr)) (fp : List Addr), PTs (X.blk s H scope (compEnvC scope cl C X.env) fp) ifs tt)
    (hk : ∀ (s : Shared) (H : Hp) (C : Addr) (cl : List (Str × Addr)) (fp : List Addr), PE (X.blk s H scope (compEnvC scope cl C X.env) fp) kx tk)
    (he : ∀ (s : Shared) (H : Hp) (C : Addr) (cl : List (Str × Addr)) (fp : List Addr), PE (X.blk s H scope (compEnvC scope cl C X.env) fp) vx tv) (hs : ∀ x, foldedSetIterable iter X.env x = pure x)
    (h : tDcT wi g tt tk tv (own.map (·.2)) σ H Q)
    (hRR : ∀ Dd C s' m H', Inv X pins σ H' s' → Q (.ref Dd) H' → s'.heap.Ns C m → FpOk X pins H' C → compPost (model X.prog X.w) X.A X.xe use Qf (.ref Dd) C (.ok .next) s') :
    wpAny (model X.prog X.w) X.A (comprehension (.DictComp kx vx [⟨tg, iter, ifs, 0⟩] scope pos) scope X.env pos' newDict false (eval iter X.env) use) Qf X.xe s := by
  refine wpAny_comprehension_free (use := use) rfl hs (closure_ok fun y hy e => (ok.free y hy e).elim (fun k => I.ok.has _ (.inl k)) fun k => I.ok.has _ (.inr k)) ok.kind (fun y hy e => by rw [ok.uniq y hy, e])
    (thn (hi.run pins s σ H _ I h) fun xv s1 hx => thn hx fun itv s2 h2 => ?_)
  obtain ⟨it, fp, tn, J, H2, e, I2, T, st2, f2, q⟩ := h2
  subst e
  refine wpAny_newObj_type (newEnv_comp ?_)
  generalize hD : s2.heap.objs.size = Dd
  have hDn : H2 Dd = none := I2.hok.fresh (Nat.le_of_eq hD)
  obtain ⟨W, ⟨m0, w0⟩, turn⟩ := q Dd hDn
  generalize hs3 : ({ s2 with heap := s2.heap.push { cls := .type "dict", data := .dict #[] } } : Shared) = s3
  have h3 : s3.heap = s2.heap.push { cls := .type "dict", data := .dict #[] } := by rw [← hs3]
  have I3 : Inv X pins σ (upd H2 Dd (.dT [])) s3 := by
    rw [← hs3]
    refine I2.laid (t' := s2.toks) (fun b o e => Heap.get?_push_of_some _ e) (Nat.le_of_eq hD) ?_
    rw [← hD]
    exact dt_empty s2.heap I2.big
  have f3 : ∀ b ∈ fp, FpOk X pins (upd H2 Dd (.dT [])) b ∧ b < s3.heap.objs.size := fun b hb => by
    obtain ⟨o, e, _⟩ := T.obj _ _ st2 b hb
    have hlt := Heap.lt_size e
    refine ⟨⟨?_, (f2 b hb).2⟩, by rw [h3, Heap.size_push]; exact Nat.lt_succ_of_lt hlt⟩
    rw [upd_ne (by rw [← hD]; exact Nat.ne_of_lt hlt)]
    exact (f2 b hb).1
  have st3 : tn 0 s3.heap := T.keep _ _ _ st2 fun b _ o e => by rw [h3]; exact Heap.get?_push_of_some _ e
  have I4 := block_start I3 ok hN f3
  generalize hcl : cellsFrom (s3.heap.objs.size + 1) scope.names (cloFrom X.env.cells scope.names []) = cl at I4
  have pg := hg s3 (upd H2 Dd (.dT [])) s3.heap.objs.size cl fp
  have pt := ht s3 (upd H2 Dd (.dT [])) s3.heap.objs.size cl fp
  have pk := hk s3 (upd H2 Dd (.dT [])) s3.heap.objs.size cl fp
  have pe := he s3 (upd H2 Dd (.dT [])) s3.heap.objs.size cl fp
  show codeAny _ _ (.compStart (.DictComp kx vx [⟨tg, iter, ifs, 0⟩] scope pos) 0 (.ref it) (.ref Dd) (compEnvC scope cl s3.heap.objs.size X.env)) (compPost (model X.prog X.w) X.A X.xe use Qf (.ref Dd) s3.heap.objs.size) { s3 with heap := pushCells (s3.heap.push { cls := .type "dict", data := .dict #[] }) scope.names }
  have nfp : ∀ b ∈ fp, (upd H2 Dd (.dT [])) b = none := fun b hb => (f3 b hb).1.1
  generalize hce : compEnvC scope cl s3.heap.objs.size X.env = ce at I4 pg pt pk pe ⊢
  have cL : ce.locals = s3.heap.objs.size := by subst hce; rfl
  generalize hH3 : upd H2 Dd (.dT []) = H3 at I3 I4 pg pt pk pe w0 nfp f3
  generalize hs4 : ({ s3 with heap := pushCells (s3.heap.push { cls := .type "dict", data := .dict #[] }) scope.names } : Shared) = s4 at I4 ⊢
  have st4 : tn 0 s4.heap := T.keep _ _ _ st3 fun b _ o e => by rw [← hs4]; exact pushCells_keeps _ _ _ _ (Heap.get?_push_of_some _ e)
  have stat : ∀ {σ' : L2.St} {H' : Hp} {s' : Shared}, Inv (X.blk s3 H3 scope ce fp) [] σ' H' s' → (∀ b ∈ fp, H' b = none) → ∀ b ∈ fp, FpOk (X.blk s3 H3 scope ce fp) [] H' b := fun {σ' H' s'} I' hn b hb =>
    ⟨hn b hb, (I'.ok.exf b hb).1, I'.ok.exfs b hb, .inl hb, fun x c e => (I'.ok.exf b hb).2 x c e, fun p hp => absurd (show p ∈ ([] : List (Addr × Obj)) ++ [] from hp) (by simp)⟩
  have loop : codeAny (model X.prog X.w) X.A (.compLoop (.DictComp kx vx [⟨tg, iter, ifs, 0⟩] scope pos) 0 (.ref it) (.ref Dd) ce) (compPost (model X.prog X.w) X.A X.xe use Qf (.ref Dd) s3.heap.objs.size) s4 := by
    refine compLoop_anyD (fun n s' => ∃ i H', Inv (X.blk s3 H3 scope ce fp) [] (wipe σ (own.map (·.2))) H' s' ∧ tn i s'.heap ∧ (∀ b ∈ fp, H' b = none) ∧ W i n H') ?_ m0 ⟨0, H3, I4, st4, nfp, w0⟩
    rintro n s5 ⟨i, H5, I5, st5, n5, w5⟩
    rcases turn i n H5 w5 with ⟨stop, qq⟩ | ⟨go, Nx, hNx, step⟩
    · refine thnF (T.done (X.blk s3 H3 scope ce fp) rfl rfl rfl hc i [] s5 _ H5 (fun _ _ => False) I5 (stat I5 n5) st5 stop) fun r s6 ⟨hr, I6⟩ => ?_
      subst hr
      have I7 : Inv X pins σ H5 s6 := I3.call' (ch := fp) I6.os I6.base I6.hok I6.bare fun b hb => ⟨(f3 b hb).1.2.2.2.1, (f3 b hb).1.2.1, (f3 b hb).1.2.2.2.2.1, (f3 b hb).1.2.2.2.2.2⟩
      have nC : H5 s3.heap.objs.size = none := cL ▸ (show H5 ce.locals = none from I6.free)
      obtain ⟨m, hn, _⟩ := I6.loc
      have hn : s6.heap.Ns s3.heap.objs.size m := cL ▸ (show s6.heap.Ns ce.locals m from hn)
      exact hRR Dd s3.heap.objs.size s6 m H5 I7 qq hn (I3.fpOk (Nat.le_refl _) nC)
    · refine thnF (T.item (X.blk s3 H3 scope ce fp) rfl rfl rfl hc i [] s5 _ H5 (fun _ _ => False) I5 (stat I5 n5) st5 go) fun r s6 ⟨u, hr, h6⟩ => ?_
      subst hr
      refine thnF h6 fun _ s7 ⟨x, H7, I7, r7, y7, st7, n7⟩ => ?_
      refine thnF (pg.run _ s7 _ H7 x u _ (I7.pinned (stat I7 n7) (T.obj _ _ st7)) r7 (step x H7 y7)) fun _ s8 ⟨σ8, H8, I8, hw8, q8⟩ => ?_
      refine thnF (pt.run _ s8 σ8 H8 _ I8 q8) fun b s9 ⟨H9, I9, q9⟩ => ?_
      have fin : ∀ {s' : Shared} {H' : Hp}, Inv (X.blk s3 H3 scope ce fp) ([] ++ pinsAt fp s7.heap) σ8 H' s' → Nx H' → ∃ m, m < n ∧ ∃ i H', Inv (X.blk s3 H3 scope ce fp) [] (wipe σ (own.map (·.2))) H' s' ∧ tn i s'.heap ∧ (∀ b ∈ fp, H' b = none) ∧ W i m H' := fun {s' H'} I' nx => by
        obtain ⟨m', hm, w'⟩ := hNx H' nx
        have pin' : ∀ b ∈ fp, ∀ o, s7.heap.get? b = some o → s'.heap.get? b = some o ∧ H' b = none := fun b hb o e =>
          let z := I'.pin (b, o) (List.mem_append_right _ (List.mem_append_right _ (mem_pinsAt hb e)))
          ⟨z.1, z.2.1⟩
        refine ⟨m', hm, i + 1, H', (I'.unpinned (pins := [])).weak (by rw [← hw8, wipe_length]) (fun j v e => ?_), T.keep _ _ _ st7 fun b hb o e => (pin' b hb o e).1, fun b hb => ?_, w'⟩
        · rw [← hw8] at e
          exact (wipe_some e).1
        · obtain ⟨o, e, _⟩ := T.obj _ _ st7 b hb
          exact (pin' b hb o e).2
      cases b with
      | false =>
        simp only [Bool.false_eq_true, if_false] at q9 ⊢
        exact fin I9 q9
      | true =>
        simp only [if_true] at q9 ⊢
        refine thnF (pk.run _ s9 σ8 H9 _ I9 q9) fun z s10 ⟨yk, H10, I10, r10, q10⟩ => ?_
        refine thnF (pe.run _ s10 σ8 H10 _ I10 q10) fun z2 s11 ⟨yv, H11, I11, r11, kvs, k, bb, ek, eb, hD11, hz11, nx⟩ => ?_
        subst ek
        cases (show z = Value.ref bb from r10)
        exact set_tupKey (X := X.blk s3 H3 scope ce fp) hu I11 hD11 hz11 eb r11 fun s12 I12 => fin I12 nx
  exact codeAny_compStart_dict loop (T.self X.A 0 _ _ _ st4 loop)
theorem pe_dcT {pos : Pos} (hu : X.A.units < cLine) (hc : X.calm = true) (hN : X.N.Nodup) (hi : PI X tg iter wi) (ok : BlkOk X.N X.env.scope scope own)
    (hg : ∀ (s : Shared) (H : Hp) (C : Addr) (cl : List (Str × Addr)) (fp : List Addr), PG (X.blk s H scope (compEnvC scope cl C X.env) fp) tg g) (ht : ∀ (s : Shared) (H : Hp) (C : Addr) (cl : List (Str × Addr)) (fp : List Addr), PTs (X.blk s H scope (compEnvC scope cl C X.env) fp) ifs tt)
    (hk : ∀ (s : Shared) (H : Hp) (C : Addr) (cl : List (Str × Addr)) (fp : List Addr), PE (X.blk s H scope (compEnvC scope cl C X.env) fp) kx tk)
    (he : ∀ (s : Shared) (H : Hp) (C : Addr) (cl : List (Str × Addr)) (fp : List Addr), PE (X.blk s H scope (compEnvC scope cl C X.env) fp) vx tv) (hs : ∀ x, foldedSetIterable iter X.env x = pure x := by intro _; rfl) :
    PE X (.DictComp kx vx [⟨tg, iter, ifs, 0⟩] scope pos) (tDcT wi g tt tk tv (own.map (·.2))) := by
  refine ⟨fun pins s σ H Q I h => ?_⟩
  rw [arm_eval_DictComp]
  refine dct_core hu hc hN I hi ok hg ht hk he hs h fun Dd C s' m H' I' q hn f => ⟨m, hn, fun h'' sb => ?_⟩
  obtain ⟨f0, f1, f2, f3, f4, f5⟩ := f
  exact ⟨.ref Dd, H', I'.turned (t' := s'.toks) (fun b o hb e => (sb.2 b hb).trans e) f0 f1 f3 f4 f5, rfl, q⟩
end
end Du
namespace Du
open PySem L2 PySem.Spec PyProof.Rows

/-! t[::-1], t a tuple -/
section
variable {prog : Program} {w : World} {A : Around} {E : Value → Shared → Prop} {s : Shared}
theorem adjust_back (n : Nat) : Builtin.Slice.sliceAdjust none none (-1) (n : Int) = ((n : Int) - 1, -1) := by
  unfold Builtin.Slice.sliceAdjust
  simp
theorem places_back (n : Nat) : Builtin.Slice.slicePlaces ((n : Int) - 1) (-1) (-1) = n := by
  unfold Builtin.Slice.slicePlaces
  have h1 : ¬ ((-1 : Int) > 0) := by decide
  simp only [h1, if_false]
  rw [show (- -1 : Int) = 1 by decide, Int.ediv_one]
  split <;> omega
theorem pick_back (xs : Array Value) : ((List.range xs.size).filterMap fun (k : Nat) => xs[((xs.size : Int) - 1 + (k : Int) * (-1)).toNat]?).toArray = xs.toList.reverse.toArray := by
  have e : ((List.range xs.size).filterMap fun (k : Nat) => xs[((xs.size : Int) - 1 + (k : Int) * (-1)).toNat]?) = (((List.range xs.size).map fun k => xs.size - 1 - k).filterMap fun k => xs[k]?) := by
    rw [List.filterMap_map]
    have : ∀ l : List Nat, (∀ k ∈ l, k < xs.size) → (l.filterMap fun (k : Nat) => xs[((xs.size : Int) - 1 + (k : Int) * (-1)).toNat]?) = l.filterMap ((fun k => xs[k]?) ∘ fun k => xs.size - 1 - k) := by
      intro l hl
      induction l with
      | nil => rfl
      | cons k l ih =>
        have hk := hl k List.mem_cons_self
        have e : ((xs.size : Int) - 1 + (k : Int) * (-1)).toNat = xs.size - 1 - k := by omega
        rw [List.filterMap_cons, List.filterMap_cons, ih fun j hj => hl j (List.mem_cons_of_mem _ hj)]
        rw [e]
        rfl
    exact this _ fun k hk => List.mem_range.mp hk
  rw [e, PySem.W.krv_range, List.filterMap_reverse, PySem.W.krv_all]
theorem applied_back {sl : Addr} {vl vu vs : Value} {n : Nat} {Q : Int × Int × Nat → Shared → Prop} (hs : s.heap.IsSliceOf sl vl vu vs) (pl : IsPart vl none) (pu : IsPart vu none) (ps : IsPart vs (some (-1)))
    (h : Q ((n : Int) - 1, -1, n) s) : wpAny (model prog w) A (Builtin.Slice.sliceApplied (.ref sl) (pure (n : Int))) Q E s := by
  obtain ⟨os, hos, hcs, hds⟩ := id hs
  unfold Builtin.Slice.sliceApplied Builtin.Slice.sliceFields
  refine wpAny_bind (wpAny_bind (wpAny_field hos hds (x := vl) rfl (wpAny_bind (wpAny_field hos hds (x := vu) rfl (wpAny_bind (wpAny_field hos hds (x := vs) rfl (wpAny_pure ?_)))))))
  refine wpAny_bind (HT.slicePart_ ps ?_)
  show wpAny _ _ (if ((-1 : Int) == 0) = true then _ else _) _ _ s
  rw [if_neg (by decide)]
  refine wpAny_bind (HT.slicePart_ pl (wpAny_bind (HT.slicePart_ pu (wpAny_bind (wpAny_pure ?_)))))
  show wpAny _ _ (match Builtin.Slice.sliceAdjust none none (-1) (n : Int) with | (lo, hi) => pure (lo, (-1 : Int), Builtin.Slice.slicePlaces lo hi (-1))) _ _ s
  rw [adjust_back]
  show wpAny _ _ (pure ((n : Int) - 1, (-1 : Int), Builtin.Slice.slicePlaces ((n : Int) - 1) (-1) (-1))) _ _ s
  rw [places_back]
  exact wpAny_pure h
theorem tuple_back {t sl : Addr} {items : Array Value} {vl vu vs : Value} {Q : Value → Shared → Prop} (ht : IsTup s.heap t items) (hs : s.heap.IsSliceOf sl vl vu vs) (pl : IsPart vl none) (pu : IsPart vu none) (ps : IsPart vs (some (-1)))
    (h : Q (.ref s.heap.objs.size) { s with heap := s.heap.push { cls := .type "tuple", data := .seq items.toList.reverse.toArray } })
    (hsz : items.size ≤ sizeLine) : wpAny (model prog w) A (getItem (.ref t) (.ref sl)) Q E s := by
  have ok : sizeOk (.seq items.toList.reverse.toArray) := by
    show items.toList.reverse.toArray.size ≤ sizeLine
    rw [List.size_toArray, List.length_reverse, Array.length_toList]
    exact hsz
  obtain ⟨os, hos, hcs, hds⟩ := id hs
  have hTs : s.TypeIs (.ref sl) "slice" := ⟨os, hos, hcs⟩
  unfold getItem
  try with_reducible refine wpAny_holding ?_
  first | refine wpAny_bind (wpAny_pure ?_) | skip
  refine wpAny_bind (wpAny_sequenceKey ht.typeIs (by decide) ?_)
  refine wpAny_bind (wpAny_callSpecial?_slot (name := Str.ofString "__getitem__") ht.typeIs PyProof.Rows.slot_tuple_getitem
    (wpAny_call_entry PyProof.Rows.slot_tuple_getitem ht.typeIs entry_tuple_getitem ?_ (args_tuple_getitem _ _)))
  show wpAny _ _ (Builtin.Tuple.tupleItemsOf (.ref t) >>= _) _ _ s
  refine wpAny_bind (PyProof.Rows.tupleItemsOf_ ht ?_)
  refine wpAny_bind (wpAny_typeOf hTs ?_)
  rw [if_pos (by decide)]
  refine wpAny_bind (applied_back hs pl pu ps ?_)
  show wpAny _ _ (if (((items.size : Int) - 1) == 0 && (-1 : Int) == 1 && items.size == items.size) = true then _ else _) _ _ s
  rw [if_neg (by simp), pick_back]
  first
    | exact wpAny_bind (m := Builtin.Tuple.tupleExact _) (wpAny_newObj_type (wpAny_pure ⟨_, rfl, wpAny_pure h⟩) ok)
    | exact wpAny_bind (m := Builtin.Tuple.tupleExact _) (wpAny_newObj_type (wpAny_bind (wpAny_pure (wpAny_pure ⟨_, rfl, wpAny_pure h⟩))) ok)
    | exact wpAny_bind (wpAny_bind (m := Builtin.Tuple.tupleExact _) (wpAny_newObj_type (wpAny_pure (wpAny_pure ⟨_, rfl, wpAny_pure h⟩)) ok))
    | exact wpAny_bind (wpAny_bind (m := Builtin.Tuple.tupleExact _) (wpAny_newObj_type (wpAny_pure ⟨_, rfl, wpAny_pure h⟩) ok))
end
section
variable {X : Cx}
def tRevT (K : PySem.W.Frag) (te : TE) : TE := fun σ H Q => te σ H fun x H1 => ∃ a xs, x = .ref a ∧ SqT K H1 a xs ∧ ∀ p, H1 p = none → Q (.ref p) (upd H1 p (.tup xs.reverse))
theorem pe_revT {e : Expr} {te : TE} {k : Nat} {p1 p2 p3 pos : Pos} (he : PE X e te) : PE X (.Subscript e (.Slice none none (some (.UnaryOp .USub (.Constant (.int 1) k p1) p2)) p3) pos) (tRevT X.K te) := by
  refine ⟨fun pins s σ H Q I h => ?_⟩
  refine Subscript_ (thn (he.run pins s σ H _ I h) fun v s1 ⟨x, H1, I1, r1, q1⟩ => ?_)
  obtain ⟨a, xs, ex, hx, q⟩ := q1
  subst ex
  cases r1
  have hst : PO X (some (.UnaryOp .USub (.Constant (.int 1) k p1) p2)) (tPart (tUn (rU fun i => .int (-i)) (tC (.int 1)))) := po_some (pe_un un_neg pe_int)
  refine wpAny_Slice (thn (po_none.run pins s1 σ H1 (fun o H2 => o = none ∧ H2 = H1) I1 ⟨rfl, rfl⟩) fun vl s2 ⟨l, H2, I2, pl, el, e2⟩ => ?_)
  subst el e2
  refine thn (po_none.run pins s2 σ H2 (fun o H3 => o = none ∧ H3 = H2) I2 ⟨rfl, rfl⟩) fun vu s3 ⟨u, H3, I3, pu, eu, e3⟩ => ?_
  subst eu e3
  refine thn (hst.run pins s3 σ H3 (fun o H4 => o = some (-1) ∧ H4 = H3) I3 ⟨1, rfl, -1, rfl, rfl, rfl⟩) fun vs s4 ⟨o, H4, I4, ps, eo, e4⟩ => ?_
  subst eo e4
  have I5 : Inv X pins σ H4 { s4 with heap := s4.heap.push { cls := .type "slice", data := .fields #[vl, vu, vs] } } := I4.kept (t' := s4.toks) fun b ob q => Heap.get?_push_of_some _ q
  obtain ⟨its, r, ht, hz⟩ := I5.tuple hx
  have hlen := r.length
  show wpAny (model X.prog X.w) X.A (subscriptTail e (.Slice none none (some (.UnaryOp .USub (.Constant (.int 1) k p1) p2)) p3) (.ref a) (.ref s4.heap.objs.size)) (EP X pins σ Q) X.xe { s4 with heap := s4.heap.push { cls := .type "slice", data := .fields #[vl, vu, vs] } }
  refine tail_any (ops := [.ref a, .ref s4.heap.objs.size]) ht.typeIs (PyProof.Rows.slot_tuple_getitem.lookup) ?_ (by with_unfolding_all rfl)
  refine tuple_back ht (Heap.IsSliceOf.new _ vl vu vs) pl pu ps ?_ (by rw [List.size_toArray]; omega)
  refine ⟨.ref _, _, I5.laid (t' := s4.toks) (o := .tup xs.reverse) (fun b ob q => Heap.get?_push_of_some _ q) (Nat.le_refl _) ?_, rfl, q _ (I5.hok.fresh (Nat.le_refl _))⟩
  exact ⟨by rw [List.length_reverse]; exact hz, _, r.reverse, IsTup.new _ _⟩
/-- of a list or a tuple -/
def tRev (K : PySem.W.Frag) (te : TE) : TE := fun σ H Q => tRevL K te σ H Q ∨ tRevT K te σ H Q
theorem pe_rev {e : Expr} {te : TE} {k : Nat} {p1 p2 p3 pos : Pos} (he : PE X e te) : PE X (.Subscript e (.Slice none none (some (.UnaryOp .USub (.Constant (.int 1) k p1) p2)) p3) pos) (tRev X.K te) :=
  ⟨fun pins s σ H Q I h => h.elim (fun h => (pe_revL he).run pins s σ H Q I h) fun h => (pe_revT he).run pins s σ H Q I h⟩
theorem ev_revL {K : PySem.W.Frag} {te : TE} {ρ : Rho} {ds : List D} (h : Ev te ρ (.lst ds)) : Ev (tRev K te) ρ (.lst ds.reverse) := fun Z σ H Q k s q => .inl <|
  h Z σ H _ k s fun x H1 x1 r1 => by
    cases r1 with
    | lst n h1 rs => exact ⟨_, _, rfl, .inl (.inl h1), fun p hp => q _ _ (x1.tr (Ex.new hp)) (.lst ((k.ex x1).no hp) upd_same (rs.rev.mono (Ext.new hp)))⟩
theorem ev_revT {K : PySem.W.Frag} {te : TE} {ρ : Rho} {ds : List D} (h : Ev te ρ (.tup ds)) : Ev (tRev K te) ρ (.tup ds.reverse) := fun Z σ H Q k s q => .inr <|
  h Z σ H _ k s fun x H1 x1 r1 => by
    cases r1 with
    | tup n h1 rs => exact ⟨_, _, rfl, .inl (.inl h1), fun p hp => q _ _ (x1.tr (Ex.new hp)) (.tup ((k.ex x1).no hp) upd_same (rs.rev.mono (Ext.new hp)))⟩
end
end Du
namespace Du
open PySem L2

/-! plain data, and == of it -/
mutual
def pl : D → Bool
  | .non => true
  | .bl _ => true
  | .int _ => true
  | .str s => PyData.strOk s
  | .lst xs => pls xs
  | .tup xs => pls xs
  | .dT _ => false
  | .dK _ => false
  | .dN _ _ => false
  | .ins _ _ => false
  | .ptr _ => false
  | .ty _ => false
def pls : List D → Bool
  | [] => true
  | x :: xs => pl x && pls xs
end
mutual
def toP : D → PyData
  | .non => .none
  | .bl b => .bool b
  | .int i => .int i
  | .str s => .str s
  | .lst xs => .list (toPs xs)
  | .tup xs => .tuple (toPs xs)
  | .dT _ => .none
  | .dK _ => .none
  | .dN _ _ => .none
  | .ins _ _ => .none
  | .ptr _ => .none
  | .ty _ => .none
def toPs : List D → List PyData
  | [] => []
  | x :: xs => toP x :: toPs xs
end
theorem toPs_map : ∀ xs : List D, toPs xs = xs.map toP
  | [] => by simp [toPs]
  | x :: xs => by simp [toPs, toPs_map xs]
theorem pls_all : ∀ xs : List D, pls xs = xs.all pl
  | [] => by simp [pls]
  | x :: xs => by simp [pls, pls_all xs]
mutual
theorem lay_of : ∀ d : D, pl d = true → (toP d).canLay0 = true
  | .non, _ => by simp [toP, PyData.canLay0]
  | .bl _, _ => by simp [toP, PyData.canLay0]
  | .int _, _ => by simp [toP, PyData.canLay0]
  | .str s, h => by simpa [toP, PyData.canLay0, pl] using h
  | .lst xs, h => by simp only [toP, PyData.canLay0]; exact lays_of xs (by simpa [pl] using h)
  | .tup xs, h => by simp only [toP, PyData.canLay0]; exact lays_of xs (by simpa [pl] using h)
  | .dT _, h => by simp [pl] at h
  | .dK _, h => by simp [pl] at h
  | .dN _ _, h => by simp [pl] at h
  | .ins _ _, h => by simp [pl] at h
  | .ptr _, h => by simp [pl] at h
  | .ty _, h => by simp [pl] at h
theorem lays_of : ∀ ds : List D, pls ds = true → PyData.canLayAll0 (toPs ds) = true
  | [], _ => by simp [toPs, PyData.canLayAll0]
  | x :: xs, h => by
    simp only [pls, Bool.and_eq_true] at h
    simp only [toPs, PyData.canLayAll0, Bool.and_eq_true]
    exact ⟨lay_of x h.1, lays_of xs h.2⟩
end
mutual
theorem dp_of {K : PySem.W.Frag} {Z : Addr → Prop} {H : Hp} : ∀ {v : V} {d : D}, Rep Z H v d → pl d = true → Dp K H v (toP d)
  | _, _, .non, _ => by simpa [toP] using .non
  | _, _, .bl b, _ => by simpa [toP] using .bl b
  | _, _, .int i, _ => by simpa [toP] using .int i
  | _, _, .str s, _ => by simpa [toP] using .str s
  | _, _, .lst n h r, p => by simp only [toP]; exact .lst (.inl (.inl h)) (dps_of r (by simpa [pl] using p))
  | _, _, .tup n h r, p => by simp only [toP]; exact .tup (.inl (.inl h)) (dps_of r (by simpa [pl] using p))
  | _, _, .dT _ _ _, p => by simp [pl] at p
  | _, _, .dK _ _ _, p => by simp [pl] at p
  | _, _, .dN _ _ _, p => by simp [pl] at p
  | _, _, .ins _ _ _, p => by simp [pl] at p
  | _, _, .ptr _, p => by simp [pl] at p
  | _, _, .ty _, p => by simp [pl] at p
theorem dps_of {K : PySem.W.Frag} {Z : Addr → Prop} {H : Hp} : ∀ {vs : List V} {ds : List D}, Reps Z H vs ds → pls ds = true → DpAll K H vs (toPs ds)
  | _, _, .nil, _ => by simp only [toPs]; exact .nil
  | _, _, .cons r t, p => by
    simp only [pls, Bool.and_eq_true] at p
    simp only [toPs]
    exact .cons (dp_of r p.1) (dps_of t p.2)
end
/-- data that == takes -/
def okE (d : D) : Prop := pl d = true ∧ (toP d).depth ≤ 64
theorem okE.sh {d : D} (h : okE d) : SeqAt.shaped (toP d) = true := by
  unfold SeqAt.shaped
  rw [lay_of d h.1, decide_eq_true h.2]; rfl
def eqD (d e : D) : Bool := PyData.eqv (toP d) (toP e)
theorem rd_eq {K : PySem.W.Frag} {d e : D} (hd : okE d) (he : okE e) : R2D (rEqD K) d e (.bl (eqD d e)) := fun Z H x y Q k r1 r2 q =>
  ⟨_, _, dp_of r1 hd.1, dp_of r2 he.1, hd.sh, he.sh, q _ H (Ex.rf H) (.bl _)⟩
theorem rd_ne {K : PySem.W.Frag} {d e : D} (hd : okE d) (he : okE e) : R2D (rNeD K) d e (.bl (!eqD d e)) := fun Z H x y Q k r1 r2 q =>
  ⟨_, _, dp_of r1 hd.1, dp_of r2 he.1, hd.sh, he.sh, q _ H (Ex.rf H) (.bl _)⟩
theorem ok_non : okE .non := ⟨by simp [pl], by simp [toP, PyData.depth]⟩
theorem ok_bl {b : Bool} : okE (.bl b) := ⟨by simp [pl], by simp [toP, PyData.depth]⟩
theorem ok_int {i : Int} : okE (.int i) := ⟨by simp [pl], by simp [toP, PyData.depth]⟩
theorem ok_str {s : Str} (h : PyData.strOk s = true) : okE (.str s) := ⟨by simpa [pl] using h, by simp [toP, PyData.depth]⟩
/-- depth at most n -/
def okN (n : Nat) (d : D) : Prop := pl d = true ∧ (toP d).depth ≤ n
theorem okN.e {n : Nat} {d : D} (h : okN n d) (hn : n ≤ 64) : okE d := ⟨h.1, Nat.le_trans h.2 hn⟩
theorem okN.up {n m : Nat} {d : D} (h : okN n d) (hn : n ≤ m) : okN m d := ⟨h.1, Nat.le_trans h.2 hn⟩
theorem depth_all {n : Nat} : ∀ {ds : List D}, (∀ d ∈ ds, okN n d) → pls ds = true ∧ PyData.depthAll (toPs ds) ≤ n
  | [], _ => by simp [pls, toPs, PyData.depthAll]
  | x :: xs, h => by
    obtain ⟨h1, h2⟩ := depth_all (ds := xs) fun d hd => h d (List.mem_cons_of_mem _ hd)
    obtain ⟨h3, h4⟩ := h x List.mem_cons_self
    simp only [pls, toPs, PyData.depthAll, h1, h3, Bool.and_self, true_and]
    omega
theorem okN_lst {n : Nat} {ds : List D} (h : ∀ d ∈ ds, okN n d) : okN (n + 1) (.lst ds) := by
  obtain ⟨h1, h2⟩ := depth_all h
  exact ⟨by simpa [pl] using h1, by simp only [toP, PyData.depth]; omega⟩
theorem okN_tup {n : Nat} {ds : List D} (h : ∀ d ∈ ds, okN n d) : okN (n + 1) (.tup ds) := by
  obtain ⟨h1, h2⟩ := depth_all h
  exact ⟨by simpa [pl] using h1, by simp only [toP, PyData.depth]; omega⟩
theorem okN_non : okN 0 .non := ⟨by simp [pl], by simp [toP, PyData.depth]⟩
theorem okN_bl {b : Bool} : okN 0 (.bl b) := ⟨by simp [pl], by simp [toP, PyData.depth]⟩
theorem okN_int {i : Int} : okN 0 (.int i) := ⟨by simp [pl], by simp [toP, PyData.depth]⟩
theorem okN_str {s : Str} (h : PyData.strOk s = true) : okN 0 (.str s) := ⟨by simpa [pl] using h, by simp [toP, PyData.depth]⟩
theorem eqv_strs : ∀ ss ts : List Str, PyData.eqvAll (toPs (ss.map D.str)) (toPs (ts.map D.str)) = decide (ss = ts)
  | [], [] => by simp [toPs, PyData.eqvAll]
  | [], t :: ts => by simp [toPs, PyData.eqvAll]
  | s :: ss, [] => by simp [toPs, PyData.eqvAll]
  | s :: ss, t :: ts => by
    simp only [List.map_cons, toPs, PyData.eqvAll, eqv_strs ss ts, toP, PyData.eqv]
    by_cases h : s = t <;> simp [h]
theorem eqD_str (a b : Str) : eqD (.str a) (.str b) = decide (a = b) := by
  simp only [eqD, toP, PyData.eqv]
  by_cases h : a = b <;> simp [h]
theorem eqD_bl (a b : Bool) : eqD (.bl a) (.bl b) = decide (a = b) := by
  simp only [eqD, toP, PyData.eqv]
  cases a <;> cases b <;> rfl
theorem eqD_int (a b : Int) : eqD (.int a) (.int b) = decide (a = b) := by
  simp only [eqD, toP, PyData.eqv]
  by_cases h : a = b <;> simp [h]
theorem eqD_tup (ss ts : List D) : eqD (.tup ss) (.tup ts) = PyData.eqvAll (toPs ss) (toPs ts) := by simp only [eqD, toP, PyData.eqv]
theorem eqD_lst (ss ts : List D) : eqD (.lst ss) (.lst ts) = PyData.eqvAll (toPs ss) (toPs ts) := by simp only [eqD, toP, PyData.eqv]
theorem eqD_lst0 (ss : List D) : eqD (.lst ss) (.lst []) = ss.isEmpty := by
  rw [eqD_lst]; cases ss <;> simp [toPs, PyData.eqvAll]
/-- a tuple of texts -/
abbrev tS (ss : List Str) : D := .tup (ss.map D.str)
theorem eqD_tS (ss ts : List Str) : eqD (tS ss) (tS ts) = decide (ss = ts) := by rw [eqD_tup, eqv_strs]
theorem eqv_tSs : ∀ ss ts : List (List Str), PyData.eqvAll (toPs (ss.map tS)) (toPs (ts.map tS)) = decide (ss = ts)
  | [], [] => by simp [toPs, PyData.eqvAll]
  | [], t :: ts => by simp [toPs, PyData.eqvAll]
  | s :: ss, [] => by simp [toPs, PyData.eqvAll]
  | s :: ss, t :: ts => by
    have e := eqD_tS s t
    unfold eqD at e
    simp only [List.map_cons, toPs, PyData.eqvAll, eqv_tSs ss ts, e]
    by_cases h : s = t <;> simp [h]

/-! operators on ints, lists, tuples, texts, by unions -/
section
variable {X : Cx}
def rAddU (K : PySem.W.Frag) : R2 := fun x y H Q => rI0 (fun i j => .int (i + j)) x y H Q ∨ rCat x y H Q ∨ rCatA K x y H Q
theorem op_addU : OpR X (binaryOp .Add) (rAddU X.K) := OpR.or op_add (OpR.or op_cat op_catA)
theorem rd_addI {K : PySem.W.Frag} {i j : Int} : R2D (rAddU K) (.int i) (.int j) (.int (i + j)) := fun Z H x y Q k r1 r2 q => by
  cases r1; cases r2; exact .inl ⟨i, j, rfl, rfl, q _ H (Ex.rf H) (.int _)⟩
theorem rd_addL {K : PySem.W.Frag} {ds es : List D} (hz : ds.length + es.length ≤ 100000) : R2D (rAddU K) (.lst ds) (.lst es) (.lst (ds ++ es)) := fun Z H x y Q k r1 r2 q => by
  cases r1 with
  | lst n h r => cases r2 with
    | lst n' h' r' => exact .inr (.inl ⟨_, _, _, _, rfl, rfl, h, h', Nat.le_trans (by rw [r.len, r'.len]; exact hz) (by decide), fun p hp =>
        q _ _ (Ex.new hp) (.lst (k.no hp) upd_same ((r.mono (Ext.new hp)).app (r'.mono (Ext.new hp))))⟩)
theorem rd_addT {K : PySem.W.Frag} {ds es : List D} (hz : ds.length + es.length ≤ 100000) : R2D (rAddU K) (.tup ds) (.tup es) (.tup (ds ++ es)) := fun Z H x y Q k r1 r2 q => by
  cases r1 with
  | tup n h r => cases r2 with
    | tup n' h' r' =>
      refine .inr (.inr ⟨_, _, _, _, rfl, rfl, .inl (.inl h), .inl (.inl h'), Nat.le_trans (by rw [r.len, r'.len]; exact hz) (by decide), fun e => ?_, fun _ e => ?_, fun _ _ p hp => ?_⟩)
      · subst e; cases r
        exact q _ H (Ex.rf H) (.tup n' h' r')
      · subst e; cases r'
        exact q _ H (Ex.rf H) (.tup n h (by rw [List.append_nil]; exact r))
      · exact q _ _ (Ex.new hp) (.tup (k.no hp) upd_same ((r.mono (Ext.new hp)).app (r'.mono (Ext.new hp))))
def rMulU : R2 := fun x y H Q => rI CMul (fun i j => .int (i * j)) x y H Q ∨ rRep x y H Q
theorem op_mulU : OpR X (binaryOp .Mult) rMulU := OpR.or op_mul op_rep
def repD (ds : List D) : Nat → List D
  | 0 => []
  | n + 1 => ds ++ repD ds n
end
end Du
namespace Du
open PySem L2

section
variable {X : Cx}
theorem Reps.rep {Z : Addr → Prop} {H : Hp} {vs : List V} {ds : List D} (r : Reps Z H vs ds) : ∀ n : Nat, Reps Z H (List.replicate n vs).flatten (List.replicate n ds).flatten
  | 0 => by simpa using .nil
  | n + 1 => by
    rw [List.replicate_succ, List.replicate_succ, List.flatten_cons, List.flatten_cons]
    exact r.app (Reps.rep r n)
theorem rd_rep {ds : List D} {n : Nat} (hn : n ≤ 1000) (hz : ds.length * n ≤ 100000) : R2D rMulU (.lst ds) (.int (n : Int)) (.lst (List.replicate n ds).flatten) := fun Z H x y Q k r1 r2 q => by
  cases r2
  cases r1 with
  | lst nz h r =>
    refine .inr ⟨_, _, _, rfl, rfl, h, by omega, by omega, Nat.le_trans ?_ (by decide : 100000 ≤ sizeLine), fun p hp => ?_⟩
    · rw [Int.toNat_natCast, r.len]; exact hz
    · rw [Int.toNat_natCast]
      exact q _ _ (Ex.new hp) (.lst (k.no hp) upd_same ((r.rep n).mono (Ext.new hp)))
theorem rd_mulI {i j : Int} (h : CMul i j) : R2D rMulU (.int i) (.int j) (.int (i * j)) := fun Z H x y Q k r1 r2 q => by
  cases r1; cases r2; exact .inl ⟨i, j, rfl, rfl, h, q _ H (Ex.rf H) (.int _)⟩
theorem rd_I0 {g : Int → Int → V} {z : Int → Int → D} {i j : Int} (hg : ∀ Z H, Rep Z H (g i j) (z i j)) : R2D (rI0 g) (.int i) (.int j) (z i j) := fun Z H x y Q k r1 r2 q => by
  cases r1; cases r2; exact ⟨i, j, rfl, rfl, q _ H (Ex.rf H) (hg Z H)⟩
theorem rd_sub {i j : Int} : R2D (rI0 fun i j => .int (i - j)) (.int i) (.int j) (.int (i - j)) := rd_I0 (z := fun i j => .int (i - j)) fun _ _ => .int _
theorem rd_lt {i j : Int} : R2D (rI0 fun i j => .bl (decide (i < j))) (.int i) (.int j) (.bl (decide (i < j))) := rd_I0 (z := fun i j => .bl (decide (i < j))) fun _ _ => .bl _
theorem rd_le {i j : Int} : R2D (rI0 fun i j => .bl (decide (i ≤ j))) (.int i) (.int j) (.bl (decide (i ≤ j))) := rd_I0 (z := fun i j => .bl (decide (i ≤ j))) fun _ _ => .bl _
theorem rd_mod {i j : Int} (h : 0 < j) : R2D (rI (fun _ j => 0 < j) fun i j => .int (i % j)) (.int i) (.int j) (.int (i % j)) := fun Z H x y Q k r1 r2 q => by
  cases r1; cases r2; exact ⟨i, j, rfl, rfl, h, q _ H (Ex.rf H) (.int _)⟩
/-! in -/
def rInT (K : PySem.W.Frag) : R2 := fun x y H Q => ∃ d ds, Dp K H x d ∧ Dp K H y (.tuple ds) ∧ SeqAt.shaped d = true ∧ SeqAt.shaped (.tuple ds) = true ∧ Q (.bl (ds.any fun z => PyData.eqv z d)) H
theorem op_inT (hu : X.A.units + 65 < cLine) : OpR X (compareOp .In) (rInT X.K) := by
  intro pins s σ H x y v u Q I rx ry h
  obtain ⟨d, ds, hd, he, sd, se, q⟩ := h
  obtain ⟨as, r1⟩ := Dp.reads I d x v hd rx
  obtain ⟨bs, r2⟩ := Dp.reads I (.tuple ds) y u he ry
  exact SeqAt.in_tuple_reads r2 r1 (SeqAt.canLay_of_shaped se) (SeqAt.canLay_of_shaped sd) (PyProof.Rows.room_in_shaped sd hu) ⟨.bl _, H, I, rfl, q⟩
def rNotInT (K : PySem.W.Frag) : R2 := fun x y H Q => ∃ d ds, Dp K H x d ∧ Dp K H y (.tuple ds) ∧ SeqAt.shaped d = true ∧ SeqAt.shaped (.tuple ds) = true ∧ Q (.bl (!ds.any fun z => PyData.eqv z d)) H
theorem op_notInT (hu : X.A.units + 65 < cLine) : OpR X (compareOp .NotIn) (rNotInT X.K) := by
  intro pins s σ H x y v u Q I rx ry h
  obtain ⟨d, ds, hd, he, sd, se, q⟩ := h
  obtain ⟨as, r1⟩ := Dp.reads I d x v hd rx
  obtain ⟨bs, r2⟩ := Dp.reads I (.tuple ds) y u he ry
  exact SeqAt.notIn_tuple_reads r2 r1 (SeqAt.canLay_of_shaped se) (SeqAt.canLay_of_shaped sd) (PyProof.Rows.room_in_shaped sd hu) ⟨.bl _, H, I, rfl, q⟩
/-- in a list, in a tuple -/
def rInU (K : PySem.W.Frag) : R2 := fun x y H Q => rInD K x y H Q ∨ rInT K x y H Q
theorem op_inU (hu : X.A.units + 65 < cLine) : OpR X (compareOp .In) (rInU X.K) := OpR.or (op_inD hu) (op_inT hu)
def rNotInU (K : PySem.W.Frag) : R2 := fun x y H Q => rNotInD K x y H Q ∨ rNotInT K x y H Q
theorem op_notInU (hu : X.A.units + 65 < cLine) : OpR X (compareOp .NotIn) (rNotInU X.K) := OpR.or (op_notInD hu) (op_notInT hu)
def inD (d : D) (ds : List D) : Bool := ds.any fun z => eqD z d
theorem any_toPs (d : D) : ∀ ds : List D, ((toPs ds).any fun z => PyData.eqv z (toP d)) = inD d ds
  | [] => by simp [toPs, inD]
  | x :: xs => by
    simp only [toPs, List.any_cons, any_toPs d xs]
    simp [inD, eqD]
theorem rd_inL {K : PySem.W.Frag} {d : D} {ds : List D} (hd : okE d) (hs : okE (.lst ds)) : R2D (rInU K) d (.lst ds) (.bl (inD d ds)) := fun Z H x y Q k r1 r2 q => by
  have e := dp_of (K := K) r2 hs.1
  have s2 := hs.sh
  simp only [toP] at e s2
  exact .inl ⟨_, _, dp_of r1 hd.1, e, hd.sh, s2, by rw [any_toPs]; exact q _ H (Ex.rf H) (.bl _)⟩
theorem rd_inT {K : PySem.W.Frag} {d : D} {ds : List D} (hd : okE d) (hs : okE (.tup ds)) : R2D (rInU K) d (.tup ds) (.bl (inD d ds)) := fun Z H x y Q k r1 r2 q => by
  have e := dp_of (K := K) r2 hs.1
  have s2 := hs.sh
  simp only [toP] at e s2
  exact .inr ⟨_, _, dp_of r1 hd.1, e, hd.sh, s2, by rw [any_toPs]; exact q _ H (Ex.rf H) (.bl _)⟩
theorem rd_notInL {K : PySem.W.Frag} {d : D} {ds : List D} (hd : okE d) (hs : okE (.lst ds)) : R2D (rNotInU K) d (.lst ds) (.bl (!inD d ds)) := fun Z H x y Q k r1 r2 q => by
  have e := dp_of (K := K) r2 hs.1
  have s2 := hs.sh
  simp only [toP] at e s2
  exact .inl ⟨_, _, dp_of r1 hd.1, e, hd.sh, s2, by rw [any_toPs]; exact q _ H (Ex.rf H) (.bl _)⟩
theorem rd_notInT {K : PySem.W.Frag} {d : D} {ds : List D} (hd : okE d) (hs : okE (.tup ds)) : R2D (rNotInU K) d (.tup ds) (.bl (!inD d ds)) := fun Z H x y Q k r1 r2 q => by
  have e := dp_of (K := K) r2 hs.1
  have s2 := hs.sh
  simp only [toP] at e s2
  exact .inr ⟨_, _, dp_of r1 hd.1, e, hd.sh, s2, by rw [any_toPs]; exact q _ H (Ex.rf H) (.bl _)⟩
theorem inD_strs (s : Str) (ss : List Str) : inD (.str s) (ss.map D.str) = decide (s ∈ ss) := by
  induction ss with
  | nil => simp [inD]
  | cons t ts ih =>
    have : inD (.str s) ((t :: ts).map D.str) = (eqD (.str t) (.str s) || inD (.str s) (ts.map D.str)) := by simp [inD]
    rw [this, ih, eqD_str]
    by_cases h : t = s
    · simp [h]
    · have h' : ¬ s = t := fun e => h e.symm
      simp [h, h']
theorem inD_tS (s : List Str) (ss : List (List Str)) : inD (tS s) (ss.map tS) = decide (s ∈ ss) := by
  induction ss with
  | nil => simp [inD]
  | cons t ts ih =>
    have : inD (tS s) ((t :: ts).map tS) = (eqD (tS t) (tS s) || inD (tS s) (ts.map tS)) := by simp [inD]
    rw [this, ih, eqD_tS]
    by_cases h : t = s
    · simp [h]
    · have h' : ¬ s = t := fun e => h e.symm
      simp [h, h']
/-! items, slices -/
theorem rd_ixL {K : PySem.W.Frag} {ds : List D} {i : Nat} {d : D} (h : ds[i]? = some d) : R2D (rIx K) (.lst ds) (.int (i : Int)) d := fun Z H x y Q k r1 r2 q => by
  cases r2
  cases r1 with
  | lst n h1 r =>
    obtain ⟨v, e1, e2⟩ := r.get h
    exact .inl ⟨_, _, _, v, rfl, rfl, .inl (.inl h1), atI_nat e1, q v H (Ex.rf H) e2⟩
theorem rd_ixT {K : PySem.W.Frag} {ds : List D} {i : Nat} {d : D} (h : ds[i]? = some d) : R2D (rIx K) (.tup ds) (.int (i : Int)) d := fun Z H x y Q k r1 r2 q => by
  cases r2
  cases r1 with
  | tup n h1 r =>
    obtain ⟨v, e1, e2⟩ := r.get h
    exact .inr (.inl ⟨_, _, _, v, rfl, rfl, .inl (.inl h1), atI_nat e1, q v H (Ex.rf H) e2⟩)
theorem ev_cut1 {K : PySem.W.Frag} {ρ : Rho} {te : TE} {tl th : TO} {ds : List D} {n : Nat} (h : Ev te ρ (.lst ds)) (hl : EvO tl ρ (some (n : Int))) (hh : EvO th ρ none) (hn : n ≤ ds.length) : Ev (tSl (rSlL K) te tl th) ρ (.lst (ds.drop n)) := fun Z σ H Q k s q =>
  h Z σ H _ k s fun x H1 x1 r1 => hl Z σ H1 _ (k.ex x1) (s.mono x1.to) fun H2 x2 => hh Z σ H2 _ (k.ex (x1.tr x2)) (s.mono (x1.tr x2).to) fun H3 x3 => by
    have x23 := x2.tr x3
    cases r1.mono (x23.to (Z := Z)) with
    | lst nz h1 r =>
      refine ⟨_, _, rfl, .inl (.inl h1), fun p hp => ?_⟩
      have e : ∀ vs : List V, vs.length = ds.length → cutV vs (some (n : Int)) none = vs.drop n := fun vs hv => by
        unfold cutV
        rw [HT.sIx_nat, HT.sIx_none, Nat.min_eq_left (by omega), List.take_of_length_le (by rw [List.length_drop]; exact Nat.le_refl _)]
      rw [e _ r.len]
      exact q _ _ ((x1.tr x23).tr (Ex.new hp)) (.lst ((k.ex (x1.tr x23)).no hp) upd_same ((r.drop n).mono (Ext.new hp)))
/-! built-in calls -/
theorem rl_lenL {K : PySem.W.Frag} {ds : List D} : RLD (fun xs H Q => ∃ x n, xs = [x] ∧ LenV K x H n ∧ Q (.int n) H) [.lst ds] (.int ds.length) := fun Z H xs Q k r q => by
  cases r with
  | cons r r' => cases r'; cases r with
    | lst n h1 r => exact ⟨_, _, rfl, .inl ⟨_, .inl (.inl h1), rfl⟩, by rw [r.len]; exact q _ H (Ex.rf H) (.int _)⟩
theorem rl_lenT {K : PySem.W.Frag} {ds : List D} : RLD (fun xs H Q => ∃ x n, xs = [x] ∧ LenV K x H n ∧ Q (.int n) H) [.tup ds] (.int ds.length) := fun Z H xs Q k r q => by
  cases r with
  | cons r r' => cases r'; cases r with
    | tup n h1 r => exact ⟨_, _, rfl, .inr ⟨_, .inl (.inl h1), rfl⟩, by rw [r.len]; exact q _ H (Ex.rf H) (.int _)⟩
theorem rl_lenS {K : PySem.W.Frag} {s : Str} (h : s.length ≤ 100000) : RLD (fun xs H Q => ∃ x n, xs = [x] ∧ LenV K x H n ∧ Q (.int n) H) [.str s] (.int s.length) := fun Z H xs Q k r q => by
  cases r with
  | cons r r' => cases r'; cases r; exact ⟨_, _, rfl, ⟨Nat.le_trans h (by decide), rfl⟩, q _ H (Ex.rf H) (.int _)⟩
theorem rl_any {K : PySem.W.Frag} {bs : List Bool} : RLD (rAny K) [.lst (bs.map D.bl)] (.bl (bs.any id)) := fun Z H xs Q k r q => by
  cases r with
  | cons r r' => cases r'; cases r with
    | lst n h1 r => exact ⟨_, bs, rfl, .inl (.inl (by rw [← r.bls]; exact h1)), q _ H (Ex.rf H) (.bl _)⟩
theorem rl_all {K : PySem.W.Frag} {bs : List Bool} : RLD (rAll K) [.lst (bs.map D.bl)] (.bl (bs.all id)) := fun Z H xs Q k r q => by
  cases r with
  | cons r r' => cases r'; cases r with
    | lst n h1 r => exact ⟨_, bs, rfl, .inl (.inl (by rw [← r.bls]; exact h1)), q _ H (Ex.rf H) (.bl _)⟩
theorem rl_str {s : Str} : RLD (fun xs H Q => ∃ a, xs = [.str a] ∧ Q (.str a) H) [.str s] (.str s) := fun Z H xs Q k r q => by
  cases r with
  | cons r r' => cases r'; cases r; exact ⟨_, rfl, q _ H (Ex.rf H) (.str _)⟩
theorem rl_intB {b : Bool} : RLD (fun xs H Q => (∃ i, xs = [.int i] ∧ Q (.int i) H) ∨ ∃ k, xs = [.bl k] ∧ Q (.int (if k then 1 else 0)) H) [.bl b] (.int ((if b then 1 else 0 : Nat) : Int)) := fun Z H xs Q k r q => by
  cases r with
  | cons r r' => cases r'; cases r; exact .inr ⟨_, rfl, by cases b <;> exact q _ H (Ex.rf H) (.int _)⟩
theorem rl_intI {i : Int} : RLD (fun xs H Q => (∃ i, xs = [.int i] ∧ Q (.int i) H) ∨ ∃ k, xs = [.bl k] ∧ Q (.int (if k then 1 else 0)) H) [.int i] (.int i) := fun Z H xs Q k r q => by
  cases r with
  | cons r r' => cases r'; cases r; exact .inl ⟨_, rfl, q _ H (Ex.rf H) (.int _)⟩
theorem r1_tupL {K : PySem.W.Frag} {ds : List D} : R1D (kTup K) (.lst ds) (.tup ds) := fun Z H x Q k r q => by
  cases r with
  | lst n h1 r => exact .inl ⟨_, _, rfl, .inl (.inl h1), fun p hp => q _ _ (Ex.new hp) (.tup (k.no hp) upd_same (r.mono (Ext.new hp)))⟩
theorem r1_tupT {K : PySem.W.Frag} {ds : List D} : R1D (kTup K) (.tup ds) (.tup ds) := fun Z H x Q k r q => by
  cases r with
  | tup n h1 r => exact .inr ⟨_, _, rfl, .inl (.inl h1), q _ H (Ex.rf H) (.tup n h1 r)⟩
theorem rl_listL {K : PySem.W.Frag} {ds : List D} : RLD (fun xs H Q => ∃ p ys, xs = [.ref p] ∧ (SqL K H p ys ∨ SqT K H p ys) ∧ ∀ l, H l = none → Q (.ref l) (upd H l (.lst ys))) [.lst ds] (.lst ds) := fun Z H xs Q k r q => by
  cases r with
  | cons r r' => cases r'; cases r with
    | lst n h1 r => exact ⟨_, _, rfl, .inl (.inl (.inl h1)), fun p hp => q _ _ (Ex.new hp) (.lst (k.no hp) upd_same (r.mono (Ext.new hp)))⟩
theorem rl_listT {K : PySem.W.Frag} {ds : List D} : RLD (fun xs H Q => ∃ p ys, xs = [.ref p] ∧ (SqL K H p ys ∨ SqT K H p ys) ∧ ∀ l, H l = none → Q (.ref l) (upd H l (.lst ys))) [.tup ds] (.lst ds) := fun Z H xs Q k r q => by
  cases r with
  | cons r r' => cases r'; cases r with
    | tup n h1 r => exact ⟨_, _, rfl, .inr (.inl (.inl h1)), fun p hp => q _ _ (Ex.new hp) (.lst (k.no hp) upd_same (r.mono (Ext.new hp)))⟩
end
/-! sorted texts -/
def leS (a b : Str) : Bool := !decide (b.cps.toList < a.cps.toList)
def srt (ss : List Str) : List Str := ss.mergeSort leS
theorem str_ext {a b : Str} (h : a.cps.toList = b.cps.toList) : a = b := by
  cases a with
  | mk x => cases b with
    | mk y => exact congrArg Str.mk (Array.ext' h)
theorem leS_trans (a b c : Str) : leS a b = true → leS b c = true → leS a c = true := by
  unfold leS
  simp only [Bool.not_eq_true', decide_eq_false_iff_not, List.not_lt]
  exact fun h1 h2 => List.le_trans h1 h2
theorem leS_total (a b : Str) : (leS a b || leS b a) = true := by
  unfold leS
  rcases List.le_total a.cps.toList b.cps.toList with h | h
  · have : ¬ b.cps.toList < a.cps.toList := List.not_lt.mpr h
    simp [this]
  · have : ¬ a.cps.toList < b.cps.toList := List.not_lt.mpr h
    simp [this]
theorem leS_anti {a b : Str} (h1 : leS a b = true) (h2 : leS b a = true) : a = b := by
  unfold leS at h1 h2
  simp only [Bool.not_eq_true', decide_eq_false_iff_not, List.not_lt] at h1 h2
  exact str_ext (List.le_antisymm h1 h2)
theorem srt_perm (ss : List Str) : (srt ss).Perm ss := List.mergeSort_perm ss leS
theorem srt_sorted (ss : List Str) : (srt ss).Pairwise (fun a b => leS a b = true) := List.pairwise_mergeSort leS_trans leS_total ss
theorem rising_pw : ∀ (p : Str) (l : List Str), PyProof.Rows.risingS p l = true → (p :: l).Pairwise (fun a b => leS a b = true)
  | p, [], _ => by simp
  | p, x :: r, h => by
    simp only [PyProof.Rows.risingS, Bool.and_eq_true] at h
    have ih := rising_pw x r h.2
    have hpx : leS p x = true := by
      have := h.1
      rw [PyProof.Rows.ltCps_eq] at this
      exact this
    refine List.pairwise_cons.mpr ⟨fun y hy => ?_, ih⟩
    rcases List.mem_cons.mp hy with rfl | hy
    · exact hpx
    · exact leS_trans _ _ _ hpx (List.rel_of_pairwise_cons ih hy)
theorem sortedS_pw {l : List Str} (h : PyProof.Rows.sortedS l = true) : l.Pairwise (fun a b => leS a b = true) := by
  cases l with
  | nil => exact List.Pairwise.nil
  | cons x r => exact rising_pw x r h
theorem pw_unique {l m : List Str} (hp : l.Perm m) (h1 : l.Pairwise (fun a b => leS a b = true)) (h2 : m.Pairwise (fun a b => leS a b = true)) : l = m :=
  List.Perm.eq_of_pairwise (fun a b _ _ x y => leS_anti x y) h1 h2 hp
theorem srt_unique {ss ys : List Str} (hp : ys.Perm ss) (h : PyProof.Rows.sortedS ys = true) : ys = srt ss :=
  pw_unique (hp.trans (srt_perm ss).symm) (sortedS_pw h) (srt_sorted ss)
theorem rl_sorted {K : PySem.W.Frag} {ss : List Str} (h : ss.length < 64) : RLD (rSortedS K) [.lst (ss.map D.str)] (.lst ((srt ss).map D.str)) := fun Z H xs Q k r q => by
  cases r with
  | cons r r' => cases r'; cases r with
    | lst n h1 r =>
      refine ⟨_, ss, rfl, .inl (.inl (by rw [← r.strs]; exact h1)), h, fun ys p hp hs hn => ?_⟩
      rw [srt_unique hp hs]
      exact q _ _ (Ex.new hn) (.lst (k.no hn) upd_same (Reps.ofStrs _))
theorem addT_mem {L : List Str} {k x : Str} : x ∈ addT L k ↔ x ∈ L ∨ x = k := by
  unfold addT; split
  · rename_i h; exact ⟨.inl, fun z => z.elim id fun e => e ▸ h⟩
  · simp [or_comm]
theorem addAll_mem {x : Str} : ∀ {ks L : List Str}, x ∈ addAll L ks ↔ x ∈ L ∨ x ∈ ks
  | [], L => by simp [addAll]
  | k :: ks, L => by rw [addAll, addAll_mem, addT_mem, List.mem_cons, or_assoc]
theorem addT_nodup {L : List Str} {k : Str} (h : L.Nodup) : (addT L k).Nodup := by
  unfold addT; split
  · exact h
  · rename_i n; exact List.nodup_cons.mpr ⟨n, h⟩
theorem addAll_nodup : ∀ {ks L : List Str}, L.Nodup → (addAll L ks).Nodup
  | [], _, h => h
  | k :: ks, L, h => by rw [addAll]; exact addAll_nodup (addT_nodup h)
theorem addAll_len : ∀ {ks L : List Str}, (addAll L ks).length ≤ L.length + ks.length
  | [], L => by simp [addAll]
  | k :: ks, L => by
    rw [addAll]
    have h1 := addAll_len (ks := ks) (L := addT L k)
    have h2 := addT_len L k
    simp only [List.length_cons]; omega
/-- the texts of a list, each once, in order -/
def uniq (ss : List Str) : List Str := srt (addAll [] ss)
theorem uniq_mem {x : Str} {ss : List Str} : x ∈ uniq ss ↔ x ∈ ss := by
  unfold uniq; rw [(srt_perm _).mem_iff, addAll_mem]; simp
theorem uniq_nodup (ss : List Str) : (uniq ss).Nodup := ((srt_perm _).nodup_iff).mpr (addAll_nodup List.nodup_nil)
theorem uniq_sorted (ss : List Str) : (uniq ss).Pairwise (fun a b => leS a b = true) := srt_sorted _
theorem uniq_len (ss : List Str) : (uniq ss).length ≤ ss.length := by
  unfold uniq; rw [(srt_perm _).length_eq]; simpa using addAll_len (ks := ss) (L := [])
theorem ev_sortedSet {K : PySem.W.Frag} {w : World} {ρ : Rho} {te : TE} {ss : List Str} (h : Ev te ρ (.lst (ss.map D.str))) (hz : ss.length < 64) : Ev (tCB (rSortedTxt w) (tCons (tCB (rSetTxt K w) (tCons te tNil)) tNil)) ρ (.lst ((uniq ss).map D.str)) := fun Z σ H Q k s q =>
  h Z σ H _ k s fun x H1 x1 r1 => by
    cases r1 with
    | lst n h1 r =>
      refine ⟨_, ss, rfl, .inl (.inl (by rw [← r.strs]; exact h1)), Nat.lt_of_le_of_lt (m := 64) (by omega) (by decide), fun p hp => ?_⟩
      have k1 := (k.ex x1)
      refine ⟨p, addAll [] ss, rfl, upd_same, Nat.lt_of_le_of_lt addAll_len (by simpa using hz), fun ys p' hp' hs hn => ?_⟩
      rw [srt_unique hp' hs]
      have x2 := (Ex.new (o := TxtO w p (addAll [] ss)) hp)
      have k2 : okZ Z (upd H1 p (TxtO w p (addAll [] ss))) := k1.ex x2
      exact q _ _ ((x1.tr x2).tr (Ex.new hn)) (.lst (k2.no hn) upd_same (Reps.ofStrs _))
end Du
namespace Du
open PySem L2

/-! dicts whose keys are tuples -/
def kD : Key → D
  | .inl i => .int i
  | .inr s => .str s
/-- a tuple as a key -/
abbrev tK (k : List Key) : D := .tup (k.map kD)
theorem repK_of {Z : Addr → Prop} {H : Hp} : ∀ {vs : List V} {k : List Key}, Reps Z H vs (k.map kD) → vs = k.map kV
  | _, [], .nil => rfl
  | _, .inl i :: k, .cons (.int _) t => by simp [repK_of t, kV]
  | _, .inr s :: k, .cons (.str _) t => by simp [repK_of t, kV]
theorem repK_mk {Z : Addr → Prop} {H : Hp} : ∀ (k : List Key), Reps Z H (k.map kV) (k.map kD)
  | [] => .nil
  | .inl i :: k => .cons (.int i) (repK_mk k)
  | .inr s :: k => .cons (.str s) (repK_mk k)
def valD {κ : Type} [DecidableEq κ] (kvs : List (κ × D)) (k : κ) : Option D := (kvs.find? fun e => decide (e.1 = k)).map (·.2)
section
variable {ρ : Rho} {te td ty tk tv : TE} {tt : TT}
theorem RepT.val {Z : Addr → Prop} {H : Hp} {k : List Key} : ∀ {kvs : List (List Key × V)} {ds : List (List Key × D)}, RepT Z H kvs ds → ∀ {d : D}, valD ds k = some d → ∃ v, valV kvs k = some v ∧ Rep Z H v d
  | _, _, .nil, d, h => by simp [valD] at h
  | _, _, .cons (k := k') (v := v) (d := d') r t, d, h => by
    by_cases e : k' = k
    · have : d' = d := by simpa [valD, e] using h
      subst this
      exact ⟨v, by simp [valV, e], r⟩
    · obtain ⟨w, h1, h2⟩ := RepT.val (d := d) (k := k) t (by simpa [valD, e] using h)
      exact ⟨w, by simpa [valV, e] using h1, h2⟩
theorem RepT.len {Z : Addr → Prop} {H : Hp} : ∀ {kvs : List (List Key × V)} {ds : List (List Key × D)}, RepT Z H kvs ds → kvs.length = ds.length
  | _, _, .nil => rfl
  | _, _, .cons _ t => by simp [RepT.len t]
theorem RepT.app {Z : Addr → Prop} {H : Hp} : ∀ {a b : List (List Key × V)} {c d : List (List Key × D)}, RepT Z H a c → RepT Z H b d → RepT Z H (a ++ b) (c ++ d)
  | _, _, _, _, .nil, s => s
  | _, _, _, _, .cons r t, s => .cons r (RepT.app t s)
theorem RepT.keys {Z : Addr → Prop} {H : Hp} : ∀ {kvs : List (List Key × V)} {ds : List (List Key × D)}, RepT Z H kvs ds → kvs.map (·.1) = ds.map (·.1)
  | _, _, .nil => rfl
  | _, _, .cons _ t => by simp [RepT.keys t]
/-- d[k], k a tuple -/
theorem ev_dget {kvs : List (List Key × D)} {k : List Key} {z : D} (hd : Ev td ρ (.dT kvs)) (hk : Ev ty ρ (tK k)) (hv : valD kvs k = some z) : Ev (tDGet td ty) ρ z := fun Z σ H Q ok s q =>
  hd Z σ H _ ok s fun x H1 x1 r1 => hk Z σ H1 _ (ok.ex x1) (s.mono x1.to) fun y H2 x2 r2 => by
    cases r1.mono (x2.to (Z := Z)) with
    | dT n h rs => cases r2 with
      | tup n' h' rs' =>
        obtain ⟨v, e1, e2⟩ := rs.val hv
        refine ⟨_, v, rfl, .inr ⟨_, k, _, h, rfl, by rw [h', repK_of rs'], e1.symm⟩, q v H2 (x1.tr x2) e2⟩
/-! a dict comprehension whose keys are unlike tuples -/
theorem ev_dcT {α : Type} {φ : α → D} {wi : TI} {g : TG} {vs : List Nat} {ds : List α} {kf : α → List Key} {vf : α → D} (hi : EvI wi ρ (ds.map φ)) (hz : ds.length ≤ 100000) (nd : (ds.map kf).Nodup)
    (hb : ∀ d ∈ ds, ∃ ρ', GW g vs (φ d) (wipeR ρ vs) ρ' ∧ Ev tk ρ' (tK (kf d)) ∧ Ev tv ρ' (vf d)) : Ev (tDcT wi g tYes tk tv vs) ρ (.dT (ds.map fun d => (kf d, vf d))) := fun Z σ H Q k s q =>
  hi Z σ H _ k s fun J H1 x1 w1 => by
    intro Dd hD
    have k1 := k.ex x1
    have hz' : ∀ a, (Z a ∨ a = Dd) → Z a ∨ H1 a = none := fun a z => z.imp id fun (e : a = Dd) => by rw [e]; exact hD
    have hll : (ds.map φ).length = ds.length := List.length_map ..
    have W := w1 (fun a => Z a ∨ a = Dd) hz'
    have s1 : SRep (fun a => Z a ∨ a = Dd) H1 σ ρ := (s.mono x1.to).zs hz'
    let Pv : Nat → Hp → Prop := fun i Hc => Ext (fun a => Z a ∨ a = Dd) H1 Hc ∧ okZ (fun a => Z a ∨ a = Dd) Hc ∧ (∀ a o, Z a → H1 a = some o → Hc a = some o) ∧ ∃ acc, Hc Dd = some (.dT acc) ∧ RepT (fun a => Z a ∨ a = Dd) Hc acc ((ds.take i).map fun d => (kf d, vf d))
    refine ⟨fun i m Hc => m = ds.length - i ∧ i ≤ ds.length ∧ Pv i Hc, ⟨ds.length, by simp, Nat.zero_le _, Ext.new hD, k1.add rfl, fun a o z h => by rw [upd_ne (ne_of_none h hD)]; exact h, [], upd_same, by simpa using .nil⟩, ?_⟩
    rintro i m Hc ⟨rfl, hi, e1, e2, e3, acc, e4, e5⟩
    by_cases hlt : i < ds.length
    · refine .inr ⟨W.goes i Hc (hll ▸ hlt) ⟨e1, e2⟩, Pv (i + 1), fun Hn p => ⟨ds.length - (i + 1), by omega, rfl, hlt, p⟩, fun x H' y => ?_⟩
      obtain ⟨y1, d0, y20, y3⟩ := W.yields i Hc x H' (hll ▸ hlt) ⟨e1, e2⟩ y
      rw [List.getElem?_map] at y20
      obtain ⟨d, y2, rfl⟩ := Option.map_eq_some_iff.mp y20
      have hm : d ∈ ds := List.mem_of_getElem? y2
      obtain ⟨ρ', g1, g2, g3⟩ := hb d hm
      have x' : Ext (fun a => Z a ∨ a = Dd) H1 H' := e1.tr y1.to
      refine g1 _ (wipe σ vs) H' x _ (e2.ex y1) ((s1.wipe vs).mono x') y3 fun σ' s' w' => ⟨w'.trans (wipe_wipe σ vs), ?_⟩
      refine et_yes (ρ := ρ') _ σ' H' _ (e2.ex y1) s' fun H0 x0 => ?_
      rw [if_pos rfl]
      have y10 := y1.tr x0
      refine g2 _ σ' H0 _ (e2.ex y10) (s'.mono x0.to) fun v3 H3 x3 r3 => ?_
      have y13 := y10.tr x3
      refine g3 _ σ' H3 _ (e2.ex y13) (s'.mono (x0.tr x3).to) fun v H4 x4 r4 => ?_
      have y14 := y13.tr x4
      have et : ds.take (i + 1) = ds.take i ++ [d] := by rw [List.take_add_one, y2]; rfl
      cases r3.mono (x4.to (Z := fun a => Z a ∨ a = Dd)) with
      | tup n3 h3 rs3 =>
        have e5' := e5.mono (y14.to (Z := fun a => Z a ∨ a = Dd))
        have hnew : valV acc (kf d) = none := by
          have hk : kf d ∉ acc.map (·.1) := by
            rw [e5'.keys, List.map_map]
            intro hin
            obtain ⟨d', hd', ed⟩ := List.mem_map.mp hin
            have nd' : ((ds.take i).map kf ++ [kf d]).Nodup := by
              have h1 : ((ds.take (i + 1)).map kf).Nodup := by
                rw [List.map_take]; exact nd.sublist (List.take_sublist _ _)
              rw [et, List.map_append] at h1
              exact h1
            exact (List.nodup_append.mp nd').2.2 (kf d') (List.mem_map_of_mem hd') (kf d) (by simp) ed
          unfold valV
          rw [Option.map_eq_none_iff, List.find?_eq_none]
          intro e he
          simp only [decide_eq_true_eq]
          intro z
          exact hk (z ▸ List.mem_map_of_mem he)
        have hl : acc.length ≤ 100000 := by
          rw [e5'.len, List.length_map, List.length_take]; omega
        have xm : Ext (fun a => Z a ∨ a = Dd) H4 (upd H4 Dd (.dT (putK acc (kf d) v))) := (Ext.rf H4).mut (.inr rfl)
        refine ⟨acc, kf d, _, rfl, by rw [h3, repK_of rs3], y14.exact e4, Nat.lt_of_le_of_lt hl (by decide), (e1.tr y14.to).mut (.inr rfl), (e2.ex y14).upd rfl, fun a o z h => ?_, _, upd_same, ?_⟩
        · rw [upd_ne (ne_of_none h hD)]
          exact y14 a o (e3 a o z h)
        · rw [et, List.map_append]
          rw [putK_new v hnew] at xm ⊢
          exact (e5'.mono xm).app (.cons (r4.mono xm) .nil)
    · have e : i = ds.length := by omega
      subst e
      refine .inl ⟨hll ▸ W.stops Hc ⟨e1, e2⟩, ?_⟩
      rw [List.take_length] at e5
      have xx : Ex H1 Hc := fun a o h => by
        by_cases z : Z a
        · exact e3 a o z h
        · exact e1 a o (fun y => y.elim z (ne_of_none h hD)) h
      exact q _ Hc (x1.tr xx) (.dT (k1.no hD) (.inl e4) (e5.zs fun a z => .inl (.inl z)))
/-! a comprehension over the keys of a dict in a slot -/
def tLk (t : TE) : TE := fun σ H Q => tLockE t σ H Q ∨ t σ H Q
theorem pe_lk {X : Cx} {e : Expr} {t : TE} (h : PE X e t) : PE X e (tLk t) := ⟨fun pins s σ H Q I q => q.elim (fun q => (pe_lock h).run pins s σ H Q I q) fun q => h.run pins s σ H Q I q⟩
theorem dw_keys {Z : Addr → Prop} {H1 : Hp} {d : Addr} {o : Obj} {kvs : List (List Key × V)} {ds : List (List Key × D)} (n : ¬ Z d) (h : H1 d = some (.frz o (.dT kvs))) (r : RepT Z H1 kvs ds) : DW Z (Itkt d o kvs) H1 (ds.map fun e => tK e.1) := fun Z' hz => by
  have nz : ¬ Z' d := fun z => (hz _ z).elim n fun e => by rw [h] at e; cases e
  rw [List.length_map, ← r.len]
  refine walk_keysT.mono (fun H g => g.1.exact nz h) fun i Hc x H' hi g y => ?_
  obtain ⟨rfl, k, v, q, e1, rfl, e2⟩ := y
  refine ⟨Ex.rf _, tK k, ?_, .tup (g.2.noT e2) e2 (repK_mk k)⟩
  have hk : (ds.map (·.1))[i]? = some k := by rw [← r.keys, List.getElem?_map, e1]; rfl
  rw [List.getElem?_map] at hk ⊢
  cases hd : ds[i]? with
  | none => rw [hd] at hk; cases hk
  | some e => rw [hd] at hk; cases hk; rfl
theorem lockW {Z : Addr → Prop} {H : Hp} {d : Addr} {u : HO} (hd : dictO u = true) (h : H d = some u) (o : Obj) : ExtW Z H (upd H d (.frz o u)) := fun a v _ e => by
  by_cases z : a = d
  · subst z
    rw [h] at e; cases e
    refine ⟨_, upd_same, ?_⟩
    cases u <;> first | rfl | cases hd
  · exact ⟨v, by rw [upd_ne z]; exact e, rfl⟩
theorem unlockW {Z : Addr → Prop} {H : Hp} {d : Addr} {u : HO} {o : Obj} (hd : dictO u = true) (h : H d = some (.frz o u)) : ExtW Z H (upd H d u) := fun a v _ e => by
  by_cases z : a = d
  · subst z
    rw [h] at e; cases e
    refine ⟨_, upd_same, ?_⟩
    cases u <;> first | rfl | cases hd
  · exact ⟨v, by rw [upd_ne z]; exact e, rfl⟩
theorem ev_lcKeys {g : TG} {vs : List Nat} {pb : (List Key × D) → Bool} {fe : (List Key × D) → D} {i : Nat} {kvs : List (List Key × D)} (hi : ρ[i]? = some (some (.dT kvs))) (hz : kvs.length ≤ 100000)
    (hb : ∀ e ∈ kvs, ∃ ρ', GW g vs (tK e.1) (wipeR ρ vs) ρ' ∧ EvT tt ρ' (pb e) ∧ (pb e = true → Ev te ρ' (fe e))) : Ev (tLk (tLc (iKeys (tVar i)) g tt te vs)) ρ (.lst ((kvs.filter pb).map fe)) := fun Z σ H Q k s q => by
  obtain ⟨v, h1, h2⟩ := s.2 i _ hi
  cases h2 with
  | dT n h r =>
    rename_i d ws
    rcases h with h | ⟨o, h⟩
    · refine .inl ⟨d, _, h, trivial, fun od => ?_⟩
      have wl : ExtW Z H (upd H d (.frz od (.dT ws))) := lockW rfl h od
      have kl : okZ Z (upd H d (.frz od (.dT ws))) := k.upd rfl
      refine ⟨_, h1, d, od, rfl, .inr ⟨ws, upd_same, ?_⟩⟩
      refine lc_main (xs := kvs) (φ := fun e => tK e.1) (Q := fun v H' => H' d = some (.frz od (.dT ws)) ∧ Q v (upd H' d (.dT ws))) kl (s.monoW wl) (dw_keys n upd_same (r.monoW wl)) hz hb fun v H' x' r' => ?_
      have hl : H' d = some (.frz od (.dT ws)) := x' d _ upd_same
      refine ⟨hl, q v _ (fun a o e => ?_) (r'.monoW (unlockW rfl hl))⟩
      by_cases z : a = d
      · subst z; rw [h] at e; cases e; exact upd_same
      · rw [upd_ne z]; exact x' a o (by rw [upd_ne z]; exact e)
    · refine .inr ⟨_, h1, d, o, rfl, .inr ⟨ws, h, ?_⟩⟩
      exact lc_main (xs := kvs) (φ := fun e => tK e.1) k s (dw_keys n h r) hz hb fun v H' x' r' => q v H' x' r'
end
end Du
namespace Du
open PySem L2

/-! operators of an own class -/
section
variable {X : Cx} {CX : CXT} {n : Nat} {C g : Addr} {sp : Sp} {E : XK}
theorem instOf {pins : List (Addr × Obj)} {σ : L2.St} {H : Hp} {s : Shared} {a dx : Addr} {fs : List (Str × V)} (I : Inv X pins σ H s) (e : H a = some (.ins C dx fs)) : ∃ ox od, PySem.W.InstAt s.heap a ox C (some od) := by
  obtain ⟨mA, O, _, _, _, _⟩ := ins_get I.hok e
  obtain ⟨od, J, _⟩ := O.look
  exact ⟨_, od, J⟩
/-- x op y, both instances of the class at C -/
def rBin (C : Addr) (sp : Sp) (E : XK) : R2 := fun x y H Q => ∃ a dx fs b dy gs, x = .ref a ∧ y = .ref b ∧ H a = some (.ins C dx fs) ∧ H b = some (.ins C dy gs) ∧ sp [x, y] H Q E
theorem op_bin {op : Operator} (hc : PySem.W.selfFirst X.K C = true) (hs : PySem.W.findIn X.K (.ref C) (PySem.dunder op.info.2) = some (some (.ref g))) (hf : PySem.W.isFn X.K (.ref g) = true)
    (F : FnR X.prog X.w X.K X.mg X.base CX n g sp) (hr : Room n X.A) (hx : Passes CX X E) : OpR X (binaryOp op) (rBin C sp E) := by
  intro pins s σ H x y v u Q I rx ry h
  obtain ⟨a, dx, fs, b, dy, gs, rfl, rfl, ha, hb, q⟩ := h
  cases (show v = Value.ref a from rx)
  cases (show u = Value.ref b from ry)
  obtain ⟨ox, od, J⟩ := instOf I ha
  obtain ⟨oy, oe, J'⟩ := instOf I hb
  obtain ⟨m, hF⟩ := I.fr
  refine PySem.W.binop_K hF I.ok.mod.kin J J'.type hc hs hf ?_
  refine wpAny_mono (wpAny_call (run_fnR (us := [.ref a, .ref b]) (vs := [.ref a, .ref b]) F hr hx I (.cons rfl (.cons rfl .nil)) q)) (fun w s' z => ?_) fun _ _ x => x
  obtain ⟨z', H', I', rz, qz⟩ := z
  exact SlX.cmpback rz ⟨z', H', I', rz, qz⟩
/-- ~x -/
def rInv (C : Addr) (sp : Sp) (E : XK) : V → Hp → VK → Prop := fun x H Q => ∃ a dx fs, x = .ref a ∧ H a = some (.ins C dx fs) ∧ sp [x] H Q E
theorem un_own (hs : PySem.W.findIn X.K (.ref C) "__invert__" = some (some (.ref g))) (hf : PySem.W.isFn X.K (.ref g) = true)
    (F : FnR X.prog X.w X.K X.mg X.base CX n g sp) (hr : Room n X.A) (hx : Passes CX X E) : UnR X (unaryOp .Invert) (rInv C sp E) := by
  intro pins s σ H x v Q I rx h
  obtain ⟨a, dx, fs, rfl, ha, q⟩ := h
  cases (show v = Value.ref a from rx)
  obtain ⟨ox, od, J⟩ := instOf I ha
  obtain ⟨m, hF⟩ := I.fr
  exact PySem.W.ksp_inv hF I.ok.mod.kin J hs hf (wpAny_call (run_fnR (us := [.ref a]) (vs := [.ref a]) F hr hx I (.cons rfl .nil) q))
/-- x op y by C's own def, y an instance of C too -/
theorem op_cmp {op : CmpOp} (hop : ∀ a b, compareOp op a b = richCompare op a b) (hn : PySem.W.notFirst X.K C (.ref C) = true) (hs : PySem.W.findIn X.K (.ref C) (cmpInfo op).2.1 = some (some (.ref g))) (hf : PySem.W.isFn X.K (.ref g) = true)
    (F : FnR X.prog X.w X.K X.mg X.base CX n g sp) (hr : Room n X.A) (hx : Passes CX X E) : OpR X (compareOp op) (rBin C sp E) := by
  intro pins s σ H x y v u Q I rx ry h
  obtain ⟨a, dx, fs, b, dy, gs, rfl, rfl, ha, hb, q⟩ := h
  cases (show v = Value.ref a from rx)
  cases (show u = Value.ref b from ry)
  obtain ⟨ox, od, J⟩ := instOf I ha
  obtain ⟨oy, oe, J'⟩ := instOf I hb
  obtain ⟨m, hF⟩ := I.fr
  rw [hop]
  refine PySem.W.cmp_K (op := op) (tb := .ref C) hr.units0 hF I.ok.mod.kin J J'.type hn hs hf ?_
  refine wpAny_mono (wpAny_call (run_fnR (us := [.ref a, .ref b]) (vs := [.ref a, .ref b]) F hr hx I (.cons rfl (.cons rfl .nil)) q)) (fun w s' z => ?_) fun _ _ x => x
  obtain ⟨z', H', I', rz, qz⟩ := z
  exact SlX.cmpback rz ⟨z', H', I', rz, qz⟩
/-- x != y, where C has an own == alone -/
theorem op_neOwn (hn : PySem.W.notFirst X.K C (.ref C) = true) (hs : PySem.W.findIn X.K (.ref C) "__ne__" = some (some (.builtin "object.__ne__"))) (hse : PySem.W.findIn X.K (.ref C) "__eq__" = some (some (.ref g))) (hf : PySem.W.isFn X.K (.ref g) = true)
    (hsub : PySem.W.subIn X.K (.ref C) (.type "object") = some true)
    (F : FnR X.prog X.w X.K X.mg X.base CX n g sp) (hr : Room (n + 1) X.A) (hx : Passes CX X E) : OpR X (compareOp .NotEq) (rBin C (fun vs H Q E => sp vs H (fun v H' => ∃ b, v = .bl b ∧ Q (.bl (!b)) H') E) E) := by
  intro pins s σ H x y v u Q I rx ry h
  obtain ⟨a, dx, fs, b, dy, gs, rfl, rfl, ha, hb, q⟩ := h
  cases (show v = Value.ref a from rx)
  cases (show u = Value.ref b from ry)
  obtain ⟨ox, od, J⟩ := instOf I ha
  obtain ⟨oy, oe, J'⟩ := instOf I hb
  obtain ⟨m, hF⟩ := I.fr
  have Xk := I.kIn
  show wpAny _ _ (richCompare .NotEq (.ref a) (.ref b)) _ _ _
  have eqc : wpAny (model X.prog X.w) X.A.in1 (callSpecialIfBound? (.ref a) "__eq__" [.ref b]) (fun r s' => ∃ k : Bool, r = some (.bool k) ∧ EP X pins σ Q (.bool (!k)) s') X.xe s := by
    refine PySem.W.ifBound_K Xk J hse hf ?_
    refine wpAny_mono (wpAny_call (SlX.run_at (us := [.ref a, .ref b]) (ws := [.ref a, .ref b]) F hr.in1 I.env0.in1 hx I (.cons rfl (.cons rfl .nil)) q)) (fun w s' z => ?_) fun _ _ x => x
    obtain ⟨z', H', I', rz, k, ek, qz⟩ := z
    subst ek
    cases (show w = Value.bool k from rz)
    exact ⟨k, rfl, .bl (!k), H', I', rfl, qz⟩
  have one : wpAny (model X.prog X.w) X.A (tryCompare (.ref a) (cmpInfo .NotEq).2.1 (.ref b)) (fun r s' => ∃ v, r = some v ∧ EP X pins σ Q v s') X.xe s := by
    unfold tryCompare
    refine wpAny_bind ?_
    simp only [callSpecialIfBound?, bindSpecialIfBound?]
    refine wpAny_holding (wpAny_bind (wpAny_bind (wpAny_bind (J.type.here ((PySem.W.looks_findIn Xk hs).here ?_)))))
    have body : wpAny (model X.prog X.w) X.A (call (.builtin "object.__ne__") ([.ref a] ++ [.ref b])) (fun v s' => ∃ k : Bool, v = .bool k ∧ EP X pins σ Q (.bool k) s') X.xe s := by
      refine wpAny_call (codeAny_call_builtin (by decide +kernel) PySem.F.entry_object_ne (PySem.W.check_slot (owner := "object") (n := "__ne__") (by decide +kernel) (by decide +kernel) (J.type.andThen (PySem.W.looks_subIn Xk hsub)) (PySem.F.args_object_ne_2 _ _) ?_))
      unfold Builtin.«object.__ne__» slotArgs
      refine wpAny_bind (wpAny_pure ?_)
      dsimp only
      refine wpAny_bind (wpAny_cRoomFor hr.in1.units0 ?_)
      refine wpAny_bind (wpAny_mono eqc (fun r s' z => ?_) fun _ _ z => z)
      obtain ⟨k, rfl, z⟩ := z
      dsimp only
      refine wpAny_bind (PySem.wpAny_truthy_bool ?_)
      exact wpAny_pure ⟨_, rfl, z⟩
    have fin : wpAny (model X.prog X.w) X.A (call (.builtin "object.__ne__") ([.ref a] ++ [.ref b]) >>= fun v => pure (some v)) (fun r s' => ∃ k : Bool, r = some (.bool k) ∧ EP X pins σ Q (.bool k) s') X.xe s :=
      wpAny_bind (wpAny_mono body (fun v s' ⟨k, e, z⟩ => wpAny_pure ⟨k, by rw [e], z⟩) fun _ _ z => z)
    have hb : bindSpecial (.builtin "object.__ne__") (.ref a) = pure (.builtin "object.__ne__", [.ref a]) := PySem.F.slot_object_ne.bind (.ref a)
    have pack : ∀ (r : Option Value) (s' : Shared), (∃ k : Bool, r = some (.bool k) ∧ EP X pins σ Q (.bool k) s') → wpAny (model X.prog X.w) X.A (match r with | some .notImplemented => pure none | none => pure none | some v => pure (some v)) (fun r s' => ∃ v, r = some v ∧ EP X pins σ Q v s') X.xe s' := fun r s' ⟨k, e, z⟩ => by
      subst e
      exact wpAny_pure ⟨_, rfl, z⟩
    refine wpAny_bind (wpAny_askSetting (wpAny_ite ?_))
    rw [hb]
    split
    · refine wpAny_bind (wpAny_pure (wpAny_pure ?_))
      exact wpAny_mono fin (fun r s' z => pack r s' z) fun _ _ z => z
    · refine wpAny_tryCatch (wpAny_bind (wpAny_pure (wpAny_pure ?_)))
      exact wpAny_mono fin (fun r s' z => pack r s' z) fun _ _ z => z
  unfold richCompare
  simp only [oneThing_ref]
  refine wpAny_holding (wpAny_bind (wpAny_cRoomFor hr.units0 ?_))
  refine wpAny_bind (J.type.here (wpAny_bind (J'.type.here ?_)))
  rw [if_neg (by simp)]
  refine wpAny_bind (wpAny_pure ?_)
  simp only [Bool.false_eq_true, if_false]
  refine wpAny_bind (wpAny_mono one (fun r s' z => ?_) fun _ _ e => e)
  obtain ⟨v, rfl, hq⟩ := z
  exact wpAny_pure hq
end

/-! static methods, read off the class -/
structure SMet (K : PySem.W.Frag) (C : Addr) (mc : Value) (m : Str) (p g : Addr) : Prop where
  fc : PySem.W.findCls K (.ref C) mc m = some (.get (.builtin "staticmethod.__get__") (.ref p) .none (.ref C))
  rc : ∃ rest, PySem.W.recIn K p "staticmethod" = some (.ref g :: rest)
  kp : PySem.W.keepIn K (.ref g) = true
def tSMeth (C : Addr) (sp : Sp) (E : XK) (ta : TE) (t : TA) : TE := fun σ H Q => ta σ H fun x H1 => x = .ref C ∧ t σ H1 fun vs H2 => sp vs H2 Q E
section
variable {X : Cx} {CX : CXT} {k : Nat} {C p g : Addr} {mc : Value} {sp : Sp} {E : XK} {o e : Expr} {es : List Expr} {f m : Str} {pos apos : Pos} {ta : TE} {t : TA} {pl : Sem Bool}
theorem getsm_ok {pins : List (Addr × Obj)} {σ : L2.St} {H : Hp} {s : Shared} {A : Around} {Ex : Value → Shared → Prop} {Q : Value × List Value → Shared → Prop} (I : Inv X pins σ H s) (r : ClX.CRead X.K C mc) (c : SMet X.K C mc m p g)
    (h : ∀ s', Inv X pins σ H s' → Q (.ref g, []) s') : wpAny (model X.prog X.w) A (getMethod (.ref C) m pl) Q Ex s := by
  obtain ⟨rest, hp⟩ := c.rc
  refine PySem.W.method_cls I.kIn r.ga (PySem.W.cls_bind I.kIn r.rd c.fc ?_)
  exact wpAny_call (PySem.W.sm_get (s := { s with toks := s.toks + 1 }) I.kIn hp (PySem.W.handed_on rfl (h _ (I.tok _))))
theorem pe_smeth (he : PE X o ta) (r : ClX.CRead X.K C mc) (c : SMet X.K C mc m p g) (F : FnR X.prog X.w X.K X.mg X.base CX k g sp) (hr : Room k X.A) (hx : Passes CX X E) (ha : PA X (e :: es) t)
    (hst : starEach (e :: es) X.env = (false, eval e X.env) :: starEach es X.env := by rfl) (hpl : (backTo pos (starEach es X.env)).any (·.1) = false := by rfl)
    (ht : eval (.Call (.Attribute o m apos) (e :: es) [] pos) X.env = (do
      let ov ← eval o X.env
      standAt apos.atName
      let (f, first) ← holding [ov] (getMethod ov m pl)
      callWith pos f first (backTo pos (starEach (e :: es) X.env)) (backToKw pos (keywordEach [] X.env))) := by rfl) :
    PE X (.Call (.Attribute o m apos) (e :: es) [] pos) (tSMeth C sp E ta t) := by
  refine ⟨fun pins s σ H Q I h => ?_⟩
  refine PySem.W.methodCall_KW (pl := pl) (thn (he.run pins s σ H _ I h) fun u s1 ⟨x, H1, I1, rx, ex, q⟩ => ?_) ht
  subst ex
  obtain rfl : u = Value.ref C := rx
  refine getsm_ok I1 r c fun s2 I2 => ?_
  refine PySem.W.callWith_K (h₀ := X.base) I.ok.mod.kin c.kp (thn (ha.run pos pins s2 σ H1 _ I2 q) fun us s3 ⟨vs, H2, I3, rv, q2⟩ => ⟨I3.kIn, ?_⟩) hst hpl
  exact wpAny_call (run_fnR F hr hx I3 rv q2)
theorem pe_smeth0 (he : PE X o ta) (r : ClX.CRead X.K C mc) (c : SMet X.K C mc m p g) (F : FnR X.prog X.w X.K X.mg X.base CX k g sp) (hr : Room k X.A) (hx : Passes CX X E)
    (ht : eval (.Call (.Attribute o m apos) [] [] pos) X.env = (do
      let ov ← eval o X.env
      standAt apos.atName
      let (f, first) ← holding [ov] (getMethod ov m pl)
      callWith pos f first (backTo pos (starEach [] X.env)) (backToKw pos (keywordEach [] X.env))) := by rfl) :
    PE X (.Call (.Attribute o m apos) [] [] pos) (tSMeth C sp E ta tNil) := by
  refine ⟨fun pins s σ H Q I h => ?_⟩
  refine PySem.W.methodCall_KW (pl := pl) (thn (he.run pins s σ H _ I h) fun u s1 ⟨x, H1, I1, rx, ex, q⟩ => ?_) ht
  subst ex
  obtain rfl : u = Value.ref C := rx
  refine getsm_ok I1 r c fun s2 I2 => ?_
  exact PySem.W.callWith_K0 I2.kIn c.kp (wpAny_call (run_fnR (us := []) F hr hx I2 .nil q))
end
/-! x op= y where the class has the plain operator alone -/
section
variable {X : Cx} {CX : CXT} {n : Nat} {C g : Addr} {sp : Sp} {E : XK}
/-- no class of the line above C has the name -/
def noneUp (K : PySem.W.Frag) (C : Addr) (nm : Str) : Bool := (PySem.W.clsIn K C).any fun cd => cd.mro.all fun c => match c with
  | .type _ => PySem.W.findIn K c nm == some none
  | .ref _ => PySem.W.findIn K c nm == some none
  | _ => false
theorem no_inplace {K : PySem.W.Frag} {M : Model} {h : Heap} {nm : String} {add : Bool} (Xk : K.In h) (hc : noneUp K C (dunderI nm) = true) : PySem.W.Looks M h (fillsInplaceSlot (.ref C) nm add) false := by
  obtain ⟨cd, hcd, hm⟩ := PySem.W.any_some hc
  have Lm : PySem.W.Looks M h (mroOf (.ref C)) cd.mro := (PySem.W.looks_clsIn Xk hcd).andThen (f := fun cd => pure cd.mro) .now
  unfold fillsInplaceSlot
  refine Lm.andThen ?_
  revert hm
  generalize cd.mro = l
  intro hm
  induction l with
  | nil => exact .now
  | cons c r ih =>
    rw [List.anyM_cons]
    rw [List.all_cons, Bool.and_eq_true] at hm
    have one : PySem.W.findIn K c (dunderI nm) = some none := by
      have := hm.1
      split at this
      · exact beq_iff_eq.mp this
      · exact beq_iff_eq.mp this
      · cases this
    have L1 : PySem.W.Looks M h (typeLookup c (dunderI nm)) none := PySem.W.looks_findIn Xk one
    refine PySem.W.Looks.andThen (a := false) ?_ (ih hm.2)
    exact L1.andThen .now
theorem bin_one {prog : Program} {w : World} {A : Around} {Ex : Value → Shared → Prop} {s : Shared} {K : PySem.W.Frag} {x : Addr} {ox : Obj} {od : Option Obj} {b : Value} {nm : String} {Q : Value → Shared → Prop} (Xk : K.In s.heap) (J : PySem.W.InstAt s.heap x ox C od)
    (hb : PySem.W.Looks (model prog w) s.heap (typeOf b) (.ref C)) (hc : PySem.W.selfFirst K C = true) (hs : PySem.W.findIn K (.ref C) (PySem.dunder nm) = some (some (.ref g))) (hf : PySem.W.isFn K (.ref g) = true)
    (h : wpAny (model prog w) A (call (.ref g) [.ref x, b]) (PySem.W.CmpBack Q) Ex s) : wpAny (model prog w) A (binaryOp1 nm (.ref x) b) (fun r s' => ∃ v, r = some v ∧ Q v s') Ex s := by
  obtain ⟨cd, rest, hcd, hm⟩ := PySem.W.ksp_first hc
  have one := PySem.W.ksp_try Xk J hs hf h
  unfold binaryOp1
  refine wpAny_bind (J.type.here (wpAny_bind (hb.here (wpAny_bind ((PySem.W.fills_K Xk hcd hm hs).here ?_)))))
  simp only [beq_self_eq_true, if_true]
  refine wpAny_bind (wpAny_pure ?_)
  simp only [Bool.and_false, Bool.false_eq_true, if_false, Bool.false_and]
  refine wpAny_bind (wpAny_pure ?_)
  simp only [Bool.false_eq_true, if_false]
  refine wpAny_bind (wpAny_mono one (fun r s' z => ?_) fun _ _ z => z)
  obtain ⟨v, rfl, hq⟩ := z
  exact wpAny_pure ⟨v, rfl, hq⟩
theorem ip_own {op : Operator} (hni : noneUp X.K C (dunderI op.info.2) = true) (hc : PySem.W.selfFirst X.K C = true) (hs : PySem.W.findIn X.K (.ref C) (PySem.dunder op.info.2) = some (some (.ref g))) (hf : PySem.W.isFn X.K (.ref g) = true)
    (F : FnR X.prog X.w X.K X.mg X.base CX n g sp) (hr : Room n X.A) (hx : Passes CX X E) : PIp X op (rBin C sp E) := by
  intro pins s σ H x y v u Q I rx ry h
  obtain ⟨a, dx, fs, b, dy, gs, rfl, rfl, ha, hb, q⟩ := h
  cases (show v = Value.ref a from rx)
  cases (show u = Value.ref b from ry)
  obtain ⟨ox, od, J⟩ := instOf I ha
  obtain ⟨oy, oe, J'⟩ := instOf I hb
  unfold inplaceOp
  refine wpAny_holding (wpAny_bind (J.type.here (wpAny_bind ((no_inplace I.kIn hni).here ?_))))
  simp only [Bool.false_eq_true, if_false]
  refine wpAny_bind (wpAny_mono (bin_one (Q := EP X pins σ Q) I.kIn J J'.type hc hs hf ?_) (fun r s' z => ?_) fun _ _ z => z)
  · refine wpAny_mono (wpAny_call (run_fnR (us := [.ref a, .ref b]) (vs := [.ref a, .ref b]) F hr hx I (.cons rfl (.cons rfl .nil)) q)) (fun w s' z => ?_) fun _ _ x => x
    obtain ⟨z', H', I', rz, qz⟩ := z
    exact SlX.cmpback rz ⟨z', H', I', rz, qz⟩
  · obtain ⟨v, rfl, hq⟩ := z
    exact wpAny_pure hq
end
end Du
namespace Du
open PySem L2
/-! the rules with the written part named (within a comprehension it must be) -/
section
variable {X : Cx} {K : PySem.W.Frag} {w : World} {k : Nat} {a b e o : Expr} {ta tb te : TE} {pos : Pos}
theorem hu65 {A : Around} {k : Nat} (hr : Room k A) : A.units + 65 < cLine := by have := hr.un; omega
theorem k_addU (hK : X.K = K) : OpR X (binaryOp .Add) (rAddU K) := hK ▸ op_addU
theorem k_inU (hK : X.K = K) (hr : Room k X.A) : OpR X (compareOp .In) (rInU K) := hK ▸ op_inU (hu65 hr)
theorem k_notInU (hK : X.K = K) (hr : Room k X.A) : OpR X (compareOp .NotIn) (rNotInU K) := hK ▸ op_notInU (hu65 hr)
theorem k_eq (hK : X.K = K) (hr : Room k X.A) : OpR X (compareOp .Eq) (rEqD K) := hK ▸ op_eqD hr.units
theorem k_ne (hK : X.K = K) (hr : Room k X.A) : OpR X (compareOp .NotEq) (rNeD K) := hK ▸ op_neD hr.units
theorem k_ix (hK : X.K = K) : IxR X (rIx K) := hK ▸ ix_seq
theorem k_seq {tg : Expr} (hK : X.K = K) (h : PE X e te) : PI X tg e (iSeq K te) := hK ▸ pi_seq h
theorem k_len (hK : X.K = K) : CallR X (.builtin "len") (fun xs H Q => ∃ x n, xs = [x] ∧ LenV K x H n ∧ Q (.int n) H) := hK ▸ call_len
theorem k_any (hK : X.K = K) (hc : X.calm = true) : CallR X (.builtin "any") (rAny K) := hK ▸ cr_any hc
theorem k_all (hK : X.K = K) (hc : X.calm = true) : CallR X (.builtin "all") (rAll K) := hK ▸ cr_all hc
theorem k_sortedS (hK : X.K = K) : CallR X (.builtin "sorted") (rSortedS K) := hK ▸ cr_sortedS
theorem k_listOf (hK : X.K = K) : CallR X (.type "list") (fun xs H Q => ∃ p ys, xs = [.ref p] ∧ (SqL K H p ys ∨ SqT K H p ys) ∧ ∀ l, H l = none → Q (.ref l) (upd H l (.lst ys))) := hK ▸ call_list_of
theorem k_tupleOf {p : Pos} (hK : X.K = K) (hg : Gl X "tuple") (hm : X.mg "tuple" = none) (ha : PE X a ta) (na : starEach [a] X.env = (false, eval a X.env) :: starEach [] X.env := by rfl) :
    PE X (.Call (.Name "tuple" p) [a] [] pos) (tThen ta (kTup K)) := hK ▸ pe_tupleOf hg hm ha na
theorem k_rev {j : Nat} {p1 p2 p3 : Pos} (hK : X.K = K) (he : PE X e te) : PE X (.Subscript e (.Slice none none (some (.UnaryOp .USub (.Constant (.int 1) j p1) p2)) p3) pos) (tRev K te) := hK ▸ pe_rev he
theorem k_sl (hK : X.K = K) : SlR X (rSlL K) := hK ▸ sl_list
theorem k_fld {f : Str} (hK : X.K = K) (he : PE X e ta) (hb : attributeBase e f X.env (eval e X.env) = eval e X.env) : PE X (.Attribute e f pos) (tFld K ta f) := hK ▸ pe_fld he hb
theorem k_setTxt (hK : X.K = K) (hw : X.w = w) (hc : X.calm = true) : CallR X (.type "set") (rSetTxt K w) := hK ▸ hw ▸ cr_setTxt hc
theorem k_sortedTxt (hw : X.w = w) (hc : X.calm = true) : CallR X (.builtin "sorted") (rSortedTxt w) := hw ▸ cr_sortedTxt hc
theorem k_isi (hK : X.K = K) : CallR X (.builtin "isinstance") (rIsi K) := hK ▸ call_isi
theorem k_isiT (hK : X.K = K) : CallR X (.builtin "isinstance") (rIsiT K) := hK ▸ call_isiT
theorem k_zip {e2 : Expr} {t : TA} {p tpos : Pos} {elts : List Expr} {kk : Nat} (hK : X.K = K) (hg : Gl X "zip") (hm : X.mg "zip" = none) (ha : PA X [e, e2] t)
    (hs : starEach [e, e2] X.env = (false, eval e X.env) :: starEach [e2] X.env := by rfl) (hpl : (backTo pos (starEach [e2] X.env)).any (·.1) = false := by rfl) :
    PI X (.Tuple elts kk tpos) (.Call (.Name "zip" p) [e, e2] [] pos) (RZ.iZipA K t) := hK ▸ RZ.pi_zipA hg hm ha hs hpl
theorem k_enum {t : TA} {p tpos : Pos} {elts : List Expr} {kk : Nat} (hK : X.K = K) (hg : Gl X "enumerate") (hm : X.mg "enumerate" = none) (ha : PA X [e] t) (hs : starEach [e] X.env = [(false, eval e X.env)] := by rfl) :
    PI X (.Tuple elts kk tpos) (.Call (.Name "enumerate" p) [e] [] pos) (iEnum K t) := hK ▸ pi_enum hg hm ha hs
theorem k_star {es : List Expr} {t : TA} {p : Pos} (hK : X.K = K) (he : PE X e te) (hr : PA X es t) (hs : starEach (.Starred e p :: es) X.env = (true, eval e X.env) :: starEach es X.env := by rfl) : PA X (.Starred e p :: es) (StX.tStar K te t) := hK ▸ StX.pa_star he hr hs
theorem k_pgt {es : List Expr} {kk n : Nat} {t : TGs} (hK : X.K = K) (hc : X.calm = true) (h : PGs X es t) (hn : (assignEach es X.env).length = n := by rfl) (hst : (assignEach es X.env).findIdx? (·.1) = none := by rfl) : PG X (.Tuple es kk pos) (gTup K n t) := hK ▸ pg_tup hc h hn hst
theorem k_bm {es : List Expr} {to : TE} {t : TA} {name : Str} {apos cpos : Pos} {T id : String} {r : V → List V → Hp → VK → Prop} (hK : X.K = K) (pa : PlainAttrs T) (slot : Slot T name id) (hty : typeOf (.builtin id) = pure (.type "method_descriptor")) (hm : MtR X id r) (ho : PE X o to) (ha : PA X (e :: es) t)
    (hbase : attributeBase o name X.env (eval o X.env) = eval o X.env := by rfl)
    (hfew : ((backTo cpos (starEach (e :: es) X.env)).all (fun x => !x.1) && (backToKw cpos (keywordEach [] X.env)).all (fun x => x.1.isSome)
      && decide ((e :: es).length + ([] : List Keyword).length + (if ([] : List Keyword).isEmpty then 0 else 1) < 30)) = true := by rfl)
    (hline : (apos.endLine == cpos.line) = true := by rfl) (hs : starEach (e :: es) X.env = (false, eval e X.env) :: starEach es X.env := by rfl) (hplain : (backTo cpos (starEach es X.env)).any (·.1) = false := by rfl) :
    PE X (.Call (.Attribute o name apos) (e :: es) [] cpos) (tBM K T r to t) := hK ▸ pe_bm pa slot hty hm ho ha hbase hfew hline hs hplain
end
end Du
namespace Du
open PySem L2
/-! cells that are owned: their contents in data, tracked -/
abbrev Mu := List (Addr × D)
def dom (μ : Mu) (a : Addr) : Prop := a ∈ μ.map (·.1)
inductive Cont (Z : Addr → Prop) (H : Hp) : Addr → D → Prop
  | lst {a : Addr} {vs : List V} {ds : List D} : H a = some (.lst vs) → Reps Z H vs ds → Cont Z H a (.lst ds)
  | ins {a C dx : Addr} {fs : List (Str × V)} {ds : List (Str × D)} : H a = some (.ins C dx fs) → RepF Z H fs ds → Cont Z H a (.ins C ds)
  | dK {a : Addr} {fs : List (Key × V)} {ds : List (Key × D)} : H a = some (.dK fs) → RepK Z H fs ds → Cont Z H a (.dK ds)
  | dT {a : Addr} {fs : List (List Key × V)} {ds : List (List Key × D)} : H a = some (.dT fs) → RepT Z H fs ds → Cont Z H a (.dT ds)
  | dN {a : Addr} {hf : NestedKey → Int} {es : NEs} {ob : Obj} {ds : List (NestedKey × D)} : H a = some (NDO hf a es ob) → RepN Z H es ds → Cont Z H a (.dN hf ds)
  /-- a table of code objects, all of them of the name q -/
  | tbl {a : Addr} {q : Str} {ps : Array Value} : H a = some (.tbl ps) → TriplesOk ps.toList → (∀ (pos : Pos) (cv : Value), codeAmong pos ps.toList = some cv → ∃ c, cv = .ref c ∧ ¬ Z c ∧ H c = some (LamX.CodeO c q)) → Cont Z H a (.str q)
structure Mem (Z : Addr → Prop) (H : Hp) (μ : Mu) : Prop where
  cs : ∀ p ∈ μ, Z p.1 ∧ Cont Z H p.1 p.2
  nd : (μ.map (·.1)).Nodup
theorem Cont.ex {Z : Addr → Prop} {H H' : Hp} {a : Addr} {d : D} (c : Cont Z H a d) (x : Ext Z H H') (e : ∀ o, H a = some o → H' a = some o) : Cont Z H' a d := by
  cases c with
  | lst h r => exact .lst (e _ h) (r.mono x)
  | ins h r => exact .ins (e _ h) (r.mono x)
  | dK h r => exact .dK (e _ h) (r.mono x)
  | dT h r => exact .dT (e _ h) (r.mono x)
  | dN h r => exact .dN (e _ h) (r.mono x)
  | tbl h t r => exact .tbl (e _ h) t fun p v hv => let ⟨c, e1, n, e2⟩ := r p v hv; ⟨c, e1, n, x c _ n e2⟩
theorem Cont.zs {Z Z' : Addr → Prop} {H : Hp} {a : Addr} {d : D} (c : Cont Z H a d) (x : ∀ a, Z' a → Z a) : Cont Z' H a d := by
  cases c with
  | lst h r => exact .lst h (r.zs fun a z => .inl (x a z))
  | ins h r => exact .ins h (r.zs fun a z => .inl (x a z))
  | dK h r => exact .dK h (r.zs fun a z => .inl (x a z))
  | dT h r => exact .dT h (r.zs fun a z => .inl (x a z))
  | dN h r => exact .dN h (r.zs fun a z => .inl (x a z))
  | tbl h t r => exact .tbl h t fun p v hv => let ⟨c, e1, n, e2⟩ := r p v hv; ⟨c, e1, fun z => n (x c z), e2⟩
theorem Cont.is {Z : Addr → Prop} {H : Hp} {a : Addr} {d : D} (c : Cont Z H a d) : ∃ o, H a = some o ∧ isTup o = false := by
  cases c with
  | lst h r => exact ⟨_, h, rfl⟩
  | ins h r => exact ⟨_, h, rfl⟩
  | dK h r => exact ⟨_, h, rfl⟩
  | dT h r => exact ⟨_, h, rfl⟩
  | dN h r => exact ⟨_, h, rfl⟩
  | tbl h t r => exact ⟨_, h, rfl⟩
theorem Mem.nil {Z : Addr → Prop} {H : Hp} : Mem Z H [] := ⟨fun _ h => absurd h (by simp), by simp⟩
theorem Mem.dz {Z : Addr → Prop} {H : Hp} {μ : Mu} (m : Mem Z H μ) {a : Addr} (h : dom μ a) : Z a := by
  obtain ⟨p, hp, rfl⟩ := List.mem_map.mp h
  exact (m.cs p hp).1
theorem Mem.is {Z : Addr → Prop} {H : Hp} {μ : Mu} (m : Mem Z H μ) {a : Addr} (h : dom μ a) : ∃ o, H a = some o ∧ isTup o = false := by
  obtain ⟨p, hp, rfl⟩ := List.mem_map.mp h
  exact (m.cs p hp).2.is
theorem Mem.ex {Z : Addr → Prop} {H H' : Hp} {μ : Mu} (m : Mem Z H μ) (x : Ex H H') : Mem Z H' μ := ⟨fun p hp => ⟨(m.cs p hp).1, (m.cs p hp).2.ex x.to fun o h => x _ o h⟩, m.nd⟩
theorem Mem.get {Z : Addr → Prop} {H : Hp} {μ : Mu} (m : Mem Z H μ) {k : Nat} {a : Addr} {d : D} (h : μ[k]? = some (a, d)) : Z a ∧ Cont Z H a d := m.cs (a, d) (List.mem_of_getElem? h)
theorem Mem.lst {Z : Addr → Prop} {H : Hp} {μ : Mu} (m : Mem Z H μ) {k : Nat} {a : Addr} {ds : List D} (h : μ[k]? = some (a, .lst ds)) : Z a ∧ ∃ vs, H a = some (.lst vs) ∧ Reps Z H vs ds := by
  obtain ⟨z, c⟩ := m.get h
  cases c with
  | lst h r => exact ⟨z, _, h, r⟩
theorem Mem.ins {Z : Addr → Prop} {H : Hp} {μ : Mu} (m : Mem Z H μ) {k : Nat} {a C : Addr} {ds : List (Str × D)} (h : μ[k]? = some (a, .ins C ds)) : Z a ∧ ∃ dx fs, H a = some (.ins C dx fs) ∧ RepF Z H fs ds := by
  obtain ⟨z, c⟩ := m.get h
  cases c with
  | ins h r => exact ⟨z, _, _, h, r⟩
theorem set_fst {μ : Mu} {k : Nat} {a : Addr} {d d' : D} (h : μ[k]? = some (a, d)) : (μ.set k (a, d')).map (·.1) = μ.map (·.1) := by
  apply List.ext_getElem?
  intro i
  rw [List.getElem?_map, List.getElem?_map, List.getElem?_set]
  by_cases e : k = i
  · subst e
    rw [if_pos rfl, h]
    have := (List.getElem?_eq_some_iff.mp h).1
    rw [if_pos this]; rfl
  · rw [if_neg e]
theorem Mem.putC {Z : Addr → Prop} {H : Hp} {μ : Mu} (m : Mem Z H μ) {k : Nat} {a : Addr} {d d' : D} {o : HO} (h : μ[k]? = some (a, d)) (r : Cont Z (upd H a o) a d') : Mem Z (upd H a o) (μ.set k (a, d')) := by
  have za := (m.get h).1
  have x : Ext Z H (upd H a o) := (Ext.rf H).mut za
  refine ⟨fun p hp => ?_, by rw [set_fst h]; exact m.nd⟩
  obtain ⟨j, hj⟩ := List.getElem?_of_mem hp
  rw [List.getElem?_set] at hj
  by_cases e : k = j
  · subst e
    have := (List.getElem?_eq_some_iff.mp h).1
    rw [if_pos rfl, if_pos this] at hj
    cases hj
    exact ⟨za, r⟩
  · rw [if_neg e] at hj
    have hm := m.cs p (List.mem_of_getElem? hj)
    have ne : p.1 ≠ a := fun z => by
      have h1 : (μ.map (·.1))[j]? = some a := by rw [List.getElem?_map, hj, ← z]; rfl
      have h2 : (μ.map (·.1))[k]? = some a := by rw [List.getElem?_map, h]; rfl
      have hjl : j < (μ.map (·.1)).length := (List.getElem?_eq_some_iff.mp h1).1
      exact e ((List.getElem?_inj (i := j) (j := k) hjl m.nd).mp (h1.trans h2.symm)).symm
    exact ⟨hm.1, hm.2.ex x fun o ho => by rw [upd_ne ne]; exact ho⟩
theorem Mem.put {Z : Addr → Prop} {H : Hp} {μ : Mu} (m : Mem Z H μ) {k : Nat} {a : Addr} {d : D} {ds : List D} {vs : List V} (h : μ[k]? = some (a, d)) (r : Reps Z H vs ds) : Mem Z (upd H a (.lst vs)) (μ.set k (a, .lst ds)) :=
  m.putC h (.lst upd_same (r.mono ((Ext.rf H).mut (m.get h).1)))
/-! from a heap to a later one -/
structure Nxt (Z : Addr → Prop) (H : Hp) (μ : Mu) (H' : Hp) (μ' : Mu) : Prop where
  ext : Ext (dom μ) H H'
  dm : μ'.map (·.1) = μ.map (·.1)
  mem : Mem Z H' μ'
section
variable {Z : Addr → Prop} {H H1 H' : Hp} {μ μ1 μ' : Mu}
theorem Nxt.rf (m : Mem Z H μ) : Nxt Z H μ H μ := ⟨Ext.rf H, rfl, m⟩
theorem Nxt.exs (m : Mem Z H μ) (x : Ex H H') : Nxt Z H μ H' μ := ⟨x.to, rfl, m.ex x⟩
theorem Nxt.tr (x : Nxt Z H μ H1 μ1) (y : Nxt Z H1 μ1 H' μ') : Nxt Z H μ H' μ' := ⟨x.ext.tr (y.ext.wk fun a h => by unfold dom at h ⊢; rw [← x.dm]; exact h), y.dm.trans x.dm, y.mem⟩
theorem Nxt.to (x : Nxt Z H μ H' μ') (m : Mem Z H μ) : Ext Z H H' := x.ext.wk fun a h => m.dz h
theorem Nxt.ok (x : Nxt Z H μ H' μ') (k : okZ Z H) : okZ Z H' := fun a z => by
  by_cases h : dom μ a
  · refine x.mem.is (a := a) ?_
    unfold dom; rw [x.dm]; exact h
  · obtain ⟨o, h1, h2⟩ := k a z
    exact ⟨o, x.ext a o h h1, h2⟩
theorem Nxt.putC {k : Nat} {a : Addr} {d d' : D} {o : HO} (m : Mem Z H μ) (h : μ[k]? = some (a, d)) (r : Cont Z (upd H a o) a d') : Nxt Z H μ (upd H a o) (μ.set k (a, d')) :=
  ⟨(Ext.rf H).mut (List.mem_map.mpr ⟨_, List.mem_of_getElem? h, rfl⟩), set_fst h, m.putC h r⟩
theorem Nxt.put {k : Nat} {a : Addr} {d : D} {ds : List D} {vs : List V} (m : Mem Z H μ) (h : μ[k]? = some (a, d)) (r : Reps Z H vs ds) : Nxt Z H μ (upd H a (.lst vs)) (μ.set k (a, .lst ds)) :=
  ⟨(Ext.rf H).mut (List.mem_map.mpr ⟨_, List.mem_of_getElem? h, rfl⟩), set_fst h, m.put h r⟩
end
/-! readings with effects -/
def GE (te : TE) (ρ : Rho) (μ : Mu) (Φ : D → Mu → Prop) : Prop := ∀ (Z : Addr → Prop) (σ : L2.St) (H : Hp) (Q : VK), okZ Z H → SRep Z H σ ρ → Mem Z H μ → (∀ v H' d μ', Φ d μ' → Nxt Z H μ H' μ' → Rep Z H' v d → Q v H') → te σ H Q
def GEA (ta : TA) (ρ : Rho) (μ : Mu) (Φ : List D → Mu → Prop) : Prop := ∀ (Z : Addr → Prop) (σ : L2.St) (H : Hp) (Q : List V → Hp → Prop), okZ Z H → SRep Z H σ ρ → Mem Z H μ → (∀ vs H' ds μ', Φ ds μ' → Nxt Z H μ H' μ' → Reps Z H' vs ds → Q vs H') → ta σ H Q
def GT (tt : TT) (ρ : Rho) (μ : Mu) (Φ : Bool → Mu → Prop) : Prop := ∀ (Z : Addr → Prop) (σ : L2.St) (H : Hp) (Q : Bool → Hp → Prop), okZ Z H → SRep Z H σ ρ → Mem Z H μ → (∀ b H' μ', Φ b μ' → Nxt Z H μ H' μ' → Q b H') → tt σ H Q
section
variable {ρ : Rho} {μ : Mu} {te ta tb : TE} {tt t u : TT} {d e z : D} {b : Bool} {Φ : D → Mu → Prop} {ΦA : List D → Mu → Prop} {ΦT : Bool → Mu → Prop}
theorem ge_ev (h : Ev te ρ d) (q : Φ d μ) : GE te ρ μ Φ := fun Z σ H Q k s m c => h Z σ H Q k s fun v H' x r => c v H' d μ q (.exs m x) r
theorem gea_ev {ta : TA} {ds : List D} (h : EvA ta ρ ds) (q : ΦA ds μ) : GEA ta ρ μ ΦA := fun Z σ H Q k s m c => h Z σ H Q k s fun v H' x r => c v H' ds μ q (.exs m x) r
theorem gt_ev (h : EvT tt ρ b) (q : ΦT b μ) : GT tt ρ μ ΦT := fun Z σ H Q k s m c => h Z σ H Q k s fun H' x => c b H' μ q (.exs m x)
theorem GE.mono {Φ' : D → Mu → Prop} (h : GE te ρ μ Φ) (g : ∀ d μ', Φ d μ' → Φ' d μ') : GE te ρ μ Φ' := fun Z σ H Q k s m c => h Z σ H Q k s m fun v H' d μ' q n r => c v H' d μ' (g d μ' q) n r
theorem gea_nil (q : ΦA [] μ) : GEA tNil ρ μ ΦA := gea_ev ev_nil q
theorem gea_cons {tr : TA} (h : GE ta ρ μ fun d μ1 => GEA tr ρ μ1 fun ds μ2 => ΦA (d :: ds) μ2) : GEA (tCons ta tr) ρ μ ΦA := fun Z σ H Q k s m c =>
  h Z σ H _ k s m fun x H1 d μ1 g n1 r1 => g Z σ H1 _ (n1.ok k) (s.mono (n1.to m)) n1.mem fun xs H2 ds μ2 q n2 r2 => c _ H2 _ μ2 q (n1.tr n2) (.cons (r1.mono (n2.to n1.mem)) r2)
theorem ge_op {r : R2} (h : GE ta ρ μ fun d μ1 => GE tb ρ μ1 fun e μ2 => ∃ z, R2D r d e z ∧ Φ z μ2) : GE (tOp r ta tb) ρ μ Φ := fun Z σ H Q k s m c =>
  h Z σ H _ k s m fun x H1 d μ1 g n1 r1 => g Z σ H1 _ (n1.ok k) (s.mono (n1.to m)) n1.mem fun y H2 e μ2 q n2 r2 => by
    obtain ⟨z, hr, q⟩ := q
    exact hr Z H2 x y Q (n2.ok (n1.ok k)) (r1.mono (n2.to n1.mem)) r2 fun v H3 x3 r3 => c v H3 z μ2 q ((n1.tr n2).tr (.exs n2.mem x3)) r3
theorem ge_un {r : V → Hp → VK → Prop} (h : GE ta ρ μ fun d μ1 => ∃ z, R1D r d z ∧ Φ z μ1) : GE (tUn r ta) ρ μ Φ := fun Z σ H Q k s m c =>
  h Z σ H _ k s m fun x H1 d μ1 ⟨z, hr, q⟩ n1 r1 => hr Z H1 x Q (n1.ok k) r1 fun v H3 x3 r3 => c v H3 z μ1 q (n1.tr (.exs n1.mem x3)) r3
theorem ge_then {r : V → Hp → VK → Prop} (h : GE ta ρ μ fun d μ1 => ∃ z, R1D r d z ∧ Φ z μ1) : GE (tThen ta r) ρ μ Φ := fun Z σ H Q k s m c =>
  h Z σ H _ k s m fun x H1 d μ1 ⟨z, hr, q⟩ n1 r1 => hr Z H1 x Q (n1.ok k) r1 fun v H3 x3 r3 => c v H3 z μ1 q (n1.tr (.exs n1.mem x3)) r3
theorem ge_cb {r : List V → Hp → VK → Prop} {ta : TA} (h : GEA ta ρ μ fun ds μ1 => ∃ z, RLD r ds z ∧ Φ z μ1) : GE (tCB r ta) ρ μ Φ := fun Z σ H Q k s m c =>
  h Z σ H _ k s m fun x H1 d μ1 ⟨z, hr, q⟩ n1 r1 => hr Z H1 x Q (n1.ok k) r1 fun v H3 x3 r3 => c v H3 z μ1 q (n1.tr (.exs n1.mem x3)) r3
theorem ge_tup {ta : TA} (h : GEA ta ρ μ fun ds μ1 => ds.length ≤ 100000 ∧ Φ (.tup ds) μ1) : GE (tTup ta) ρ μ Φ := fun Z σ H Q k s m c =>
  h Z σ H _ k s m fun vs H1 ds μ1 ⟨hz, q⟩ n1 r1 => ⟨Nat.le_trans (by rw [r1.len]; exact hz) (by decide), fun p hp =>
    c _ _ _ μ1 q (n1.tr (.exs n1.mem (Ex.new hp))) (.tup ((n1.ok k).no hp) upd_same (r1.mono (Ext.new hp)))⟩
theorem ge_lst {ta : TA} (h : GEA ta ρ μ fun ds μ1 => ds.length ≤ 100000 ∧ Φ (.lst ds) μ1) : GE (tLst ta) ρ μ Φ := fun Z σ H Q k s m c =>
  h Z σ H _ k s m fun vs H1 ds μ1 ⟨hz, q⟩ n1 r1 => ⟨Nat.le_trans (by rw [r1.len]; exact hz) (by decide), fun p hp =>
    c _ _ _ μ1 q (n1.tr (.exs n1.mem (Ex.new hp))) (.lst ((n1.ok k).no hp) upd_same (r1.mono (Ext.new hp)))⟩
theorem gt_test (h : GE te ρ μ fun d μ1 => ∃ b, d = .bl b ∧ ΦT b μ1) : GT (tTest te) ρ μ ΦT := fun Z σ H Q k s m c => h Z σ H _ k s m fun v H1 d μ1 ⟨b, e, q⟩ n1 r1 => by subst e; cases r1; exact ⟨b, rfl, c b H1 μ1 q n1⟩
theorem gt_B (h : GE te ρ μ fun d μ1 => ∃ b, d = .bl b ∧ ΦT b μ1) : GT (tB te) ρ μ ΦT := fun Z σ H Q k s m c => h Z σ H _ k s m fun v H1 d μ1 ⟨b, e, q⟩ n1 r1 => by subst e; cases r1; exact ⟨b, rfl, c b H1 μ1 q n1⟩
theorem gt_not (h : GT t ρ μ fun b μ1 => ΦT (!b) μ1) : GT (tNot t) ρ μ ΦT := fun Z σ H Q k s m c => h Z σ H _ k s m fun b H1 μ1 q n1 => c (!b) H1 μ1 q n1
theorem gt_and (h : GT t ρ μ fun b μ1 => if b = true then GT u ρ μ1 ΦT else ΦT false μ1) : GT (tAnd t u) ρ μ ΦT := fun Z σ H Q k s m c => h Z σ H _ k s m fun b H1 μ1 q n1 => by
  cases b with
  | true => exact iteT (q Z σ H1 _ (n1.ok k) (s.mono (n1.to m)) n1.mem fun b2 H2 μ2 q2 n2 => c b2 H2 μ2 q2 (n1.tr n2))
  | false => exact iteF (c false H1 μ1 q n1)
theorem gt_or (h : GT t ρ μ fun b μ1 => if b = true then ΦT true μ1 else GT u ρ μ1 ΦT) : GT (tOr t u) ρ μ ΦT := fun Z σ H Q k s m c => h Z σ H _ k s m fun b H1 μ1 q n1 => by
  cases b with
  | true => exact iteT (c true H1 μ1 q n1)
  | false => exact iteF (q Z σ H1 _ (n1.ok k) (s.mono (n1.to m)) n1.mem fun b2 H2 μ2 q2 n2 => c b2 H2 μ2 q2 (n1.tr n2))
/-! owned lists -/
theorem ge_ixO {K : PySem.W.Frag} (h : GE ta ρ μ fun d μ1 => GE tb ρ μ1 fun e μ2 => ∃ (a : Addr) (k : Nat) (ds : List D) (i : Nat) (z : D), d = .ptr a ∧ e = .int ((i : Nat) : Int) ∧ μ2[k]? = some (a, .lst ds) ∧ ds[i]? = some z ∧ Φ z μ2) : GE (tOp (rIx K) ta tb) ρ μ Φ := fun Z σ H Q k s m c =>
  h Z σ H _ k s m fun x H1 d μ1 g n1 r1 => g Z σ H1 _ (n1.ok k) (s.mono (n1.to m)) n1.mem fun y H2 e μ2 q n2 r2 => by
    obtain ⟨a, kk, ds, i, z, rfl, rfl, hk, hi, q⟩ := q
    cases r1; cases r2
    obtain ⟨za, vs, hv, rs⟩ := n2.mem.lst hk
    obtain ⟨v, hv1, hv2⟩ := rs.get hi
    refine .inl ⟨a, vs, (i : Int), v, rfl, rfl, .inl (.inl hv), ?_, c v H2 z μ2 q (n1.tr n2) hv2⟩
    have hl : i < vs.length := (List.getElem?_eq_some_iff.mp hv1).1
    unfold atI ixN
    rw [if_pos (by omega), if_pos (by omega)]
    simpa using hv1
theorem ge_lenO {K : PySem.W.Frag} {ta : TA} (h : GEA ta ρ μ fun ds μ1 => ∃ (a : Addr) (k : Nat) (xs : List D), ds = [.ptr a] ∧ μ1[k]? = some (a, .lst xs) ∧ Φ (.int xs.length) μ1) : GE (tCB (fun xs H Q => ∃ x n, xs = [x] ∧ LenV K x H n ∧ Q (.int n) H) ta) ρ μ Φ := fun Z σ H Q k s m c =>
  h Z σ H _ k s m fun vs H1 ds μ1 g n1 r1 => by
    obtain ⟨a, kk, xs, rfl, hk, q⟩ := g
    cases r1 with
    | cons r rs =>
      cases r; cases rs
      obtain ⟨za, ws, hv, rs⟩ := n1.mem.lst hk
      refine ⟨_, xs.length, rfl, ?_, c _ H1 _ μ1 q n1 (.int _)⟩
      rw [← rs.len]
      exact .inl ⟨ws, .inl (.inl hv), rfl⟩
theorem ge_append {K : PySem.W.Frag} {ta : TA} (h : GE te ρ μ fun d μ1 => ∃ (a : Addr) (k : Nat) (x : List D), d = .ptr a ∧ μ1[k]? = some (a, .lst x) ∧ GEA ta ρ μ1 fun es μ2 => ∃ (ds : List D) (z : D), es = [z] ∧ μ2[k]? = some (a, .lst ds) ∧ ds.length < 100000 ∧ Φ .non (μ2.set k (a, .lst (ds ++ [z])))) : GE (tBM K "list" rAppend te ta) ρ μ Φ := fun Z σ H Q k s m c =>
  h Z σ H _ k s m fun x H1 d μ1 g n1 r1 => by
    obtain ⟨a, k0, x0, rfl, hk0, g⟩ := g
    obtain ⟨za, ws, hv, rs⟩ := n1.mem.lst hk0
    cases r1
    refine ⟨.inl ⟨rfl, ws, .inl (.inl hv)⟩, g Z σ H1 _ (n1.ok k) (s.mono (n1.to m)) n1.mem fun xs H2 es μ2 q n2 r2 => ?_⟩
    obtain ⟨ds, z, rfl, hk, hz, q⟩ := q
    cases r2 with
    | cons r2 r3 =>
      cases r3
      obtain ⟨_, vs2, hv2, rs2⟩ := n2.mem.lst hk
      refine ⟨a, vs2, _, rfl, rfl, hv2, Nat.lt_of_lt_of_le (by rw [rs2.len]; exact hz) (by decide), c _ _ _ _ q ((n1.tr n2).tr (.put n2.mem hk (rs2.app (.cons r2 .nil)))) .non⟩
theorem Reps.erase {Z : Addr → Prop} {H : Hp} : ∀ {vs : List V} {ds : List D} (i : Nat), Reps Z H vs ds → Reps Z H (vs.eraseIdx i) (ds.eraseIdx i)
  | _, _, _, .nil => by simpa using Reps.nil
  | _, _, 0, .cons _ r => r
  | _, _, i + 1, .cons h r => .cons h (r.erase i)
theorem ge_popO {K : PySem.W.Frag} {ta : TA} (h : GE te ρ μ fun d μ1 => ∃ (a : Addr) (k : Nat) (x : List D), d = .ptr a ∧ μ1[k]? = some (a, .lst x) ∧ GEA ta ρ μ1 fun es μ2 => ∃ (ds : List D) (i : Nat) (z : D), es = [.int ((i : Nat) : Int)] ∧ μ2[k]? = some (a, .lst ds) ∧ i < 100000 ∧ ds[i]? = some z ∧ Φ z (μ2.set k (a, .lst (ds.eraseIdx i)))) : GE (tBM K "list" rPopAt te ta) ρ μ Φ := fun Z σ H Q k s m c =>
  h Z σ H _ k s m fun x H1 d μ1 g n1 r1 => by
    obtain ⟨a, k0, x0, rfl, hk0, g⟩ := g
    obtain ⟨za, ws, hv, rs⟩ := n1.mem.lst hk0
    cases r1
    refine ⟨.inl ⟨rfl, ws, .inl (.inl hv)⟩, g Z σ H1 _ (n1.ok k) (s.mono (n1.to m)) n1.mem fun xs H2 es μ2 q n2 r2 => ?_⟩
    obtain ⟨ds, i, z, rfl, hk, hz, hi, q⟩ := q
    cases r2 with
    | cons r2 r3 =>
      cases r2; cases r3
      obtain ⟨_, vs2, hv2, rs2⟩ := n2.mem.lst hk
      obtain ⟨v, hv3, hv4⟩ := rs2.get hi
      have hl : i < vs2.length := (List.getElem?_eq_some_iff.mp hv3).1
      have n3 : Nxt Z H2 μ2 (upd H2 a (.lst (vs2.eraseIdx i))) (μ2.set k0 (a, .lst (ds.eraseIdx i))) := .put n2.mem hk (rs2.erase i)
      refine ⟨a, vs2, i, i, v, rfl, rfl, hv2, by omega, by omega, ?_, hv3, c _ _ _ _ q ((n1.tr n2).tr n3) (hv4.mono (n3.to n2.mem))⟩
      unfold seqIndex?
      simp only [show ¬ ((i : Int) < 0) from by omega]
      simp [hl]
/-! calls -/
def spM (R : List D → Mu → (D → Mu → Prop) → Prop) : Sp := fun vs H Q _ => ∃ (Z : Addr → Prop) (ds : List D) (μ : Mu) (Φ : D → Mu → Prop), okZ Z H ∧ Reps Z H vs ds ∧ Mem Z H μ ∧ R ds μ Φ ∧ ∀ v H' d μ', Φ d μ' → Nxt Z H μ H' μ' → Rep Z H' v d → Q v H'
theorem Mem.left {Z : Addr → Prop} {H : Hp} {μ ν : Mu} (m : Mem Z H (μ ++ ν)) : Mem Z H μ := ⟨fun p hp => m.cs p (List.mem_append_left _ hp), (by have := m.nd; rw [List.map_append] at this; exact (List.nodup_append.mp this).1)⟩
theorem Nxt.frame {Z : Addr → Prop} {H H' : Hp} {μ ν μ' : Mu} (m : Mem Z H (μ ++ ν)) (n : Nxt Z H μ H' μ') : Nxt Z H (μ ++ ν) H' (μ' ++ ν) := by
  have nd := m.nd
  rw [List.map_append] at nd
  have hd : ∀ a, dom ν a → ¬ dom μ a := fun a h1 h2 => (List.nodup_append.mp nd).2.2 a h2 a h1 rfl
  have x := n.to m.left
  refine ⟨n.ext.wk fun a h => by unfold dom at h ⊢; rw [List.map_append]; exact List.mem_append_left _ h, by rw [List.map_append, List.map_append, n.dm], fun p hp => ?_, by rw [List.map_append, n.dm]; exact nd⟩
  rcases List.mem_append.mp hp with h | h
  · exact n.mem.cs p h
  · have hc := m.cs p (List.mem_append_right _ h)
    exact ⟨hc.1, hc.2.ex x fun o ho => n.ext _ o (hd _ (List.mem_map.mpr ⟨p, h, rfl⟩)) ho⟩
theorem Mem.right {Z : Addr → Prop} {H : Hp} {μ ν : Mu} (m : Mem Z H (ν ++ μ)) : Mem Z H μ := ⟨fun p hp => m.cs p (List.mem_append_right _ hp), (by have := m.nd; rw [List.map_append] at this; exact (List.nodup_append.mp this).2.1)⟩
theorem Nxt.frameL {Z : Addr → Prop} {H H' : Hp} {μ ν μ' : Mu} (m : Mem Z H (ν ++ μ)) (n : Nxt Z H μ H' μ') : Nxt Z H (ν ++ μ) H' (ν ++ μ') := by
  have nd := m.nd
  rw [List.map_append] at nd
  have hd : ∀ a, dom ν a → ¬ dom μ a := fun a h1 h2 => (List.nodup_append.mp nd).2.2 a h1 a h2 rfl
  have x := n.to m.right
  refine ⟨n.ext.wk fun a h => by unfold dom at h ⊢; rw [List.map_append]; exact List.mem_append_right _ h, by rw [List.map_append, List.map_append, n.dm], fun p hp => ?_, by rw [List.map_append, n.dm]; exact nd⟩
  rcases List.mem_append.mp hp with h | h
  · have hc := m.cs p (List.mem_append_left _ h)
    exact ⟨hc.1, hc.2.ex x fun o ho => n.ext _ o (hd _ (List.mem_map.mpr ⟨p, h, rfl⟩)) ho⟩
  · exact n.mem.cs p h
theorem ge_callL {R : List D → Mu → (D → Mu → Prop) → Prop} {E : XK} {ta : TA} (h : GEA ta ρ μ fun ds μ1 => ∃ ν μa, μ1 = ν ++ μa ∧ R ds μa fun d μ' => Φ d (ν ++ μ')) : GE (tCall (spM R) [] E ta) ρ μ Φ := fun Z σ H Q k s m c =>
  h Z σ H _ k s m fun vs H1 ds μ1 g n1 r1 => by
    obtain ⟨ν, μa, rfl, g⟩ := g
    exact ⟨Z, ds, μa, _, n1.ok k, by rw [List.append_nil]; exact r1, n1.mem.right, g, fun v H' d μ' q n2 r2 => c v H' d _ q (n1.tr (n2.frameL n1.mem)) r2⟩
/-- all of it is the callee's -/
theorem ge_callA {R : List D → Mu → (D → Mu → Prop) → Prop} {E : XK} {ta : TA} (h : GEA ta ρ μ fun ds μ1 => R ds μ1 Φ) : GE (tCall (spM R) [] E ta) ρ μ Φ := fun Z σ H Q k s m c =>
  h Z σ H _ k s m fun vs H1 ds μ1 g n1 r1 =>
    ⟨Z, ds, μ1, _, n1.ok k, by rw [List.append_nil]; exact r1, n1.mem, g, fun v H' d μ' q n2 r2 => c v H' d _ q (n1.tr n2) r2⟩
theorem ge_callM {R : List D → Mu → (D → Mu → Prop) → Prop} {E : XK} {ta : TA} (h : GEA ta ρ μ fun ds μ1 => ∃ μa ν, μ1 = μa ++ ν ∧ R ds μa fun d μ' => Φ d (μ' ++ ν)) : GE (tCall (spM R) [] E ta) ρ μ Φ := fun Z σ H Q k s m c =>
  h Z σ H _ k s m fun vs H1 ds μ1 g n1 r1 => by
    obtain ⟨μa, ν, rfl, g⟩ := g
    exact ⟨Z, ds, μa, _, n1.ok k, by rw [List.append_nil]; exact r1, n1.mem.left, g, fun v H' d μ' q n2 r2 => c v H' d _ q (n1.tr (n2.frame n1.mem)) r2⟩
theorem ge_callP {R : List D → D → Prop} {E : XK} {ta : TA} (h : GEA ta ρ μ fun ds μ1 => ∃ z, R ds z ∧ Φ z μ1) : GE (tCall (spP R) [] E ta) ρ μ Φ := fun Z σ H Q k s m c =>
  h Z σ H _ k s m fun vs H1 ds μ1 g n1 r1 => by
    obtain ⟨z, hr, q⟩ := g
    exact ⟨Z, ds, z, n1.ok k, by rw [List.append_nil]; exact r1, hr, fun v H2 x2 r2 => c v H2 z μ1 q (n1.tr (.exs n1.mem x2)) r2⟩
/-! statements -/
structure Nz (Z : Addr → Prop) (H : Hp) (μ : Mu) (Z' : Addr → Prop) (H' : Hp) (μ' : Mu) : Prop where
  ext : Ext (dom μ) H H'
  dm : ∀ a, dom μ' a → dom μ a
  mem : Mem Z' H' μ'
  ok : okZ Z' H'
  ok0 : okZ Z H'
  zs : ∀ a, Z' a → Z a
  zk : ∀ a, Z a → Z' a ∨ (dom μ a ∧ ¬ dom μ' a)
theorem Nxt.nz {Z : Addr → Prop} {H H' : Hp} {μ μ' : Mu} (n : Nxt Z H μ H' μ') (k : okZ Z H) : Nz Z H μ Z H' μ' := ⟨n.ext, fun a h => by unfold dom at h ⊢; rw [← n.dm]; exact h, n.mem, n.ok k, n.ok k, fun _ z => z, fun _ z => .inl z⟩
theorem Nz.tr {Z Z1 Z' : Addr → Prop} {H H1 H' : Hp} {μ μ1 μ' : Mu} (x : Nz Z H μ Z1 H1 μ1) (y : Nz Z1 H1 μ1 Z' H' μ') : Nz Z H μ Z' H' μ' :=
  ⟨x.ext.tr (y.ext.wk x.dm), fun a h => x.dm a (y.dm a h), y.mem, y.ok, fun a z => by
    rcases x.zk a z with h | ⟨h1, h2⟩
    · exact y.ok0 a h
    · obtain ⟨o, ho, hi⟩ := x.ok0 a z
      exact ⟨o, y.ext a o h2 ho, hi⟩, fun a z => x.zs a (y.zs a z), fun a z => by
    rcases x.zk a z with h | ⟨h1, h2⟩
    · rcases y.zk a h with h | ⟨h1, h2⟩
      · exact .inl h
      · exact .inr ⟨x.dm a h1, h2⟩
    · exact .inr ⟨h1, fun z => h2 (y.dm a z)⟩⟩
theorem Nz.to {Z Z' : Addr → Prop} {H H' : Hp} {μ μ' : Mu} (n : Nz Z H μ Z' H' μ') (m : Mem Z H μ) : Ext Z H H' := n.ext.wk fun a h => m.dz h
theorem Nz.srep {Z Z' : Addr → Prop} {H H' : Hp} {μ μ' : Mu} {σ : L2.St} {ρ : Rho} (n : Nz Z H μ Z' H' μ') (m : Mem Z H μ) (s : SRep Z H σ ρ) : SRep Z' H' σ ρ := (s.mono (n.to m)).zs fun a z => .inl (n.zs a z)
def GS (ts : TS) (ρ : Rho) (μ : Mu) (N : Rho → Mu → Prop) (R : D → Mu → Prop) : Prop := ∀ (Z : Addr → Prop) (σ : L2.St) (H : Hp) (E : Ends), okZ Z H → SRep Z H σ ρ → Mem Z H μ →
  (∀ σ' H' ρ' μ' Z', N ρ' μ' → Nz Z H μ Z' H' μ' → SRep Z' H' σ' ρ' → E.nx σ' H') → (∀ v H' d μ' Z', R d μ' → Nz Z H μ Z' H' μ' → Rep Z' H' v d → E.rt v H') → ts E σ H
variable {N : Rho → Mu → Prop} {R : D → Mu → Prop} {ts us : TS}
theorem gs_next (q : N ρ μ) : GS tNext ρ μ N R := fun Z σ H E k s m n r => n σ H ρ μ Z q ((Nxt.rf m).nz k) s
theorem gs_seq (h : GS ts ρ μ (fun ρ' μ' => GS us ρ' μ' N R) R) : GS (tSeq ts us) ρ μ N R := fun Z σ H E k s m n r =>
  h Z σ H _ k s m (fun σ' H' ρ' μ' Z' g z s' => g Z' σ' H' E z.ok s' z.mem (fun σ2 H2 ρ2 μ2 Z2 q z2 s2 => n σ2 H2 ρ2 μ2 Z2 q (z.tr z2) s2) fun v H2 d μ2 Z2 q z2 r2 => r v H2 d μ2 Z2 q (z.tr z2) r2) r
theorem gs_ret (h : GE te ρ μ R) : GS (tRet te) ρ μ N R := fun Z σ H E k s m n r => h Z σ H _ k s m fun v H' d μ' q nx rp => r v H' d μ' Z q (nx.nz k) rp
theorem gs_asg {i : Nat} (h : GE te ρ μ fun d μ' => N (ρ.set i (some d)) μ') : GS (tAsg te (gName i)) ρ μ N R := fun Z σ H E k s m n r =>
  h Z σ H _ k s m fun v H' d μ' q nx rp => n _ H' _ μ' Z q (nx.nz k) ((s.mono (nx.to m)).set i rp)
theorem gs_asgG {g : TG} (h : GE te ρ μ fun d μ' => ∃ ρ', GA g d ρ ρ' ∧ N ρ' μ') : GS (tAsg te g) ρ μ N R := fun Z σ H E k s m n r =>
  h Z σ H _ k s m fun v H' d μ' ⟨ρ', hg, q⟩ nx rp => hg Z σ H' v _ (nx.ok k) (s.mono (nx.to m)) rp fun σ' s' => n σ' H' ρ' μ' Z q (nx.nz k) s'
theorem gs_drop (h : GE te ρ μ fun d μ' => N ρ μ') : GS (tDrop te) ρ μ N R := fun Z σ H E k s m n r =>
  h Z σ H _ k s m fun v H' d μ' q nx rp => n _ H' _ μ' Z q (nx.nz k) (s.mono (nx.to m))
theorem gs_if {c : TT} (h : GT c ρ μ fun b μ' => if b = true then GS ts ρ μ' N R else GS us ρ μ' N R) : GS (tIfS c ts us) ρ μ N R := fun Z σ H E k s m n r =>
  h Z σ H _ k s m fun b H1 μ1 g n1 => by
    have z1 := n1.nz k
    cases b with
    | true => exact iteT (g Z σ H1 E (n1.ok k) (s.mono (n1.to m)) n1.mem (fun σ2 H2 ρ2 μ2 Z2 q z2 s2 => n σ2 H2 ρ2 μ2 Z2 q (z1.tr z2) s2) fun v H2 d μ2 Z2 q z2 r2 => r v H2 d μ2 Z2 q (z1.tr z2) r2)
    | false => exact iteF (g Z σ H1 E (n1.ok k) (s.mono (n1.to m)) n1.mem (fun σ2 H2 ρ2 μ2 Z2 q z2 s2 => n σ2 H2 ρ2 μ2 Z2 q (z1.tr z2) s2) fun v H2 d μ2 Z2 q z2 r2 => r v H2 d μ2 Z2 q (z1.tr z2) r2)
theorem gs_st {ρ' : Rho} (h : St ts ρ (.nx ρ')) (q : N ρ' μ) : GS ts ρ μ N R := fun Z σ H E k s m n r => h Z σ H E k s fun σ' H' x s' => n σ' H' ρ' μ Z q ((Nxt.exs m x).nz k) s'
theorem gs_stR (h : St ts ρ (.rt d)) (q : R d μ) : GS ts ρ μ N R := fun Z σ H E k s m n r => h Z σ H E k s fun v H' x r' => r v H' d μ Z q ((Nxt.exs m x).nz k) r'
theorem gs_lq {ρ' : Rho} (l : Lq ρ' ρ) (h : GS ts ρ' μ N R) : GS ts ρ μ N R := fun Z σ H E k s m n r => h Z σ H E k (s.lq l) m n r
theorem GS.mono {N' : Rho → Mu → Prop} {R' : D → Mu → Prop} (h : GS ts ρ μ N R) (hn : ∀ ρ μ, N ρ μ → N' ρ μ) (hr : ∀ d μ, R d μ → R' d μ) : GS ts ρ μ N' R' := fun Z σ H E k s m n r => h Z σ H E k s m (fun σ' H' ρ' μ' Z' q => n σ' H' ρ' μ' Z' (hn _ _ q)) fun v H' d μ' Z' q => r v H' d μ' Z' (hr _ _ q)
theorem Reps.setV {Z : Addr → Prop} {H : Hp} {v : V} {d : D} : ∀ {vs : List V} {ds : List D} (i : Nat), Reps Z H vs ds → Rep Z H v d → Reps Z H (vs.set i v) (ds.set i d)
  | _, _, _, .nil, _ => .nil
  | _, _, 0, .cons _ r, h => .cons h r
  | _, _, i + 1, .cons g r, h => .cons g (r.setV i h)
/-- x[i] = v of an owned list -/
theorem gs_setO {to ti : TE} (h : GE te ρ μ fun v μ1 => GE to ρ μ1 fun d μ2 => GE ti ρ μ2 fun e μ3 => ∃ (a : Addr) (k : Nat) (ds : List D) (i : Nat), d = .ptr a ∧ e = .int ((i : Nat) : Int) ∧ μ3[k]? = some (a, .lst ds) ∧ i < ds.length ∧ N ρ (μ3.set k (a, .lst (ds.set i v)))) : GS (tAsg te (gSub to ti rSetL)) ρ μ N R := fun Z σ H E k s m n r =>
  h Z σ H _ k s m fun v H1 d μ1 g n1 r1 => g Z σ H1 _ (n1.ok k) (s.mono (n1.to m)) n1.mem fun o H2 od μ2 g n2 r2 => g Z σ H2 _ (n2.ok (n1.ok k)) ((s.mono (n1.to m)).mono (n2.to n1.mem)) n2.mem fun iv H3 e μ3 g n3 r3 => by
    obtain ⟨a, kk, ds, i, rfl, rfl, hk, hi, q⟩ := g
    cases r2; cases r3
    obtain ⟨_, vs, hv, rs⟩ := n3.mem.lst hk
    have nn := (n1.tr n2).tr n3
    have r1' := (r1.mono (n2.to n1.mem)).mono (n3.to n2.mem)
    have n4 : Nxt Z H3 μ3 (upd H3 a (.lst (vs.set i v))) (μ3.set kk (a, .lst (ds.set i d))) := .put n3.mem hk (rs.setV i r1')
    refine ⟨a, vs, i, i, rfl, rfl, hv, ?_, n _ _ ρ _ Z q ((nn.tr n4).nz k) ((s.mono (nn.to m)).mono (n4.to n3.mem))⟩
    have hl : i < vs.length := by rw [rs.len]; exact hi
    unfold ixN
    rw [if_pos (by omega), if_pos (by omega)]; rfl
/-! a new cell that is owned -/
def DropA (a : Addr) (μ' μ : Mu) : Prop := (μ' = μ ∧ ¬ dom μ a) ∨ ∃ c, μ' = (a, c) :: μ
theorem Cont.own {Z : Addr → Prop} {H : Hp} {a b : Addr} {d : D} {o : HO} (c : Cont Z H b d) (ha : H a = none) : Cont (fun b => Z b ∨ b = a) (upd H a o) b d := by
  have hz : ∀ b, (Z b ∨ b = a) → Z b ∨ H b = none := fun b z => z.imp id fun (e : b = a) => by rw [e]; exact ha
  cases c with
  | lst h r => exact .lst (by rw [upd_ne (ne_of_none h ha)]; exact h) ((r.zs hz).mono (Ext.new ha))
  | ins h r => exact .ins (by rw [upd_ne (ne_of_none h ha)]; exact h) ((r.zs hz).mono (Ext.new ha))
  | dK h r => exact .dK (by rw [upd_ne (ne_of_none h ha)]; exact h) ((r.zs hz).mono (Ext.new ha))
  | dT h r => exact .dT (by rw [upd_ne (ne_of_none h ha)]; exact h) ((r.zs hz).mono (Ext.new ha))
  | dN h r => exact .dN (by rw [upd_ne (ne_of_none h ha)]; exact h) ((r.zs hz).mono (Ext.new ha))
  | tbl h t r => exact .tbl (by rw [upd_ne (ne_of_none h ha)]; exact h) t fun p v hv => let ⟨c, e1, n, e2⟩ := r p v hv; ⟨c, e1, fun z => Or.elim z n fun (e : c = _) => absurd e2 (by rw [e, ha]; intro h; cases h), by rw [upd_ne (ne_of_none e2 ha)]; exact e2⟩
theorem Mem.ownC {Z : Addr → Prop} {H : Hp} {μ : Mu} {a : Addr} {d : D} {o : HO} (m : Mem Z H μ) (ha : H a = none) (r : Cont (fun b => Z b ∨ b = a) (upd H a o) a d) : Mem (fun b => Z b ∨ b = a) (upd H a o) ((a, d) :: μ) := by
  have nd : ¬ dom μ a := fun h => by obtain ⟨o, ho, _⟩ := m.is h; rw [ha] at ho; cases ho
  refine ⟨fun p hp => ?_, by rw [List.map_cons]; exact List.nodup_cons.mpr ⟨nd, m.nd⟩⟩
  rcases List.mem_cons.mp hp with rfl | hp
  · exact ⟨.inr rfl, r⟩
  · obtain ⟨z, c⟩ := m.cs p hp
    exact ⟨.inl z, c.own ha⟩
theorem Mem.own {Z : Addr → Prop} {H : Hp} {μ : Mu} {a : Addr} {vs : List V} {ds : List D} (m : Mem Z H μ) (ha : H a = none) (r : Reps Z H vs ds) : Mem (fun b => Z b ∨ b = a) (upd H a (.lst vs)) ((a, .lst ds) :: μ) :=
  m.ownC ha (.lst upd_same ((r.zs fun b z => z.imp id fun (e : b = a) => by rw [e]; exact ha).mono (Ext.new ha)))
theorem Nz.own {Z Z' : Addr → Prop} {H1 H' : Hp} {μ1 μ' μ'' : Mu} {a : Addr} {o : HO} {c0 : D} (ha : H1 a = none) (nz : ¬ Z a) (m1 : Mem Z H1 μ1) (z : Nz (fun b => Z b ∨ b = a) (upd H1 a o) ((a, c0) :: μ1) Z' H' μ') (d : DropA a μ' μ'') : Nz Z H1 μ1 (fun b => Z' b ∧ b ≠ a) H' μ'' := by
  have nd : ¬ dom μ1 a := fun h => nz (m1.dz h)
  have hd : ∀ b, dom μ'' b → dom μ' b ∧ b ≠ a := by
    intro b h
    rcases d with ⟨rfl, n⟩ | ⟨c, rfl⟩
    · exact ⟨h, fun e => n (e ▸ h)⟩
    · refine ⟨List.mem_cons_of_mem _ h, fun e => ?_⟩
      have := z.mem.nd
      rw [List.map_cons] at this
      exact (List.nodup_cons.mp this).1 (e ▸ h)
  have hd' : ∀ b, dom μ' b → dom μ'' b ∨ b = a := by
    intro b h
    rcases d with ⟨rfl, n⟩ | ⟨c, rfl⟩
    · exact .inl h
    · rcases List.mem_cons.mp h with h | h
      · exact .inr h
      · exact .inl h
  refine ⟨fun b u hn hb => ?_, fun b h => ?_, ⟨fun p hp => ?_, ?_⟩, fun b h => z.ok b h.1, fun b h => z.ok0 b (.inl h), fun b h => ?_, fun b h => ?_⟩
  · have ne : b ≠ a := fun e => by rw [e, ha] at hb; cases hb
    exact z.ext b u (fun h => by rcases List.mem_cons.mp h with h | h; exact ne h; exact hn h) (by rw [upd_ne ne]; exact hb)
  · obtain ⟨h1, h2⟩ := hd b h
    rcases List.mem_cons.mp (z.dm b h1) with h | h
    · exact absurd h h2
    · exact h
  · have hp' : p ∈ μ' := by
      rcases d with ⟨rfl, n⟩ | ⟨c, rfl⟩
      · exact hp
      · exact List.mem_cons_of_mem _ hp
    obtain ⟨z1, c1⟩ := z.mem.cs p hp'
    exact ⟨⟨z1, (hd p.1 (List.mem_map.mpr ⟨p, hp, rfl⟩)).2⟩, c1.zs fun b h => h.1⟩
  · have := z.mem.nd
    rcases d with ⟨rfl, n⟩ | ⟨c, rfl⟩
    · exact this
    · rw [List.map_cons] at this
      exact (List.nodup_cons.mp this).2
  · exact (z.zs b h.1).resolve_right h.2
  · have ne : b ≠ a := fun e => nz (e ▸ h)
    rcases z.zk b (.inl h) with h | ⟨h1, h2⟩
    · exact .inl ⟨h, ne⟩
    · refine .inr ⟨?_, fun h => h2 (hd b h).1⟩
      rcases List.mem_cons.mp h1 with h | h
      · exact absurd h ne
      · exact h
theorem gs_own {i : Nat} {ta : TA} (h : GEA ta ρ μ fun ds μ1 => ds.length ≤ 100000 ∧ ∀ a, ¬ dom μ1 a → GS us (ρ.set i (some (.ptr a))) ((a, .lst ds) :: μ1) (fun ρ' μ' => ∃ μ'', DropA a μ' μ'' ∧ N ρ' μ'') (fun d μ' => ∃ μ'', DropA a μ' μ'' ∧ R d μ'')) : GS (tSeq (tAsg (tLst ta) (gName i)) us) ρ μ N R := fun Z σ H E k s m n r =>
  h Z σ H _ k s m fun vs H1 ds μ1 g n1 r1 => ⟨Nat.le_trans (by rw [r1.len]; exact g.1) (by decide), fun a ha => by
    have k1 := n1.ok k
    have nz : ¬ Z a := k1.no ha
    have hz : ∀ b, (Z b ∨ b = a) → Z b ∨ H1 b = none := fun b z => z.imp id fun (e : b = a) => by rw [e]; exact ha
    refine g.2 a (fun h => nz (n1.mem.dz h)) (fun b => Z b ∨ b = a) _ _ E (k1.add rfl) ((((s.mono (n1.to m)).zs hz).mono (Ext.new ha)).set i (.ptr a)) (n1.mem.own ha r1) (fun σ' H' ρ' μ' Z' q z s' => ?_) fun v H' d μ' Z' q z r' => ?_
    · obtain ⟨μ'', hd, q⟩ := q
      exact n σ' H' ρ' μ'' _ q ((n1.nz k).tr (Nz.own ha nz n1.mem z hd)) (s'.zs fun b h => .inl h.1)
    · obtain ⟨μ'', hd, q⟩ := q
      exact r v H' d μ'' _ q ((n1.nz k).tr (Nz.own ha nz n1.mem z hd)) (r'.zs fun b h => .inl h.1)⟩
/-- an owned list is data from now on -/
theorem gs_freeze {i : Nat} {a : Addr} {ds : List D} (hi : ρ[i]? = some (some (.ptr a))) (h : GS ts (ρ.set i (some (.lst ds))) μ N R) : GS ts ρ ((a, .lst ds) :: μ) N R := fun Z σ H E k s m n r => by
  have nd : ¬ dom μ a := by have := m.nd; rw [List.map_cons] at this; exact (List.nodup_cons.mp this).1
  obtain ⟨za, vs, hv, rs⟩ := m.lst (k := 0) rfl
  have hz : ∀ b, (Z b ∧ b ≠ a) → Z b ∨ H b = none := fun b h => .inl h.1
  obtain ⟨v, hs, hr⟩ := s.2 i _ hi
  cases hr
  have s' : SRep (fun b => Z b ∧ b ≠ a) H σ (ρ.set i (some (.lst ds))) := by
    have := (s.zs hz).set i (Rep.lst (a := a) (fun h => h.2 rfl) hv (rs.zs hz))
    have e : σ.set i (some (.ref a)) = σ := by
      apply List.ext_getElem?
      intro j
      rw [List.getElem?_set]
      by_cases hj : i = j
      · subst hj
        rw [if_pos rfl, hs]
        have := (List.getElem?_eq_some_iff.mp hs).1
        rw [if_pos this]
      · rw [if_neg hj]
    rwa [e] at this
  have m' : Mem (fun b => Z b ∧ b ≠ a) H μ := ⟨fun p hp => by
    obtain ⟨z1, c1⟩ := m.cs p (List.mem_cons_of_mem _ hp)
    exact ⟨⟨z1, fun e => nd (e ▸ List.mem_map.mpr ⟨p, hp, rfl⟩)⟩, c1.zs fun b h => h.1⟩, by have := m.nd; rw [List.map_cons] at this; exact (List.nodup_cons.mp this).2⟩
  have up : ∀ {Z' : Addr → Prop} {H' : Hp} {μ' : Mu}, Nz (fun b => Z b ∧ b ≠ a) H μ Z' H' μ' → Nz Z H ((a, .lst ds) :: μ) Z' H' μ' := fun z => ⟨z.ext.wk fun b h => List.mem_cons_of_mem _ h, fun b h => List.mem_cons_of_mem _ (z.dm b h), z.mem, z.ok, fun b h => by
    by_cases e : b = a
    · subst e; exact ⟨_, z.ext b _ nd hv, rfl⟩
    · exact z.ok0 b ⟨h, e⟩, fun b h => (z.zs b h).1, fun b h => by
    by_cases e : b = a
    · subst e; exact .inr ⟨List.mem_cons_self, fun h => nd (z.dm b h)⟩
    · rcases z.zk b ⟨h, e⟩ with h | ⟨h1, h2⟩
      · exact .inl h
      · exact .inr ⟨List.mem_cons_of_mem _ h1, h2⟩⟩
  exact h _ σ H E (fun b h => k b h.1) s' m' (fun σ' H' ρ' μ' Z' q z s' => n σ' H' ρ' μ' Z' q (up z) s') fun v H' d μ' Z' q z r' => r v H' d μ' Z' q (up z) r'
/-! loops and comprehensions -/
theorem gs_for {wi : TI} {g : TG} {ds : List D} (I : Nat → Rho → Mu → Prop) (hi : EvI wi ρ ds) {ρ0 : Rho} (hl : Lq ρ0 ρ) (h0 : I 0 ρ0 μ)
    (hb : ∀ i d ρi μi, ds[i]? = some d → I i ρi μi → ∃ ρ', GA g d ρi ρ' ∧ GS ts ρ' μi (fun ρ'' μ'' => ∃ ρ1, Lq ρ1 ρ'' ∧ I (i + 1) ρ1 μ'') R) (hn : ∀ ρ' μ', I ds.length ρ' μ' → N ρ' μ') : GS (tFor wi g ts) ρ μ N R := fun Z σ H E k s m n r =>
  hi Z σ H _ k s fun J H1 x1 w1 => by
    have m1 := m.ex x1
    have k1 := k.ex x1
    refine for_it (w1 Z fun a z => .inl z) (fun i σ Hc => ∃ ρi μi Zi, I i ρi μi ∧ Nz Z H1 μ Zi Hc μi ∧ SRep Zi Hc σ ρi) ⟨ρ0, μ, Z, h0, (Nxt.rf m1).nz k1, (s.mono x1.to).lq hl⟩ (fun i σ Hc _ ⟨ρi, μi, Zi, _, z, _⟩ => ⟨z.to m1, z.ok0⟩) ?_ fun σ Hc ⟨ρi, μi, Zi, hI, z, si⟩ => n σ Hc ρi μi Zi (hn _ _ hI) (((Nxt.exs m x1).nz k).tr z) si
    rintro i x σ Hc H' hi ⟨ρi, μi, Zi, hI, z, si⟩ ⟨y1, d, y2, y3⟩
    obtain ⟨ρ', g1, g2⟩ := hb i d ρi μi y2 hI
    have z' : Nz Z H1 μ Zi H' μi := z.tr ((Nxt.exs z.mem y1).nz z.ok)
    refine g1 Zi σ H' x _ z'.ok (si.mono y1.to) (y3.zs fun a h => .inl (z.zs a h)) fun σ' s' => ?_
    refine g2 Zi σ' H' _ z'.ok s' z'.mem (fun σ2 H2 ρ2 μ2 Z2 q z2 s2 => ?_) fun v H2 d μ2 Z2 q z2 r2 => r v H2 d μ2 Z2 q (((Nxt.exs m x1).nz k).tr (z'.tr z2)) r2
    obtain ⟨ρ1, l1, q⟩ := q
    exact ⟨ρ1, μ2, Z2, q, z'.tr z2, s2.lq l1⟩
theorem ge_lc {wi : TI} {g : TG} {vs : List Nat} {ds : List D} (I : Nat → List D → Mu → Prop) (hi : EvI wi ρ ds) (hz : ds.length ≤ 100000) (h0 : I 0 [] μ)
    (hb : ∀ i d acc μi, ds[i]? = some d → I i acc μi → ∃ ρ' b, GW g vs d (wipeR ρ vs) ρ' ∧ EvT tt ρ' b ∧ (b = true → GE te ρ' μi fun y μ' => I (i + 1) (acc ++ [y]) μ') ∧ (b = false → I (i + 1) acc μi))
    (hq : ∀ acc μ', I ds.length acc μ' → Φ (.lst acc) μ') : GE (tLc wi g tt te vs) ρ μ Φ := fun Z σ H Q k s m c =>
  hi Z σ H _ k s fun J H1 x1 w1 => by
    intro Dd hD
    have m1 := m.ex x1
    have k1 := k.ex x1
    have s0 := s.mono (Z := Z) x1.to
    have hz' : ∀ a, (Z a ∨ a = Dd) → Z a ∨ H1 a = none := fun a z => z.imp id fun (e : a = Dd) => by rw [e]; exact hD
    have nd : ¬ dom μ Dd := fun h => by obtain ⟨o, ho, _⟩ := m1.is h; rw [hD] at ho; cases ho
    have W := w1 (fun a => Z a ∨ a = Dd) hz'
    have s1 : SRep (fun a => Z a ∨ a = Dd) H1 σ ρ := s0.zs hz'
    have mZ : Mem (fun a => Z a ∨ a = Dd) (upd H1 Dd (.lst [])) μ := by
      have := m1.own hD (.nil)
      exact ⟨fun p hp => this.cs p (List.mem_cons_of_mem _ hp), m1.nd⟩
    have mutM : ∀ {Hc : Hp} {μi : Mu} {o : HO}, μi.map (·.1) = μ.map (·.1) → Mem (fun a => Z a ∨ a = Dd) Hc μi → Mem (fun a => Z a ∨ a = Dd) (upd Hc Dd o) μi := fun e mc => ⟨fun p hp => by
      obtain ⟨z1, c1⟩ := mc.cs p hp
      refine ⟨z1, c1.ex ((Ext.rf _).mut (.inr rfl)) fun o ho => ?_⟩
      have ne : p.1 ≠ Dd := fun z => nd (by unfold dom; rw [← e, ← z]; exact List.mem_map.mpr ⟨p, hp, rfl⟩)
      rw [upd_ne ne]; exact ho, mc.nd⟩
    refine lc_it W (fun i Hc => ∃ ads μi, I i ads μi ∧ ads.length ≤ i ∧ μi.map (·.1) = μ.map (·.1) ∧ Mem (fun a => Z a ∨ a = Dd) Hc μi ∧ okZ (fun a => Z a ∨ a = Dd) Hc ∧ Ext (fun a => dom μ a ∨ a = Dd) H1 Hc ∧ ∃ acc, Hc Dd = some (.lst acc) ∧ Reps (fun a => Z a ∨ a = Dd) Hc acc ads) ?_ ?_ ?_ ?_
    · exact ⟨[], μ, h0, Nat.le_refl _, rfl, mZ, k1.add rfl, Ext.new hD, [], upd_same, .nil⟩
    · rintro i Hc hi ⟨ads, μi, _, _, em, mc, kc, xc, _⟩
      exact ⟨xc.wk fun a h => h.imp (fun h => m1.dz h) id, kc⟩
    · rintro i x Hc H' hi ⟨ads, μi, hI, hl, em, mc, kc, xc, acc, e4, e5⟩ ⟨y1, d, y2, y3⟩
      obtain ⟨ρ', b, g1, g2, g3, g4⟩ := hb i d ads μi y2 hI
      have xz : Ext (fun a => Z a ∨ a = Dd) H1 Hc := xc.wk fun a h => h.imp (fun h => m1.dz h) id
      refine g1 _ (wipe σ vs) H' x _ (kc.ex y1) ((s1.wipe vs).mono (xz.tr y1.to)) y3 fun σ' s' w' => ⟨w'.trans (wipe_wipe σ vs), ?_⟩
      refine g2 _ σ' H' _ (kc.ex y1) s' fun H3 x3 => ?_
      have y13 := y1.tr x3
      have hdi : ∀ a, dom μi a ↔ dom μ a := fun a => by unfold dom; rw [em]
      cases b with
      | true =>
        refine iteT (g3 rfl _ σ' H3 _ (kc.ex y13) (s'.mono x3.to) (mc.ex y13) fun v H4 y μ4 q n4 r4 => ?_)
        have e4' : H4 Dd = some (.lst acc) := n4.ext Dd _ (fun h => nd ((hdi _).mp h)) (y13.exact e4)
        have x4 : Ext (fun a => Z a ∨ a = Dd) H3 H4 := n4.to (mc.ex y13)
        have xm : Ext (fun a => Z a ∨ a = Dd) H4 (upd H4 Dd (.lst (acc ++ [v]))) := (Ext.rf H4).mut (.inr rfl)
        have hi' : i < 100000 := Nat.lt_of_lt_of_le hi hz
        refine ⟨acc, e4', Nat.lt_of_le_of_lt (m := 99999) (by rw [e5.len]; omega) (by decide), ads ++ [y], μ4, q, by simp; omega, n4.dm.trans em, mutM (n4.dm.trans em) n4.mem, (n4.ok (kc.ex y13)).upd rfl, fun a o h ho => ?_, _, upd_same, ?_⟩
        · rw [upd_ne (fun e => h (.inr e))]
          exact n4.ext a o (fun z => h (.inl ((hdi a).mp z))) (y13 a o (xc a o h ho))
        · exact (((e5.mono y13.to).mono x4).app (.cons r4 .nil)).mono xm
      | false =>
        exact iteF ⟨ads, μi, g4 rfl, by omega, em, mc.ex y13, kc.ex y13, fun a o h ho => y13 a o (xc a o h ho), acc, y13.exact e4, e5.mono y13.to⟩
    · rintro Hc ⟨ads, μi, hI, hl, em, mc, kc, xc, acc, e4, e5⟩
      have xx : Ext (dom μ) H1 Hc := fun a o h ho => xc a o (fun z => z.elim h fun e => by rw [e, hD] at ho; cases ho) ho
      have me : Mem Z Hc μi := ⟨fun p hp => by
        obtain ⟨z1, c1⟩ := mc.cs p hp
        refine ⟨z1.resolve_right fun e => nd (by unfold dom; rw [← em, ← e]; exact List.mem_map.mpr ⟨p, hp, rfl⟩), c1.zs fun a z => .inl z⟩, mc.nd⟩
      exact c _ Hc _ μi (hq _ _ hI) ((Nxt.exs m x1).tr ⟨xx, em, me⟩) (.lst (k1.no hD) e4 (e5.zs fun a z => .inl (.inl z)))
/-! defs -/
theorem eff_ok {P : Program} {w : World} {K : PySem.W.Frag} {mg : Str → Option Value} {base : Heap} {x qual : Str} {stm : Stmt} {fa : Addr} {fd : FuncData} {N0 ps : List Str} {k : Nat} {R : List D → Mu → (D → Mu → Prop) → Prop} (F : Fun K x qual stm fa fd) (S : FnScope N0 ps (defScope stm)) (len : ∀ ds μ Φ, R ds μ Φ → ds.length = ps.length)
    (hb : ∀ (cdv : Value) (A : Around) (outer : List Env) (s : Shared) (H : Hp) (E : XK), Room k (A.deeper (PyProof.Rows.envOfC qual (defScope stm) s.heap.objs.size fa cdv)) →
      ∃ t, PSs (cxOf CX0 P w K mg base N0 qual (defScope stm) fa cdv A outer s H E).nox (defBody stm) t ∧ ∀ ds μ Φ, R ds μ Φ → GS t (rho0 N0 ds) μ (fun _ μ' => μ'.map (·.1) = μ.map (·.1) ∧ Φ .non μ') (fun d μ' => μ'.map (·.1) = μ.map (·.1) ∧ Φ d μ')) : FnOk P w K mg base CX0 (k + 1) fa fd ps (spM R) := by
  have fin : ∀ {Z Z' : Addr → Prop} {H H' : Hp} {μ μ' : Mu}, Mem Z H μ → μ'.map (·.1) = μ.map (·.1) → Nz Z H μ Z' H' μ' → Nxt Z H μ H' μ' ∧ ∀ a, Z a → Z' a := fun m e z => by
    have zz : ∀ a, _ → _ := fun a h => (z.zk a h).resolve_right fun h => h.2 (by have := h.1; unfold dom at this ⊢; rw [e]; exact this)
    exact ⟨⟨z.ext, e, ⟨fun p hp => by
      obtain ⟨z1, c1⟩ := z.mem.cs p hp
      exact ⟨z.zs _ z1, c1.zs zz⟩, z.mem.nd⟩⟩, zz⟩
  refine F.ok S (fun vs H Q E h => ?_) (fun cdv A outer s H vs Q E hr h => ?_)
  · obtain ⟨Z, ds, μ, Φ, _, r, _, hR, _⟩ := h
    exact r.len.trans (len ds μ Φ hR)
  · obtain ⟨Z, ds, μ, Φ, ok, r, m, hR, q⟩ := h
    obtain ⟨t, ht, hs⟩ := hb cdv A outer s H E hr
    refine ⟨t, ht, ?_⟩
    have s0 : SRep Z H (L2.start N0 vs) (rho0 N0 ds) := by
      unfold L2.start rho0
      rw [r.len]
      exact SRep.start r _
    refine hs ds μ Φ hR Z _ H _ ok s0 m (fun σ' H' ρ' μ' Z' ⟨e, p⟩ z s' => ?_) fun v H' d μ' Z' ⟨e, p⟩ z r' => ?_
    · exact q _ H' _ μ' p (fin m e z).1 .non
    · exact q _ H' _ μ' p (fin m e z).1 (r'.zs fun a h => .inl ((fin m e z).2 a h))
theorem st_gs {d : D} (h : GS ts ρ [] (fun _ _ => False) (fun d' μ' => d' = d)) : St ts ρ (.rt d) := fun Z σ H E k s q =>
  h Z σ H E k s .nil (fun _ _ _ _ _ f => f.elim) fun v H' d' μ' Z' e z r => by
    subst e
    exact q v H' (fun a o ho => z.ext a o (by simp [dom]) ho) (r.zs fun a h => .inl ((z.zk a h).resolve_right fun h => by simp [dom] at h))
end
section
variable {ρ : Rho} {μ : Mu} {ta tb : TE} {Φ : D → Mu → Prop} {N : Rho → Mu → Prop} {R : D → Mu → Prop} {ts us : TS}
theorem gs_mid (M : Rho → Mu → Prop) (h : GS ts ρ μ M R) (g : ∀ ρ' μ', M ρ' μ' → GS us ρ' μ' N R) : GS (tSeq ts us) ρ μ N R := gs_seq (h.mono g fun _ _ h => h)
def flatD : D → Bool
  | .non => true
  | .bl _ => true
  | .int _ => true
  | .str _ => true
  | _ => false
theorem Rep.flat {Z Z' : Addr → Prop} {H : Hp} {v : V} {d : D} (r : Rep Z H v d) (h : flatD d = true) : Rep Z' H v d := by
  cases r with
  | non => exact .non
  | bl b => exact .bl b
  | int i => exact .int i
  | str s => exact .str s
  | _ => cases h
/-- an operator at an owned list as data -/
theorem ge_opO {r : R2} (h : GE ta ρ μ fun d μ1 => GE tb ρ μ1 fun e μ2 => ∃ (a : Addr) (k : Nat) (ds : List D) (z : D), d = .ptr a ∧ μ2[k]? = some (a, .lst ds) ∧ R2D r (.lst ds) e z ∧ flatD z = true ∧ Φ z μ2) : GE (tOp r ta tb) ρ μ Φ := fun Z σ H Q k s m c =>
  h Z σ H _ k s m fun x H1 d μ1 g n1 r1 => g Z σ H1 _ (n1.ok k) (s.mono (n1.to m)) n1.mem fun y H2 e μ2 q n2 r2 => by
    obtain ⟨a, kk, ds, z, rfl, hk, hr, hf, q⟩ := q
    cases r1
    obtain ⟨za, vs, hv, rs⟩ := n2.mem.lst hk
    have hz : ∀ b, (Z b ∧ b ≠ a) → Z b ∨ H2 b = none := fun b h => .inl h.1
    exact hr (fun b => Z b ∧ b ≠ a) H2 _ y Q (fun b h => n2.ok (n1.ok k) b h.1) (.lst (fun h => h.2 rfl) hv (rs.zs hz)) (r2.zs hz) fun v H3 x3 r3 => c v H3 z μ2 q ((n1.tr n2).tr (.exs n2.mem x3)) (r3.flat hf)
/-! instances -/
def putD (f : Str) (d : D) : List (Str × D) → List (Str × D)
  | [] => [(f, d)]
  | (g, x) :: r => if g = f then (g, d) :: r else (g, x) :: putD f d r
theorem RepF.put {Z : Addr → Prop} {H : Hp} {f : Str} {v : V} {d : D} (h : Rep Z H v d) : ∀ {fs : List (Str × V)} {ds : List (Str × D)}, RepF Z H fs ds → RepF Z H (putF f v fs) (putD f d ds)
  | _, _, .nil => .cons h .nil
  | (g, x) :: r, (_, y) :: q, .cons hx hr => by
    unfold putF putD
    by_cases e : g = f
    · rw [if_pos e, if_pos e]; exact .cons h hr
    · rw [if_neg e, if_neg e]; exact .cons hx (hr.put h)
theorem RepF.len {Z : Addr → Prop} {H : Hp} : ∀ {fs : List (Str × V)} {ds : List (Str × D)}, RepF Z H fs ds → fs.length = ds.length
  | _, _, .nil => rfl
  | _, _, .cons _ r => by simp [r.len]
theorem gs_fld {K : PySem.W.Frag} {f : Str} {te : TE} (h : GE te ρ μ fun d μ1 => GE ta ρ μ1 fun o μ2 => ∃ (a : Addr) (k : Nat) (C : Addr) (fs : List (Str × D)), o = .ptr a ∧ μ2[k]? = some (a, .ins C fs) ∧ Cls K C ∧ NoAttr K C f ∧ fs.length < 1000 ∧ N ρ (μ2.set k (a, .ins C (putD f d fs)))) : GS (sFld K ta te f) ρ μ N R := fun Z σ H E k s m n r =>
  h Z σ H _ k s m fun y H1 d μ1 g n1 r1 => g Z σ H1 _ (n1.ok k) (s.mono (n1.to m)) n1.mem fun x H2 o μ2 g n2 r2 => by
    obtain ⟨a, kk, C, fs, rfl, hk, hc, hn, hl, q⟩ := g
    cases r2
    obtain ⟨za, dx, vs, hv, rs⟩ := n2.mem.ins hk
    have xm : Ext Z H2 (upd H2 a (.ins C dx (putF f y vs))) := (Ext.rf H2).mut za
    have n3 : Nxt Z H2 μ2 (upd H2 a (.ins C dx (putF f y vs))) (μ2.set kk (a, .ins C (putD f d fs))) := .putC n2.mem hk (.ins upd_same ((rs.put (r1.mono (n2.to n1.mem))).mono xm))
    have nn := (n1.tr n2).tr n3
    exact ⟨a, C, dx, vs, rfl, hv, hc, hn, by rw [rs.len]; exact hl, n _ _ ρ _ Z q (nn.nz k) (s.mono (nn.to m))⟩
theorem ev_make {C : Addr} {Rm : List D → Mu → (D → Mu → Prop) → Prop} {E : XK} {ta : TA} {ds : List D} {fs : List (Str × D)} (ha : EvA ta ρ ds) (hr : ∀ p, Rm (.ptr p :: ds) [(p, .ins C [])] fun d μ' => d = .non ∧ μ' = [(p, .ins C fs)]) : Ev (tMake C (spM Rm) [] E ta) ρ (.ins C fs) := fun Z σ H Q k s q =>
  ha Z σ H _ k s fun vs H1 x1 r1 x dx hx hdx ne => by
    have k1 := k.ex x1
    have hdx' : (upd H1 dx (.own x)) x = none := by rw [upd_ne ne.symm]; exact hx
    have k2 : okZ Z (upd H1 dx (.own x)) := k1.new hdx
    have e1 : Ex H1 (upd H1 dx (.own x)) := Ex.new hdx
    have e2 : Ex (upd H1 dx (.own x)) (upd (upd H1 dx (.own x)) x (.ins C dx [])) := Ex.new hdx'
    have hz : ∀ b, (Z b ∨ b = x) → Z b ∨ H1 b = none := fun b z => z.imp id fun (e : b = x) => by rw [e]; exact hx
    have m2 : Mem (fun b => Z b ∨ b = x) (upd (upd H1 dx (.own x)) x (.ins C dx [])) [(x, .ins C [])] := Mem.nil.ownC hdx' (.ins upd_same .nil)
    refine ⟨fun b => Z b ∨ b = x, .ptr x :: ds, [(x, .ins C [])], _, k2.add rfl, .cons (.ptr x) ?_, m2, hr x, fun v H' d μ' ⟨e, em⟩ n r => ?_⟩
    · rw [List.append_nil]
      exact (r1.zs hz).mono (e1.tr e2).to
    · subst e; subst em
      cases r
      refine ⟨rfl, ?_⟩
      obtain ⟨_, dx', vs', hv, rs⟩ := n.mem.ins (k := 0) rfl
      refine q _ H' (fun a o ho => ?_) (.ins (k1.no hx) hv (rs.zs fun b z => .inl (.inl z)))
      refine n.ext a o (fun h => ?_) ((e1.tr e2) a o (x1 a o ho))
      have : a = x := by simpa [dom] using h
      rw [this] at ho
      have := x1 x o ho
      rw [hx] at this; cases this
theorem ev_sm {C : Addr} {Rp : List D → D → Prop} {E : XK} {te : TE} {ta : TA} {ds : List D} {z : D} (hs : Ev te ρ (.ptr C)) (ha : EvA ta ρ ds) (hr : Rp ds z) : Ev (tSMeth C (spP Rp) E te ta) ρ z := fun Z σ H Q k s q =>
  hs Z σ H _ k s fun x H0 x0 r0 => by
    cases r0
    exact ⟨rfl, ha Z σ H0 _ (k.ex x0) (s.mono x0.to) fun vs H1 x1 r1 => ⟨Z, ds, z, (k.ex x0).ex x1, r1, hr, fun v H2 x2 r2 => q v H2 ((x0.tr x1).tr x2) r2⟩⟩
end
end Du
namespace Du
open PySem L2
/-! isinstance -/
def tyD : D → Option String
  | .non => some "NoneType"
  | .bl _ => some "bool"
  | .int _ => some "int"
  | .str _ => some "str"
  | .lst _ => some "list"
  | .tup _ => some "tuple"
  | .dT _ => none
  | .dK _ => some "dict"
  | .dN _ _ => none
  | .ins _ _ => none
  | .ptr _ => none
  | .ty _ => none
theorem tyD_of {K : PySem.W.Frag} {Z : Addr → Prop} {H : Hp} {v : V} {d : D} {t : String} (r : Rep Z H v d) (h : tyD d = some t) : TyX K H v (.type t) := by
  cases r <;> simp only [tyD, Option.some.injEq, reduceCtorEq] at h <;> subst h
  · exact .base .non
  · exact .base (.bl _)
  · exact .base (.int _)
  · exact .base (.str _)
  · rename_i h _; exact .base (.lst h)
  · rename_i h _; exact .base (.tup h)
  · rename_i h _; rcases h with h | ⟨o, h⟩
    · exact .base (.dK h)
    · exact .fDict h
theorem rl_isi {K : PySem.W.Frag} {d : D} {t T : String} {b : Bool} (h : tyD d = some t) (e : PySem.W.kitOne K (.type t) (.type T) = some b) : RLD (rIsi K) [d, .ty T] (.bl b) := fun Z H xs Q k r q => by
  cases r with
  | cons r rs => cases rs with
    | cons r' rs =>
      cases r'; cases rs
      exact ⟨_, _, _, _, b, rfl, .ty T, tyD_of r h, e, q _ H (Ex.rf H) (.bl b)⟩
theorem rl_isiT {K : PySem.W.Frag} {d : D} {t : String} {b : Bool} {Ts : List String} (h : tyD d = some t) (e : PySem.W.kitAny K (.type t) (Ts.map Value.type) = some b) : RLD (rIsiT K) [d, .tup (Ts.map D.ty)] (.bl b) := fun Z H xs Q k r q => by
  cases r with
  | cons r rs => cases rs with
    | cons r' rs =>
      cases rs
      cases r' with
      | tup n hv rs =>
        refine ⟨_, _, _, _, Ts.map Value.type, b, rfl, hv, ?_, tyD_of r h, e, q _ H (Ex.rf H) (.bl b)⟩
        clear hv e
        rename_i vs
        induction Ts generalizing vs with
        | nil => cases rs; exact .nil
        | cons T Ts ih =>
          cases rs with
          | cons r rs => cases r; exact .cons (.ty T) (ih rs)
theorem isi_same {K : PySem.W.Frag} (t : String) : PySem.W.kitOne K (.type t) (.type t) = some true := by
  unfold PySem.W.kitOne; rw [if_pos (by simp)]
theorem isi_boolint {K : PySem.W.Frag} : PySem.W.kitOne K (.type "bool") (.type "int") = some true := by rfl
theorem isi_intbool {K : PySem.W.Frag} : PySem.W.kitOne K (.type "int") (.type "bool") = some false := by rfl
theorem isi_listtup {K : PySem.W.Frag} : PySem.W.kitOne K (.type "list") (.type "tuple") = some false := by rfl
end Du
namespace Du
open PySem L2
/-! a class's own operators and static methods, as it stands among the names -/
section
variable (P : Program) (w : World) (K : PySem.W.Frag) (mg : Str → Option Value) (base : Heap) (k : Nat) (C : Addr)
structure OBin (op : Operator) (sp : Sp) : Prop where
  ex : ∃ g, PySem.W.selfFirst K C = true ∧ PySem.W.findIn K (.ref C) (PySem.dunder op.info.2) = some (some (.ref g)) ∧ PySem.W.isFn K (.ref g) = true ∧ FnR P w K mg base CX0 k g sp
structure OIp (op : Operator) (sp : Sp) : Prop where
  ex : ∃ g, noneUp K C (dunderI op.info.2) = true ∧ PySem.W.selfFirst K C = true ∧ PySem.W.findIn K (.ref C) (PySem.dunder op.info.2) = some (some (.ref g)) ∧ PySem.W.isFn K (.ref g) = true ∧ FnR P w K mg base CX0 k g sp
structure OInv (sp : Sp) : Prop where
  ex : ∃ g, PySem.W.findIn K (.ref C) "__invert__" = some (some (.ref g)) ∧ PySem.W.isFn K (.ref g) = true ∧ FnR P w K mg base CX0 k g sp
structure OCmp (op : CmpOp) (sp : Sp) : Prop where
  ex : ∃ g, PySem.W.notFirst K C (.ref C) = true ∧ PySem.W.findIn K (.ref C) (cmpInfo op).2.1 = some (some (.ref g)) ∧ PySem.W.isFn K (.ref g) = true ∧ FnR P w K mg base CX0 k g sp
structure ONe (sp : Sp) : Prop where
  ex : ∃ g, PySem.W.notFirst K C (.ref C) = true ∧ PySem.W.findIn K (.ref C) "__ne__" = some (some (.builtin "object.__ne__")) ∧ PySem.W.findIn K (.ref C) "__eq__" = some (some (.ref g)) ∧ PySem.W.isFn K (.ref g) = true ∧ PySem.W.subIn K (.ref C) (.type "object") = some true ∧ FnR P w K mg base CX0 k g sp
structure OSm (m : Str) (sp : Sp) : Prop where
  ex : ∃ mc p g, ClX.CRead K C mc ∧ SMet K C mc m p g ∧ FnR P w K mg base CX0 k g sp
end
section
variable {X : Cx} {k j : Nat} {C : Addr} {sp : Sp} {o e : Expr} {es : List Expr} {m : Str} {pos apos : Pos} {ta : TE} {t : TA} {pl : Sem Bool}
theorem k_bin {op : Operator} (c : OBin X.prog X.w X.K X.mg X.base k C op sp) (hr : Room j X.A) (hk : k ≤ j) : OpR X (binaryOp op) (rBin C sp E0) := by
  obtain ⟨g, h1, h2, h3, F⟩ := c.ex
  exact op_bin h1 h2 h3 F (hr.mono hk) pass0
theorem k_ip {op : Operator} (c : OIp X.prog X.w X.K X.mg X.base k C op sp) (hr : Room j X.A) (hk : k ≤ j) : PIp X op (rBin C sp E0) := by
  obtain ⟨g, h0, h1, h2, h3, F⟩ := c.ex
  exact ip_own h0 h1 h2 h3 F (hr.mono hk) pass0
theorem k_inv (c : OInv X.prog X.w X.K X.mg X.base k C sp) (hr : Room j X.A) (hk : k ≤ j) : UnR X (unaryOp .Invert) (rInv C sp E0) := by
  obtain ⟨g, h2, h3, F⟩ := c.ex
  exact un_own h2 h3 F (hr.mono hk) pass0
theorem k_cmp {op : CmpOp} (c : OCmp X.prog X.w X.K X.mg X.base k C op sp) (hop : ∀ a b, compareOp op a b = richCompare op a b) (hr : Room j X.A) (hk : k ≤ j) : OpR X (compareOp op) (rBin C sp E0) := by
  obtain ⟨g, h1, h2, h3, F⟩ := c.ex
  exact op_cmp hop h1 h2 h3 F (hr.mono hk) pass0
def spNot (sp : Sp) : Sp := fun vs H Q E => sp vs H (fun v H' => ∃ b, v = .bl b ∧ Q (.bl (!b)) H') E
theorem k_neOwn (c : ONe X.prog X.w X.K X.mg X.base k C sp) (hr : Room j X.A) (hk : k + 1 ≤ j) : OpR X (compareOp .NotEq) (rBin C (spNot sp) E0) := by
  obtain ⟨g, h1, h2, h3, h4, h5, F⟩ := c.ex
  exact op_neOwn h1 h2 h3 h4 h5 F (hr.mono hk) pass0
theorem k_sm (c : OSm X.prog X.w X.K X.mg X.base k C m sp) (hr : Room j X.A) (hk : k ≤ j) (he : PE X o ta) (ha : PA X (e :: es) t)
    (hst : starEach (e :: es) X.env = (false, eval e X.env) :: starEach es X.env := by rfl) (hpl : (backTo pos (starEach es X.env)).any (·.1) = false := by rfl)
    (ht : eval (.Call (.Attribute o m apos) (e :: es) [] pos) X.env = (do
      let ov ← eval o X.env
      standAt apos.atName
      let (f, first) ← holding [ov] (getMethod ov m pl)
      callWith pos f first (backTo pos (starEach (e :: es) X.env)) (backToKw pos (keywordEach [] X.env))) := by rfl) :
    PE X (.Call (.Attribute o m apos) (e :: es) [] pos) (tSMeth C sp E0 ta t) := by
  obtain ⟨mc, p, g, r, s, F⟩ := c.ex
  exact pe_smeth (pl := pl) he r s F (hr.mono hk) pass0 ha hst hpl ht
theorem k_sm0 (c : OSm X.prog X.w X.K X.mg X.base k C m sp) (hr : Room j X.A) (hk : k ≤ j) (he : PE X o ta)
    (ht : eval (.Call (.Attribute o m apos) [] [] pos) X.env = (do
      let ov ← eval o X.env
      standAt apos.atName
      let (f, first) ← holding [ov] (getMethod ov m pl)
      callWith pos f first (backTo pos (starEach [] X.env)) (backToKw pos (keywordEach [] X.env))) := by rfl) :
    PE X (.Call (.Attribute o m apos) [] [] pos) (tSMeth C sp E0 ta tNil) := by
  obtain ⟨mc, p, g, r, s, F⟩ := c.ex
  exact pe_smeth0 (pl := pl) he r s F (hr.mono hk) pass0 ht
theorem k_globS {x s : Str} (hg : Gl X x) (h : ∃ t, X.mg x = some (.str s t)) (hd : (x == ("__debug__" : Str)) = false := by decide) : PE X (.Name x pos) (tC (.str s)) := by
  obtain ⟨t, h⟩ := h
  exact pe_glob hg h ⟨t, rfl⟩ hd
theorem k_globI {x : Str} {i : Int} (hg : Gl X x) (h : ∃ t, X.mg x = some (.int i t)) (hd : (x == ("__debug__" : Str)) = false := by decide) : PE X (.Name x pos) (tC (.int i)) := by
  obtain ⟨t, h⟩ := h
  exact pe_glob hg h ⟨t, rfl⟩ hd
end
/-! in data -/
section
variable {C : Addr} {R : List D → D → Prop} {E : XK} {fs gs : List (Str × D)} {z : D} {b : Bool} {ρ : Rho}
theorem rd_bin (hR : R [.ins C fs, .ins C gs] z) : R2D (rBin C (spP R) E) (.ins C fs) (.ins C gs) z := fun Z H x y Q k r1 r2 q => by
  have r1' := r1
  have r2' := r2
  cases r1 with
  | ins n1 h1 f1 => cases r2 with
    | ins n2 h2 f2 => exact ⟨_, _, _, _, _, _, rfl, rfl, h1, h2, Z, _, z, k, .cons r1' (.cons r2' .nil), hR, q⟩
theorem r1_inv (hR : R [.ins C fs] z) : R1D (rInv C (spP R) E) (.ins C fs) z := fun Z H x Q k r1 q => by
  have r1' := r1
  cases r1 with
  | ins n1 h1 f1 => exact ⟨_, _, _, rfl, h1, Z, _, z, k, .cons r1' .nil, hR, q⟩
theorem rd_neOwn (hR : R [.ins C fs, .ins C gs] (.bl b)) : R2D (rBin C (spNot (spP R)) E) (.ins C fs) (.ins C gs) (.bl (!b)) := fun Z H x y Q k r1 r2 q => by
  have r1' := r1
  have r2' := r2
  cases r1 with
  | ins n1 h1 f1 => cases r2 with
    | ins n2 h2 f2 => exact ⟨_, _, _, _, _, _, rfl, rfl, h1, h2, Z, _, _, k, .cons r1' (.cons r2' .nil), hR, fun v H' x' r' => by cases r'; exact ⟨b, rfl, q _ H' x' (.bl _)⟩⟩
theorem st_aug {i : Nat} {te : TE} {r : R2} {d e : D} (hi : ρ[i]? = some (some d)) (h : Ev te ρ e) (hr : R2D r d e z) : St (tAug i te r) ρ (.nx (ρ.set i (some z))) := fun Z σ H E k s q => by
  obtain ⟨v, h1, h2⟩ := s.2 i d hi
  exact ⟨v, h1, h Z σ H _ k s fun y H1 x1 r1 => hr Z H1 v y _ (k.ex x1) (h2.mono x1.to) r1 fun u H2 x2 r2 => q _ H2 (x1.tr x2) (((s.mono (x1.tr x2).to)).set i r2)⟩
theorem ei_str {te : TE} {z : Str} (h : Ev te ρ (.str z)) : EvI (iStr te) ρ (z.cps.toList.map fun c => D.str ⟨#[c]⟩) := fun Z σ H R k s q =>
  h Z σ H _ k s fun x H1 x1 r1 => by
    cases r1
    refine ⟨z, rfl, q _ H1 x1 fun Z' hz => ?_⟩
    rw [List.length_map, Array.length_toList]
    refine walk_str.mono (fun _ _ => trivial) fun i Hc x H' hi g y => ?_
    obtain ⟨rfl, c, hc, rfl⟩ := y
    refine ⟨Ex.rf _, _, ?_, .str _⟩
    rw [List.getElem?_map, Array.getElem?_toList, hc]; rfl
theorem rd_inSign {c : Nat} {z : Str} : R2D (fun x y H Q => ∃ (c : Nat) (z : Str), x = .str ⟨#[c]⟩ ∧ y = .str z ∧ Q (.bl (decide (c ∈ z.cps.toList))) H) (.str ⟨#[c]⟩) (.str z) (.bl (decide (c ∈ z.cps.toList))) := fun Z H x y Q k r1 r2 q => by
  cases r1; cases r2
  exact ⟨c, z, rfl, rfl, q _ H (Ex.rf H) (.bl _)⟩
theorem rl_isiI {K : PySem.W.Frag} (cl : Cls K C) (h1 : PySem.W.findIn K (.ref C) "__class__" = some (some (.builtin "object.__class__"))) (h2 : PySem.W.specialIn K (.builtin "object.__class__") "__get__" = some (some (.builtin "getset_descriptor.__get__"))) (h3 : PySem.W.takesIn K (.builtin "object.__class__") = some true) (h4 : PySem.W.mroIn K C (.type "object") = some true) : RLD (rIsi K) [.ins C fs, .ptr C] (.bl true) := fun Z H xs Q k r q => by
  cases r with
  | cons r rs => cases rs with
    | cons r' rs =>
      cases r'; cases rs
      cases r with
      | ins n h f => exact ⟨_, _, _, _, true, rfl, .own C, .base (.ins h cl h1 h2 h3 h4), by unfold PySem.W.kitOne; rw [if_pos (by simp)], q _ H (Ex.rf H) (.bl true)⟩
theorem ev_sm0 {te : TE} (hs : Ev te ρ (.ptr C)) (hr : R [] z) : Ev (tSMeth C (spP R) E te tNil) ρ z := ev_sm hs ev_nil hr
end
end Du
namespace Du
open PySem L2
section
variable {ρ : Rho} {μ : Mu} {ta tb te : TE} {Φ : D → Mu → Prop} {N : Rho → Mu → Prop} {R : D → Mu → Prop} {ts us : TS}
/-! while -/
theorem gs_while {c : TT} (I : Nat → Rho → Mu → Prop) {m0 : Nat} {ρ0 : Rho} (hl : Lq ρ0 ρ) (h0 : I m0 ρ0 μ)
    (hb : ∀ m ρi μi, I m ρi μi → GT c ρi μi fun b μ' => if b = true then GS ts ρi μ' (fun ρ'' μ'' => ∃ ρ1 m', m' < m ∧ Lq ρ1 ρ'' ∧ I m' ρ1 μ'') R else N ρi μ') : GS (tWhile c ts) ρ μ N R := fun Z σ H E k s m n r => by
  refine ⟨fun mm σ' Hc => ∃ ρi μi Zi, I mm ρi μi ∧ Nz Z H μ Zi Hc μi ∧ SRep Zi Hc σ' ρi, ⟨m0, ρ0, μ, Z, h0, (Nxt.rf m).nz k, s.lq hl⟩, ?_⟩
  rintro mm σ' Hc ⟨ρi, μi, Zi, hI, z, si⟩
  refine hb mm ρi μi hI Zi σ' Hc _ z.ok si z.mem fun b H1 μ1 g n1 => ?_
  have z1 := z.tr (n1.nz z.ok)
  cases b with
  | true =>
    refine iteT ⟨fun σ2 H2 => ∃ m', m' < mm ∧ ∃ ρi μi Zi, I m' ρi μi ∧ Nz Z H μ Zi H2 μi ∧ SRep Zi H2 σ2 ρi, fun σ2 H2 h => h, ?_⟩
    refine g Zi σ' H1 _ (n1.ok z.ok) (si.mono (n1.to z.mem)) n1.mem (fun σ2 H2 ρ2 μ2 Z2 q z2 s2 => ?_) fun v H2 d μ2 Z2 q z2 r2 => r v H2 d μ2 Z2 q (z1.tr z2) r2
    obtain ⟨ρ1, m', hm, l1, q⟩ := q
    exact ⟨m', hm, ρ1, μ2, Z2, q, z1.tr z2, s2.lq l1⟩
  | false => exact iteF (n σ' H1 ρi μ1 Zi g z1 (si.mono (n1.to z.mem)))
/-! two new lists at once -/
theorem gs_own2 {i j : Nat} {K : PySem.W.Frag} (hij : i ≠ j) {xs : List D} (h : Ev te ρ (.lst xs)) (hs : ∀ a b, a ≠ b → ¬ dom μ a → ¬ dom μ b → GS us ((ρ.set i (some (.ptr a))).set j (some (.ptr b))) ((b, .lst []) :: (a, .lst xs) :: μ) (fun ρ' μ' => ∃ μ1 μ2, DropA b μ' μ1 ∧ DropA a μ1 μ2 ∧ N ρ' μ2) (fun d μ' => ∃ μ1 μ2, DropA b μ' μ1 ∧ DropA a μ1 μ2 ∧ R d μ2)) :
    GS (tSeq (tPar i j (tCons (tCB (fun xs H Q => ∃ p ys, xs = [.ref p] ∧ (SqL K H p ys ∨ SqT K H p ys) ∧ ∀ l, H l = none → Q (.ref l) (upd H l (.lst ys))) (tCons te tNil)) (tCons (tLst tNil) tNil))) us) ρ μ N R := fun Z σ H E k s m n r =>
  h Z σ H _ k s fun v H1 x1 r1 => by
    cases r1 with
    | lst n1 hv rs =>
      rename_i p vs
      refine ⟨p, vs, rfl, .inl (.inl (.inl hv)), fun a ha => ⟨by decide, fun b hb => ⟨_, _, rfl, ?_⟩⟩⟩
      have k1 := k.ex x1
      have m1 := m.ex x1
      have nza : ¬ Z a := k1.no ha
      have ne : b ≠ a := fun e => by rw [e, upd_same] at hb; cases hb
      have hb1 : H1 b = none := by rw [upd_ne ne] at hb; exact hb
      have hza : ∀ c, (Z c ∨ c = a) → Z c ∨ H1 c = none := fun c z => z.imp id fun (e : c = a) => by rw [e]; exact ha
      have ka : okZ (fun c => Z c ∨ c = a) (upd H1 a (.lst vs)) := k1.add rfl
      have nzb : ¬ (Z b ∨ b = a) := ka.no hb
      have ma := m1.own ha rs
      have mb := ma.own (ds := []) hb .nil
      have hzb : ∀ c, ((Z c ∨ c = a) ∨ c = b) → (Z c ∨ c = a) ∨ (upd H1 a (.lst vs)) c = none := fun c z => z.imp id fun (e : c = b) => by rw [e]; exact hb
      have sb := (((((s.mono (x1.to (Z := Z))).zs hza).mono (Ext.new (o := .lst vs) ha)).zs hzb).mono (Ext.new (o := .lst []) hb)).set i (.ptr a) |>.set j (.ptr b)
      refine hs a b ne.symm (fun h => nza (m1.dz h)) (fun h => nzb (.inl (m1.dz h))) _ _ _ E (ka.add rfl) sb mb (fun σ' H' ρ' μ' Z' q z s' => ?_) fun v H' d μ' Z' q z r' => ?_
      · obtain ⟨μ1, μ2, d1, d2, q⟩ := q
        have z1 := Nz.own hb nzb ma z d1
        have z2 := Nz.own ha nza m1 z1 d2
        exact n σ' H' ρ' μ2 _ q (((Nxt.exs m x1).nz k).tr z2) (s'.zs fun c h => .inl h.1.1)
      · obtain ⟨μ1, μ2, d1, d2, q⟩ := q
        have z1 := Nz.own hb nzb ma z d1
        have z2 := Nz.own ha nza m1 z1 d2
        exact r v H' d μ2 _ q (((Nxt.exs m x1).nz k).tr z2) (r'.zs fun c h => .inl h.1.1)
/-! a statement while a dict is locked -/
theorem neZ {Z : Addr → Prop} {a d : Addr} (n : ¬ Z d) (h : Z a) : a ≠ d := fun e => n (e ▸ h)
def tLkS (t : TS) : TS := fun E σ H => tLock t E σ H ∨ t E σ H
theorem ps_lk {X : Cx} {st : Stmt} {t : TS} (h : PS X st t) : PS X st (tLkS t) := ⟨fun pins s σ H E I q => q.elim (fun q => (ps_lock h).run pins s σ H E I q) fun q => h.run pins s σ H E I q⟩
theorem Cont.monoW {Z : Addr → Prop} {H H' : Hp} {a : Addr} {d : D} (c : Cont Z H a d) (x : ExtW Z H H') (e : ∀ o, H a = some o → H' a = some o) : Cont Z H' a d := by
  cases c with
  | lst h r => exact .lst (e _ h) (r.monoW x)
  | ins h r => exact .ins (e _ h) (r.monoW x)
  | dK h r => exact .dK (e _ h) (r.monoW x)
  | dT h r => exact .dT (e _ h) (r.monoW x)
  | dN h r => exact .dN (e _ h) (r.monoW x)
  | tbl h t r => exact .tbl (e _ h) t fun p v hv => let ⟨c, e1, n, e2⟩ := r p v hv; ⟨c, e1, n, by
      obtain ⟨o', h1, h2⟩ := x c _ n e2
      rw [h1]
      unfold LamX.CodeO at h2 ⊢
      cases o' with
      | frz o u => cases u <;> cases h2
      | ext f => exact congrArg some h2
      | _ => cases h2⟩
theorem Mem.monoW {Z : Addr → Prop} {H H' : Hp} {μ : Mu} (m : Mem Z H μ) (x : ExtW Z H H') (e : ∀ a o, Z a → H a = some o → H' a = some o) : Mem Z H' μ := ⟨fun p hp => ⟨(m.cs p hp).1, (m.cs p hp).2.monoW x (e _ · (m.cs p hp).1)⟩, m.nd⟩
theorem Nz.unlock {Z Z' : Addr → Prop} {H H' : Hp} {μ μ' : Mu} {d : Addr} {u : HO} {od : Obj} (hd : dictO u = true) (nd : ¬ Z d) (hm : Mem Z H μ) (h : H d = some u) (z : Nz Z (upd H d (.frz od u)) μ Z' H' μ') : H' d = some (.frz od u) ∧ Nz Z H μ Z' (upd H' d u) μ' := by
  have ndm : ¬ dom μ d := fun q => nd (hm.dz q)
  have e : H' d = some (.frz od u) := z.ext d _ ndm upd_same
  have nd' : ¬ Z' d := fun q => nd (z.zs d q)
  have xw : ExtW Z' H' (upd H' d u) := unlockW hd e
  refine ⟨e, fun a o hn ho => ?_, z.dm, z.mem.monoW xw (fun a o ha ho => by rw [upd_ne (neZ nd' ha)]; exact ho), fun a ha => ?_, fun a ha => ?_, z.zs, z.zk⟩
  · by_cases q : a = d
    · subst q; rw [h] at ho; cases ho; exact upd_same
    · rw [upd_ne q]
      exact z.ext a o hn (by rw [upd_ne q]; exact ho)
  · rw [upd_ne (neZ nd' ha)]; exact z.ok a ha
  · rw [upd_ne (neZ nd ha)]; exact z.ok0 a ha
/-- for x in d: d a dict with tuple keys, in slot i -/
theorem gs_forKeys {g : TG} {i : Nat} {kvs : List (List Key × D)} (hi : ρ[i]? = some (some (.dT kvs))) (I : Nat → Rho → Mu → Prop) {ρ0 : Rho} (hl : Lq ρ0 ρ) (h0 : I 0 ρ0 μ)
    (hb : ∀ j e ρi μi, kvs[j]? = some e → I j ρi μi → ∃ ρ', GA g (tK e.1) ρi ρ' ∧ GS ts ρ' μi (fun ρ'' μ'' => ∃ ρ1, Lq ρ1 ρ'' ∧ I (j + 1) ρ1 μ'') R) (hn : ∀ ρ' μ', I kvs.length ρ' μ' → N ρ' μ') : GS (tLkS (tFor (iKeys (tVar i)) g ts)) ρ μ N R := fun Z σ H E k s m n r => by
  obtain ⟨v, h1, h2⟩ := s.2 i _ hi
  -- the loop over a heap in which the dict is locked
  have core : ∀ {Hl : Hp} {d : Addr} {od : Obj} {ws : List (List Key × V)} {E' : Ends}, v = .ref d → ¬ Z d → okZ Z Hl → SRep Z Hl σ ρ → Mem Z Hl μ → Hl d = some (.frz od (.dT ws)) → RepT Z Hl ws kvs →
      (∀ σ' H' ρ' μ' Z', N ρ' μ' → Nz Z Hl μ Z' H' μ' → SRep Z' H' σ' ρ' → E'.nx σ' H') → (∀ v H' d μ' Z', R d μ' → Nz Z Hl μ Z' H' μ' → Rep Z' H' v d → E'.rt v H') → tFor (iKeys (tVar i)) g ts E' σ Hl := fun {Hl d od ws E'} hv nd kl sl ml hd rt n' r' => by
    subst hv
    refine ⟨_, h1, d, od, rfl, .inr ⟨ws, hd, ?_⟩⟩
    have W := dw_keys nd hd rt Z fun a z => .inl z
    refine for_it W (fun j σ Hc => ∃ ρi μi Zi, I j ρi μi ∧ Nz Z Hl μ Zi Hc μi ∧ SRep Zi Hc σ ρi) ⟨ρ0, μ, Z, h0, (Nxt.rf ml).nz kl, sl.lq hl⟩ (fun j σ Hc _ ⟨ρi, μi, Zi, _, z, _⟩ => ⟨z.to ml, z.ok0⟩) ?_ fun σ Hc ⟨ρi, μi, Zi, hI, z, si⟩ => n' σ Hc ρi μi Zi (hn _ _ (by simpa using hI)) z si
    rintro j x σ Hc H' hj ⟨ρi, μi, Zi, hI, z, si⟩ ⟨y1, dd, y20, y3⟩
    rw [List.getElem?_map] at y20
    obtain ⟨e, y2, rfl⟩ := Option.map_eq_some_iff.mp y20
    obtain ⟨ρ', g1, g2⟩ := hb j e ρi μi y2 hI
    have z' : Nz Z Hl μ Zi H' μi := z.tr ((Nxt.exs z.mem y1).nz z.ok)
    refine g1 Zi σ H' x _ z'.ok (si.mono y1.to) (y3.zs fun a h => .inl (z.zs a h)) fun σ' s' => ?_
    refine g2 Zi σ' H' _ z'.ok s' z'.mem (fun σ2 H2 ρ2 μ2 Z2 q z2 s2 => ?_) fun v H2 d μ2 Z2 q z2 r2 => r' v H2 d μ2 Z2 q (z'.tr z2) r2
    obtain ⟨ρ1, l1, q⟩ := q
    exact ⟨ρ1, μ2, Z2, q, z'.tr z2, s2.lq l1⟩
  cases h2 with
  | dT nd h rt =>
    rename_i d ws
    rcases h with h | ⟨o, h⟩
    · refine .inl ⟨d, _, h, trivial, fun od => ?_⟩
      have wl : ExtW Z H (upd H d (.frz od (.dT ws))) := lockW rfl h od
      have ml : Mem Z (upd H d (.frz od (.dT ws))) μ := m.monoW wl fun a o ha ho => by rw [upd_ne (neZ nd ha)]; exact ho
      refine core rfl nd (k.upd rfl) (s.monoW wl) ml upd_same (rt.monoW wl) (fun σ' H' ρ' μ' Z' q z s' => ?_) fun v H' dd μ' Z' q z r' => ?_
      · obtain ⟨e, z'⟩ := z.unlock rfl nd m h
        exact ⟨e, n σ' _ ρ' μ' Z' q z' (s'.monoW (unlockW rfl e))⟩
      · obtain ⟨e, z'⟩ := z.unlock rfl nd m h
        exact ⟨e, r v _ dd μ' Z' q z' (r'.monoW (unlockW rfl e))⟩
    · exact .inr (core rfl nd k s m h rt n r)
end
end Du
namespace Du
open PySem L2 PySem.Spec PyProof.Rows
/-! dict(xs), xs a list of pairs whose first parts are unlike tuples -/
def rDictPT (K : PySem.W.Frag) : List V → Hp → VK → Prop := fun xs H Q => ∃ (a : Addr) (ps : List Addr) (kvs : List (List Key × V)), xs = [.ref a] ∧ SqL K H a (ps.map V.ref) ∧
  Paired (fun p kv => ∃ b, SqT K H p [.ref b, kv.2] ∧ H b = some (.tup (kv.1.map kV))) ps kvs ∧ (kvs.map (·.1)).Nodup ∧ ∀ p, H p = none → Q (.ref p) (upd H p (.dT kvs))
theorem stAll_nodup {κ : Type} [DecidableEq κ] : ∀ (ps acc : List (κ × Addr × Value)), ((acc ++ ps).map (·.1)).Nodup → storedAllH acc ps = acc ++ ps
  | [], acc, _ => by simp [storedAllH]
  | p :: ps, acc, h => by
    have hn : p.1 ∉ acc.map (·.1) := fun hm => by
      rw [List.map_append, List.map_cons] at h
      exact (List.nodup_append.mp h).2.2 _ hm _ List.mem_cons_self rfl
    have e : storedH acc p.1 p.2.1 p.2.2 = acc ++ [p] := by
      have ha : atKey acc p.1 = none := by
        clear h
        induction acc with
        | nil => rfl
        | cons x acc ih =>
          have h1 : ¬ x.1 = p.1 := fun z => hn (by rw [List.map_cons, z]; exact List.mem_cons_self)
          have h2 := ih fun z => hn (by rw [List.map_cons]; exact List.mem_cons_of_mem _ z)
          unfold atKey at h2 ⊢
          rw [List.find?_cons, decide_eq_false h1]
          exact h2
      unfold storedH
      rw [ha]; rfl
    show storedAllH (storedH acc p.1 p.2.1 p.2.2) ps = _
    rw [e, stAll_nodup ps (acc ++ [p]) (by simpa using h)]
    simp
section
variable {X : Cx}
theorem pairsT_of {pins : List (Addr × Obj)} {σ : L2.St} {H : Hp} {s : Shared} (I : Inv X pins σ H s) : ∀ {ps : List Addr} {kvs : List (List Key × V)}, Paired (fun p kv => ∃ b, SqT X.K H p [.ref b, kv.2] ∧ H b = some (.tup (kv.1.map kV))) ps kvs →
    ∃ xs : List (List Key × Addr × Value), KT H kvs xs ∧ xs.length = ps.length ∧ kvs.map (·.1) = xs.map (·.1) ∧ ∀ (j : Nat) (x : List Key × Addr × Value), xs[j]? = some x → ∃ p, ps[j]? = some p ∧ IsTup s.heap p #[.ref x.2.1, x.2.2] ∧ H x.2.1 = some (.tup (x.1.map kV))
  | _, _, .nil => ⟨[], .nil, rfl, rfl, fun j x e => by simp at e⟩
  | _, _, .cons (a := p) (b := kv) h t => by
    obtain ⟨xs, r, hl, hk, hp⟩ := pairsT_of I t
    obtain ⟨b, h1, h2⟩ := h
    obtain ⟨its, rv, ht, _⟩ := I.tuple h1
    obtain ⟨u, y, ei, ru, ry⟩ := vals2 rv
    subst ei
    cases (show u = Value.ref b from ru)
    refine ⟨(kv.1, b, y) :: xs, .cons ⟨rfl, h2, ry⟩ r, by simp [hl], by simp [hk], fun j x e => ?_⟩
    cases j with
    | zero => cases e; exact ⟨p, rfl, ht, h2⟩
    | succ j =>
      obtain ⟨q, e1, e2⟩ := hp j x (by simpa using e)
      exact ⟨q, by simpa using e1, e2⟩
theorem cr_dictPT (hc : X.calm = true) (hu : X.A.units + 3 < cLine) : CallR X (.type "dict") (rDictPT X.K) := by
  intro pins s σ H xs us Q I r q
  obtain ⟨a, ps, kvs, rfl, hq, hp, nd, q⟩ := q
  obtain ⟨u, rfl, rx⟩ := vals1 r
  cases rx
  obtain ⟨its, rv, pl, hz⟩ := I.list hq
  have ei := refs_at rv
  subst ei
  rw [List.length_map] at hz
  obtain ⟨xs, rel, hl, hk, hpr⟩ := pairsT_of I hp
  have hlk : kvs.length = xs.length := by have := congrArg List.length hk; simpa using this
  have PA := PairArg.list (prog := X.prog) (w := X.w) a (ps.map Value.ref).toArray (fun j => (ps[j]?).getD 0) (xs.map fun x => (Value.ref x.2.1, x.2.2))
  refine call_dict_pairsH (knd := tupleKind (mixKind X.prog X.w)) (ps := xs) PA (I.ok.hd hc) (show X.A.in1.in1.units < cLine from ?_) ⟨pl, by simp [hl], fun j k v e => ?_⟩ ⟨by simp, fun i key v e => ?_⟩ (fun h' hs x hx => ?_) (by simp [hl]; exact hz) fun h' tk hd' k => ?_
  · show X.A.units + 2 < cLine
    omega
  · rw [List.getElem?_map] at e
    obtain ⟨x, e1, e2⟩ := Option.map_eq_some_iff.mp e
    cases e2
    obtain ⟨p, e3, e4, _⟩ := hpr j x e1
    refine ⟨by simp [e3], .inl ?_⟩
    simp only [e3, Option.getD_some]
    exact e4
  · have e' : (xs.map fun x => (Value.ref x.2.1, x.2.2))[i]? = some (key, v) := e
    rw [List.getElem?_map] at e'
    obtain ⟨x, e1, e2⟩ := Option.map_eq_some_iff.mp e'
    cases e2
    exact ⟨x.1, x.2.1, e1, rfl⟩
  · obtain ⟨j, hj⟩ := List.getElem?_of_mem hx
    obtain ⟨p, _, _, hb⟩ := hpr j x hj
    obtain ⟨o, its, n, ho, r⟩ := key_of (P := X.prog) (w := X.w) I.hok hb
    exact ⟨o, its, n, hs _ o (Nat.ne_of_lt (Heap.lt_size ho)) (by simp) ho, r⟩
  · rw [stAll_nodup xs [] (by rw [List.nil_append, ← hk]; exact nd), List.nil_append] at hd'
    have hm : (s.heap.objs.size == sysModules) = false := beq_eq_false_iff_ne.mpr (Nat.ne_of_gt I.big)
    obtain ⟨o, es, ep, hq, h2, h3, h4, _, h5⟩ := hd'
    have nH : H s.heap.objs.size = none := I.hok.fresh (Nat.le_refl _)
    refine ⟨.ref s.heap.objs.size, upd H s.heap.objs.size (.dT kvs), I.laid (t' := tk) (fun b o e => k b o (by simp) e) (Nat.le_refl _) ⟨by rw [hlk, hl]; exact hz, hm, xs, KT.keeps rel fun c ys ec => ?_, o, es, ep, hq, h2, h3, h4, h5⟩, rfl, q _ nH⟩
    rw [upd_ne (ne_of_none ec nH)]
    exact ec
end
end Du
namespace Du
open PySem L2 PySem.Spec PyProof.Rows
/-! == of dicts whose keys are objects -/
section
variable {prog : Program} {w : World} {κ : Type} [DecidableEq κ] {kd : HeapKind prog w κ} {A : Around} {E : Value → Shared → Prop} {s : Shared}
inductive HitsH (prog : Program) (w : World) (A : Around) (s : Shared) (yb : List (κ × Addr × Value)) : List (κ × Addr × Value) → Bool → Prop
  | nil : HitsH prog w A s yb [] true
  | miss {x : κ × Addr × Value} {r : List (κ × Addr × Value)} : atKey yb x.1 = none → HitsH prog w A s yb (x :: r) false
  | hit {x : κ × Addr × Value} {p : Addr × Value} {r : List (κ × Addr × Value)} {e b : Bool} : atKey yb x.1 = some p → SeqAt.EqP prog w A s x.2.2 p.2 e → HitsH prog w A s yb r b → HitsH prog w A s yb (x :: r) (e && b)
theorem HitsH.inv {yb : List (κ × Addr × Value)} {x : κ × Addr × Value} {r : List (κ × Addr × Value)} {b : Bool} (h : HitsH prog w A s yb (x :: r) b) :
    (atKey yb x.1 = none ∧ b = false) ∨ ∃ p e b', atKey yb x.1 = some p ∧ SeqAt.EqP prog w A s x.2.2 p.2 e ∧ HitsH prog w A s yb r b' ∧ b = (e && b') := by
  cases h with
  | miss hn => exact .inl ⟨hn, rfl⟩
  | hit hy he hr => exact .inr ⟨_, _, _, hy, he, hr, rfl⟩
theorem atKey_none {yb : List (κ × Addr × Value)} {k : κ} (h : ∀ (j : Nat) (p : Addr × Value), yb[j]? ≠ some (k, p)) : atKey yb k = none := by
  unfold atKey
  rw [Option.map_eq_none_iff, List.find?_eq_none]
  intro x hx
  obtain ⟨j, hj⟩ := List.getElem?_of_mem hx
  intro hd
  have : x.1 = k := of_decide_eq_true hd
  exact h j x.2 (by rw [hj, ← this])
theorem atKey_some {k : κ} {p : Addr × Value} : ∀ {yb : List (κ × Addr × Value)} {j : Nat}, (yb.map (·.1)).Nodup → yb[j]? = some (k, p) → atKey yb k = some p
  | [], _, _, h => by simp at h
  | y :: yb, 0, _, h => by cases h; simp [atKey]
  | y :: yb, j + 1, nd, h => by
    rw [List.map_cons, List.nodup_cons] at nd
    have h' : yb[j]? = some (k, p) := by simpa using h
    have ne : ¬ y.1 = k := fun z => nd.1 (z ▸ List.mem_map.mpr ⟨_, List.mem_of_getElem? h', rfl⟩)
    have := atKey_some nd.2 h'
    unfold atKey at this ⊢
    rw [List.find?_cons, decide_eq_false ne]
    exact this
theorem sameH {nm : String} {a b : Addr} {xa xb : List (κ × Addr × Value)} {r : Bool} {Q : Bool → Shared → Prop} (ha : (a == sysModules) = false) (hb : (b == sysModules) = false) (hu : kd.room A)
    (da : s.heap.DictOfH kd a xa) (db : s.heap.DictOfH kd b xb) (hits : xa.length = xb.length → HitsH prog w A s xb xa r) (h : Q (xa.length == xb.length && r) s) :
    wpAny (model prog w) A (Builtin.Dict.samePairs nm a b) Q E s := by
  obtain ⟨o1, e1, p1, g1, _, d1, t1, i1, n1⟩ := da
  obtain ⟨o2, e2, p2, g2, _, d2, t2, i2, n2⟩ := db
  have z1 : e1.size = xa.length := size_of_entries t1
  have z2 : e2.size = xb.length := size_of_entries t2
  rw [← z1, ← z2] at h
  unfold Builtin.Dict.samePairs Builtin.Dict.showsAll
  rw [if_neg (show ¬ (a == sysModules) = true by rw [ha]; decide), if_neg (show ¬ (b == sysModules) = true by rw [hb]; decide)]
  refine wpAny_bind (wpAny_pure (wpAny_bind (wpAny_pure (wpAny_bind (wpAny_dictEntries g1 d1 ?_)))))
  dsimp only
  refine wpAny_bind (wpAny_dictEntries g2 d2 ?_)
  by_cases zz : e1.size = e2.size
  case neg =>
    rw [if_pos (by simpa using zz)]
    have bf : (e1.size == e2.size) = false := by simpa using zz
    rw [bf, Bool.false_and] at h
    exact wpAny_bind (wpAny_rule (wpAny_pure h))
  case pos =>
    have h' : Q r s := by simpa [zz] using h
    have hits' := hits (by rw [← z1, ← z2]; exact zz)
    rw [if_neg (by rw [zz]; simp)]
    refine wpAny_bind (wpAny_dictEpoch g1 d1 (wpAny_bind ?_))
    rw [Std.Legacy.Range.forIn_eq_forIn_range']
    simp only [Std.Legacy.Range.size, Nat.sub_zero, Nat.add_sub_cancel, Nat.div_one]
    refine wpAny_forIn_list _ (fun rest q s' => s' = s ∧ q = (none, ()) ∧ ∃ i, rest = List.range' i (e1.size - i) ∧ i ≤ e1.size ∧ HitsH prog w A s xb (xa.drop i) r) _ ?_ ?_ _ _ ⟨rfl, rfl, 0, by simp, Nat.zero_le _, hits'⟩
    · rintro x rest q s' ⟨rfl, rfl, i, hr, hi, pre⟩
      have lt : i < e1.size := by
        rcases Nat.lt_or_ge i e1.size with z | z
        · exact z
        · rw [Nat.sub_eq_zero_of_le z] at hr; simp at hr
      obtain ⟨rfl, hrest⟩ : x = i ∧ rest = List.range' (i + 1) (e1.size - (i + 1)) := by
        rw [show e1.size - i = (e1.size - (i + 1)) + 1 by omega, List.range'_succ] at hr
        injection hr with c1 c2
        exact ⟨c1, c2⟩
      refine wpAny_bind (wpAny_dictEntries g1 d1 ?_)
      have lt' : x < xa.length := by rw [← z1]; exact lt
      have en : e1[x]? = some (entryOfKey kd xa[x]) := by rw [entry_at t1, List.getElem?_eq_getElem lt']; rfl
      rw [en]
      have hdrop : xa.drop x = xa[x] :: xa.drop (x + 1) := List.drop_eq_getElem_cons lt'
      have his := i1 xa[x] (List.getElem_mem lt')
      generalize xa[x] = y at en hdrop his ⊢
      rw [hdrop] at pre
      show wpAny _ _ (holding [Value.ref y.2.1, y.2.2] _ >>= _) _ _ _
      refine wpAny_bind (wpAny_holding (wpAny_bind (wpAny_dictFind_heap (knd := kd) hu his g2 d2 t2 i2 n2 (fun no => ?_) fun j p hj => ?_)))
      · rcases pre.inv with ⟨_, er⟩ | ⟨p, _, _, hy, _⟩
        · rw [er] at h'
          refine wpAny_pure ?_
          show wpAny _ _ (if (!false) = true then _ else _) _ _ _
          rw [if_pos (by decide)]
          exact wpAny_pure (wpAny_pure h')
        · rw [atKey_none no] at hy; exact nomatch hy
      · have hv := atKey_some n2 hj
        refine wpAny_bind (wpAny_dictEntries g2 d2 ?_)
        rw [entry_at t2, hj]
        rcases pre.inv with ⟨hn, _⟩ | ⟨p', e, b', hy, he, hrr, er⟩
        · rw [hv] at hn; exact nomatch hn
        · have ey : p = p' := Option.some.inj (hv.symm.trans hy)
          subst ey
          refine wpAny_holding (he _ _ ?_)
          cases e with
          | false =>
            rw [er, Bool.false_and] at h'
            show wpAny _ _ (if (!false) = true then _ else _) _ _ _
            rw [if_pos (by decide)]
            exact wpAny_pure (wpAny_pure h')
          | true =>
            rw [Bool.true_and] at er
            rw [← er] at hrr
            show wpAny _ _ (if (!true) = true then _ else _) _ _ _
            rw [if_neg (by decide)]
            refine wpAny_bind (wpAny_dictEpoch g1 d1 ?_)
            rw [if_neg (by simp)]
            exact wpAny_pure ⟨rfl, rfl, x + 1, hrest, lt, hrr⟩
    · rintro q s' ⟨rfl, rfl, i, hr, hi, pre⟩
      have hin : i = e1.size := by
        rcases Nat.lt_or_ge i e1.size with z | z
        · rw [show e1.size - i = (e1.size - (i + 1)) + 1 by omega, List.range'_succ] at hr; exact nomatch hr
        · exact Nat.le_antisymm hi z
      refine wpAny_pure ?_
      rw [hin, z1, List.drop_length] at pre
      cases pre
      exact h'
theorem rcH {a b : Addr} {xa xb : List (κ × Addr × Value)} {r : Bool} (ha : (a == sysModules) = false) (hb : (b == sysModules) = false) (hu : kd.room A.in1) (hc : A.units < cLine)
    (da : s.heap.DictOfH kd a xa) (db : s.heap.DictOfH kd b xb) (hits : xa.length = xb.length → HitsH prog w A.in1 s xb xa r) (E Q : Value → Shared → Prop) (h : Q (.bool (xa.length == xb.length && r)) s) : wpAny (model prog w) A (richCompare .Eq (.ref a) (.ref b)) Q E s := by
  refine wpAny_richCompare_same_room (op := .Eq) da.typeIs db.typeIs PySem.F.slot_dict_eq (wpAny_call_entry PySem.F.slot_dict_eq da.typeIs PySem.F.entry_dict_eq ?_ (PySem.F.args_dict_eq_2 _ _)) hc
  show wpAny _ _ (Builtin.Dict.dictSlotArgs "__eq__" ⟨[.ref a, .ref b], []⟩ >>= _) _ _ s
  unfold Builtin.Dict.dictSlotArgs
  refine wpAny_bind (wpAny_bind (wpAny_notOrdered_dict da.typeIs ?_))
  show wpAny _ _ (pure (Value.ref a, Value.ref b)) _ _ s
  refine wpAny_pure (wpAny_bind (wpAny_isInstance (T := "dict") db.typeIs PySem.F.sub_dict_dict ?_))
  simp only [Bool.not_true, Bool.false_eq_true, if_false]
  refine wpAny_bind (wpAny_pure (wpAny_bind (wpAny_pure (wpAny_bind (sameH (kd := kd) ha hb hu da db hits ?_)))))
  refine wpAny_pure ⟨_, rfl, ?_, ?_⟩
  · intro x; cases x
  · simpa using h
end
section
variable {X : Cx}
/-- d == e of dicts with tuple keys, their values plain -/
def rEqT (K : PySem.W.Frag) : R2 := fun x y H Q => ∃ (a b : Addr) (ks ls : List (List Key × V)) (f g : List Key → PyData), x = .ref a ∧ y = .ref b ∧ Rd H a (.dT ks) ∧ Rd H b (.dT ls) ∧
  (∀ p ∈ ks, Dp K H p.2 (f p.1) ∧ SeqAt.shaped (f p.1) = true) ∧ (∀ p ∈ ls, Dp K H p.2 (g p.1) ∧ SeqAt.shaped (g p.1) = true) ∧
  Q (.bl (ks.length == ls.length && ks.all fun p => ls.any (fun q => decide (q.1 = p.1)) && PyData.eqv (f p.1) (g p.1))) H
theorem eqP_plain {pins : List (Addr × Obj)} {σ : L2.St} {H : Hp} {s : Shared} {A : Around} (I : Inv X pins σ H s) {x y : V} {v u : Value} {d e : PyData} (hd : Dp X.K H x d) (he : Dp X.K H y e) (sd : SeqAt.shaped d = true) (se : SeqAt.shaped e = true) (rx : RelV x v) (ry : RelV y u) (hu : A.units + 64 < cLine) : SeqAt.EqP X.prog X.w A s v u (PyData.eqv d e) := by
  obtain ⟨as, r1⟩ := Dp.reads I d x v hd rx
  obtain ⟨bs, r2⟩ := Dp.reads I e y u he ry
  have room : A.units + min d.depth e.depth < cLine := SeqAt.room_of_shaped sd hu
  exact (SeqAt.eqAt_reads d e A s v u as bs r1 r2 (SeqAt.canLay_of_shaped sd) (SeqAt.canLay_of_shaped se) room).eqP
theorem valV_mem {κ : Type} [DecidableEq κ] {ls : List (κ × V)} {k : κ} {v : V} (h : valV ls k = some v) : (k, v) ∈ ls := by
  unfold valV at h
  obtain ⟨p, hp, e⟩ := Option.map_eq_some_iff.mp h
  have h1 := List.mem_of_find?_eq_some hp
  have h2 : p.1 = k := by have := List.find?_some hp; exact of_decide_eq_true this
  subst h2; subst e
  exact h1
theorem hitsT {pins : List (Addr × Obj)} {σ : L2.St} {H : Hp} {s : Shared} {A : Around} (I : Inv X pins σ H s) (hu : A.units + 64 < cLine) {ls : List (List Key × V)} {xb : List (List Key × Addr × Value)} {f g : List Key → PyData} (rb : KT H ls xb) (hg : ∀ p ∈ ls, Dp X.K H p.2 (g p.1) ∧ SeqAt.shaped (g p.1) = true) :
    ∀ {ks : List (List Key × V)} {xa : List (List Key × Addr × Value)}, KT H ks xa → (∀ p ∈ ks, Dp X.K H p.2 (f p.1) ∧ SeqAt.shaped (f p.1) = true) → HitsH X.prog X.w A s xb xa (ks.all fun p => ls.any (fun q => decide (q.1 = p.1)) && PyData.eqv (f p.1) (g p.1))
  | _, _, .nil, _ => .nil
  | _, _, .cons (a := p) (b := q) (l₁ := ks) (l₂ := xa) h t, hf => by
    obtain ⟨h1, h2, h3⟩ := h
    have ih := hitsT I hu rb hg t fun p hp => hf p (List.mem_cons_of_mem _ hp)
    have rv : RelO (valV ls p.1) ((atKey xb p.1).map (·.2)) := KT.val rb p.1
    rw [List.all_cons, valV_any]
    cases hv : valV ls p.1 with
    | none =>
      rw [hv] at rv
      have : atKey xb q.1 = none := by
        rw [← h1]
        cases hk : atKey xb p.1 with
        | none => rfl
        | some z => rw [hk] at rv; exact rv.elim
      simp only [Option.isSome_none, Bool.false_and]
      exact .miss this
    | some y =>
      rw [hv] at rv
      cases hk : atKey xb p.1 with
      | none => rw [hk] at rv; exact rv.elim
      | some z =>
        rw [hk] at rv
        simp only [Option.isSome_some, Bool.true_and]
        have hy := hg _ (valV_mem hv)
        have hx := hf p List.mem_cons_self
        exact .hit (p := z) (by rw [← h1]; exact hk) (eqP_plain I hx.1 hy.1 hx.2 hy.2 h3 rv hu) ih
theorem op_eqT (hu : X.A.units + 65 < cLine) : OpR X (compareOp .Eq) (rEqT X.K) := by
  intro pins s σ H x y v u Q I rx ry h
  obtain ⟨a, b, ks, ls, f, g, rfl, rfl, ha, hb, hf, hg, q⟩ := h
  cases (show v = Value.ref a from rx)
  cases (show u = Value.ref b from ry)
  obtain ⟨_, ya, xa, ra, da⟩ := dt_rd I.hok ha
  obtain ⟨_, yb, xb, rb, db⟩ := dt_rd I.hok hb
  refine rcH (kd := tupleKind (mixKind X.prog X.w)) ya yb (show X.A.units + 1 < cLine by omega) (by omega) da db (fun _ => hitsT I (show X.A.units + 1 + 64 < cLine by omega) rb hg ra hf) _ _ ⟨.bl _, H, I, ?_, q⟩
  rw [Paired.length ra, Paired.length rb]
  rfl
end
section
variable {K : PySem.W.Frag} {ρ : Rho}
/-! in data -/
theorem RepT.pl {Z : Addr → Prop} {H : Hp} {f : List Key → D} : ∀ {kvs : List (List Key × V)} {ds : List (List Key × D)}, RepT Z H kvs ds → (∀ p ∈ ds, p.2 = f p.1 ∧ okE (f p.1)) → ∀ p ∈ kvs, Dp K H p.2 (toP (f p.1)) ∧ SeqAt.shaped (toP (f p.1)) = true
  | _, _, .nil, _, p, hp => nomatch hp
  | _, _, .cons (k := k) (v := v) (d := d) r t, hf, p, hp => by
    rcases List.mem_cons.mp hp with rfl | hp
    · have := hf _ List.mem_cons_self
      dsimp only at this ⊢
      rw [← this.1]
      have h2 : okE d := this.1 ▸ this.2
      exact ⟨dp_of r h2.1, h2.sh⟩
    · exact RepT.pl t (fun q hq => hf q (List.mem_cons_of_mem _ hq)) p hp
def eqT (ds es : List (List Key × D)) : Bool := ds.length == es.length && ds.all fun p => match valD es p.1 with | some z => eqD p.2 z | none => false
theorem rd_eqT {α β : Type} {xs : List α} {ys : List β} {f g : List Key → D} {kf : α → List Key} {kg : β → List Key} (hf : ∀ x ∈ xs, okE (f (kf x))) (hg : ∀ y ∈ ys, okE (g (kg y))) :
    R2D (rEqT K) (.dT (xs.map fun x => (kf x, f (kf x)))) (.dT (ys.map fun y => (kg y, g (kg y)))) (.bl (xs.length == ys.length && xs.all fun x => (ys.any fun y => decide (kg y = kf x)) && eqD (f (kf x)) (g (kf x)))) := fun Z H x y Q k r1 r2 q => by
  cases r1 with
  | dT n1 h1 t1 => cases r2 with
    | dT n2 h2 t2 =>
      have e1 := t1.keys
      have e2 := t2.keys
      refine ⟨_, _, _, _, fun k => toP (f k), fun k => toP (g k), rfl, rfl, h1, h2, RepT.pl t1 (fun p hp => ?_), RepT.pl t2 (fun p hp => ?_), ?_⟩
      · obtain ⟨x, hx, rfl⟩ := List.mem_map.mp hp; exact ⟨rfl, hf x hx⟩
      · obtain ⟨y, hy, rfl⟩ := List.mem_map.mp hp; exact ⟨rfl, hg y hy⟩
      · have key : ∀ (ks : List (List Key × V)) (ls : List (List Key × V)), ks.map (·.1) = xs.map kf → ls.map (·.1) = ys.map kg → (ks.length == ls.length && ks.all fun p => ls.any (fun q => decide (q.1 = p.1)) && PyData.eqv (toP (f p.1)) (toP (g p.1))) = (xs.length == ys.length && xs.all fun x => (ys.any fun y => decide (kg y = kf x)) && eqD (f (kf x)) (g (kf x))) := fun ks ls a b => by
          have l1 : ks.length = xs.length := by have := congrArg List.length a; simpa using this
          have l2 : ls.length = ys.length := by have := congrArg List.length b; simpa using this
          have s1 : ∀ k, (ls.any fun q => decide (q.1 = k)) = ys.any fun y => decide (kg y = k) := fun k => by
            have := congrArg (fun l => l.any fun z => decide (z = k)) b
            simp only [List.any_map, Function.comp_def] at this
            exact this
          rw [l1, l2]
          have := congrArg (fun l => l.all fun z => (ys.any fun y => decide (kg y = z)) && PyData.eqv (toP (f z)) (toP (g z))) a
          simp only [List.all_map, Function.comp_def] at this
          simp only [s1]
          rw [this]; rfl
        rw [key _ _ (by rw [e1, List.map_map]; rfl) (by rw [e2, List.map_map]; rfl)]
        exact q _ H (Ex.rf H) (.bl _)
/-- dict(xs) -/
theorem rl_dictPT {α : Type} {xs : List α} {kf : α → List Key} {vf : α → D} (nd : (xs.map kf).Nodup) : RLD (rDictPT K) [.lst (xs.map fun x => .tup [tK (kf x), vf x])] (.dT (xs.map fun x => (kf x, vf x))) := fun Z H vs Q k r q => by
  cases r with
  | cons r rn =>
    cases rn
    cases r with
    | lst n h rs =>
      have main : ∀ (xs : List α) (vs : List V), Reps Z H vs (xs.map fun x => .tup [tK (kf x), vf x]) → ∃ (ps : List Addr) (kvs : List (List Key × V)), vs = ps.map V.ref ∧ Paired (fun p kv => ∃ b, SqT K H p [.ref b, kv.2] ∧ H b = some (.tup (kv.1.map kV))) ps kvs ∧ kvs.map (·.1) = xs.map kf ∧ RepT Z H kvs (xs.map fun x => (kf x, vf x)) := fun xs => by
        induction xs with
        | nil => intro vs r; cases r; exact ⟨[], [], rfl, .nil, rfl, .nil⟩
        | cons x xs ih =>
          intro vs r
          cases r with
          | cons r rs =>
            obtain ⟨ps, kvs, e1, e2, e3, e4⟩ := ih _ rs
            cases r with
            | tup n h r =>
              cases r with
              | cons ra r => cases r with
                | cons rb r =>
                  cases r
                  cases ra with
                  | tup n' h' rk =>
                    have := repK_of rk
                    subst this
                    exact ⟨_ :: ps, (kf x, _) :: kvs, by rw [e1]; rfl, .cons ⟨_, .inl (.inl h), h'⟩ e2, by simp [e3], .cons rb e4⟩
      obtain ⟨ps, kvs, e1, e2, e3, e4⟩ := main xs _ rs
      subst e1
      refine ⟨_, ps, kvs, rfl, .inl (.inl h), e2, by rw [e3]; exact nd, fun p hp => q _ _ (Ex.new hp) (.dT (k.no hp) (.inl upd_same) (e4.mono (Ext.new hp)))⟩
end
end Du
namespace Du
open PySem L2 PySem.Spec PyProof.Rows
/-! the type of a thing, a locked dict too -/
def TyY (K : PySem.W.Frag) (H : Hp) (y : V) (t : Value) : Prop := TyX K H y t ∨ ∃ (a : Addr) (o : Obj) (kvs : List (List Key × V)), y = .ref a ∧ t = .type "dict" ∧ H a = some (.frz o (.dT kvs))
section
variable {X : Cx} {pins : List (Addr × Obj)} {σ : L2.St} {H : Hp} {s : Shared}
theorem kit_ofY {x : V} {u t : Value} (I : Inv X pins σ H s) (rx : RelV x u) (ty : TyY X.K H x t) : ∃ P : Heap → Prop, PySem.W.KitX X.K u t P ∧ P s.heap ∧ u ≠ .builtin "__main__.__loader__#opaque" := by
  rcases ty with ty | ⟨a, o, kvs, rfl, rfl, h⟩
  · exact kit_of I rx ty
  · cases (show u = Value.ref a from rx)
    obtain ⟨_, _, _, xs, _, o', es, ep, h1, h2, _⟩ := (show ObjOk X.prog X.w H s.heap a (.frz o (.dT kvs)) from I.hok a _ h)
    exact ⟨_, PySem.W.kitx_dict, ⟨o', h1, h2.1⟩, fun z => nomatch z⟩
end
def rIsiY (K : PySem.W.Frag) : List V → Hp → VK → Prop := fun xs H Q => ∃ (x c : V) (t u : Value) (b : Bool), xs = [x, c] ∧ ClsV c u ∧ TyY K H x t ∧ PySem.W.kitOne K t u = some b ∧ Q (.bl b) H
def rCmpY (K : PySem.W.Frag) (C : Addr) (sp : Sp) (E : XK) : R2 := fun x y H Q => ∃ a dx fs t, x = .ref a ∧ H a = some (.ins C dx fs) ∧ TyY K H y t ∧ PySem.W.notFirst K C t = true ∧ sp [x, y] H Q E
section
variable {X : Cx} {K : PySem.W.Frag} {CX : CXT} {n : Nat} {C g : Addr} {sp : Sp} {E : XK}
theorem k_isiY (hK : X.K = K) : CallR X (.builtin "isinstance") (rIsiY K) := by
  subst hK
  intro pins s σ H xs us Q I r h
  obtain ⟨x, c, t, u, b, rfl, k, ty, e, q⟩ := h
  obtain ⟨u1, u2, rfl, r1, r2⟩ := vals2 r
  have e2 := k.eq r2
  subst e2
  obtain ⟨P, Z, p, hx⟩ := kit_ofY I r1 ty
  exact PySem.W.kia_one Z I.kIn p e hx fun tk => ⟨.bl b, H, I.tok tk, rfl, q⟩
theorem op_cmpY {op : CmpOp} (hop : ∀ a b, compareOp op a b = richCompare op a b) (hs : PySem.W.findIn X.K (.ref C) (cmpInfo op).2.1 = some (some (.ref g))) (hf : PySem.W.isFn X.K (.ref g) = true)
    (F : FnR X.prog X.w X.K X.mg X.base CX n g sp) (hr : Room n X.A) (hx : Passes CX X E) : OpR X (compareOp op) (rCmpY X.K C sp E) := by
  intro pins s σ H x y v u Q I rx ry h
  obtain ⟨a, dx, fs, t, rfl, ha, ty, hn, q⟩ := h
  cases (show v = Value.ref a from rx)
  obtain ⟨ox, od, J⟩ := instOf I ha
  obtain ⟨P, kx, p, _⟩ := kit_ofY I ry ty
  obtain ⟨m, hF⟩ := I.fr
  rw [hop]
  refine PySem.W.cmp_K (op := op) (tb := t) hr.units0 hF I.ok.mod.kin J (kx.ty _ _ I.kIn p) hn hs hf ?_
  refine wpAny_mono (wpAny_call (run_fnR (us := [.ref a, u]) (vs := [.ref a, y]) F hr hx I (.cons rfl (.cons ry .nil)) q)) (fun w s' z => ?_) fun _ _ x => x
  obtain ⟨z', H', I', rz, qz⟩ := z
  exact SlX.cmpback rz ⟨z', H', I', rz, qz⟩
end
def tyE : D → Option String
  | .dT _ => some "dict"
  | .dK _ => some "dict"
  | d => tyD d
theorem tyE_of {K : PySem.W.Frag} {Z : Addr → Prop} {H : Hp} {v : V} {d : D} {t : String} (r : Rep Z H v d) (h : tyE d = some t) : TyY K H v (.type t) := by
  cases d with
  | dT kvs =>
    cases h
    cases r with
    | dT n h t => rcases h with h | ⟨o, h⟩
                  · exact .inl (.base (.dT h))
                  · exact .inr ⟨_, o, _, rfl, rfl, h⟩
  | dK kvs =>
    cases h
    cases r with
    | dK n h t => rcases h with h | ⟨o, h⟩
                  · exact .inl (.base (.dK h))
                  · exact .inl (.fDict h)
  | _ => exact .inl (tyD_of r h)
section
variable {K : PySem.W.Frag} {C : Addr} {R : List D → D → Prop} {E : XK} {fs : List (Str × D)} {e z : D} {t : String}
theorem rd_cmpY (ht : tyE e = some t) (hn : PySem.W.notFirst K C (.type t) = true) (hR : R [.ins C fs, e] z) : R2D (rCmpY K C (spP R) E) (.ins C fs) e z := fun Z H x y Q k r1 r2 q => by
  have ty := tyE_of (K := K) r2 ht
  cases r1 with
  | ins n h f =>
    exact ⟨_, _, _, _, rfl, h, ty, hn, Z, _, z, k, .cons (.ins n h f) (.cons r2 .nil), hR, q⟩
theorem rl_isiO {T : Addr} (ht : tyE e = some t) (hn : PySem.W.kitOne K (.type t) (.ref T) = some false) : RLD (rIsiY K) [e, .ptr T] (.bl false) := fun Z H xs Q k r q => by
  cases r with
  | cons r rs => cases rs with
    | cons r' rs =>
      cases r'; cases rs
      exact ⟨_, _, _, _, false, rfl, .own T, tyE_of r ht, hn, q _ H (Ex.rf H) (.bl false)⟩
end
/-! own == with a thing of another type, as a rule among the names -/
section
variable {X : Cx} {K : PySem.W.Frag} {P : Program} {w : World} {mg : Str → Option Value} {base : Heap} {C : Addr} {k j : Nat} {sp : Sp}
theorem k_cmpY {op : CmpOp} (hK : X.K = K) (c : OCmp X.prog X.w X.K X.mg X.base k C op sp) (hop : ∀ a b, compareOp op a b = richCompare op a b) (hr : Room j X.A) (hk : k ≤ j) : OpR X (compareOp op) (rCmpY K C sp E0) := by
  subst hK
  obtain ⟨g, hn, hs, hf, F⟩ := c
  exact op_cmpY hop hs hf F (hr.mono hk) pass0
end
/-! slices with an effect in the bound, fresh lists -/
section
variable {ρ : Rho} {μ : Mu} {ta tb te : TE} {Φ : D → Mu → Prop} {N : Rho → Mu → Prop} {R : D → Mu → Prop} {ts us : TS}
theorem ge_take {K : PySem.W.Frag} (h : GE ta ρ μ fun d μ1 => GE tb ρ μ1 fun e μ2 => ∃ (ds : List D) (n : Nat), d = .lst ds ∧ e = .int (n : Int) ∧ Φ (.lst (ds.take n)) μ2) : GE (tSl (rSlL K) ta tNoPart (tPart tb)) ρ μ Φ := fun Z σ H Q k s m c =>
  h Z σ H _ k s m fun x H1 d μ1 g n1 r1 => g Z σ H1 _ (n1.ok k) (s.mono (n1.to m)) n1.mem fun y H2 e μ2 q n2 r2 => by
    obtain ⟨ds, n, rfl, rfl, q⟩ := q
    cases r2
    cases r1.mono (n2.to n1.mem) with
    | lst nz h1 r =>
      refine ⟨_, rfl, _, _, rfl, .inl (.inl h1), fun p hp => ?_⟩
      have e : ∀ vs : List V, cutV vs none (some (n : Int)) = vs.take n := fun vs => by
        unfold cutV
        rw [HT.sIx_nat, HT.sIx_none, List.drop_zero, Nat.sub_zero]
        rcases Nat.le_total n vs.length with z | z
        · rw [Nat.min_eq_left z]
        · rw [Nat.min_eq_right z, List.take_of_length_le z, List.take_of_length_le (Nat.le_refl _)]
      rw [e]
      have k2 := n2.ok (n1.ok k)
      exact c _ _ _ μ2 q ((n1.tr n2).tr (.exs n2.mem (Ex.new hp))) (.lst (k2.no hp) upd_same ((r.take n).mono (Ext.new hp)))
/-- a def that hands back a new list -/
def spNw (R : List D → List D → Prop) : Sp := fun vs H Q _ => ∃ (Z : Addr → Prop) (ds es : List D), okZ Z H ∧ Reps Z H vs ds ∧ R ds es ∧ ∀ a H' xs, H a = none → Ex H H' → H' a = some (.lst xs) → Reps Z H' xs es → Q (.ref a) H'
theorem ev_methN {C : Addr} {m : Str} {Rn : List D → List D → Prop} {E : XK} {t : TA} {fs : List (Str × D)} {ds es : List D} (hs : Ev ta ρ (.ins C fs)) (hm : fs.lookup m = none) (ha : EvA t ρ ds) (hr : Rn (.ins C fs :: ds) es) : Ev (tMeth C m (spNw Rn) [] E ta t) ρ (.lst es) := fun Z σ H Q k s q =>
  hs Z σ H _ k s fun x H0 x0 r0 => by
    cases r0 with
    | ins n h rs =>
      exact ⟨_, _, _, rfl, h, rs.none hm, ha Z σ H0 _ (k.ex x0) (s.mono x0.to) fun vs H1 x1 r1 => ⟨Z, _, es, (k.ex x0).ex x1, .cons (.ins n (x1.exact h) (rs.mono x1.to)) (by rw [List.append_nil]; exact r1), hr, fun a H' xs ha0 x2 hx r2 => q _ H' ((x0.tr x1).tr x2) (.lst (((k.ex x0).ex x1).no ha0) hx r2)⟩⟩
theorem st_newApp {K : PySem.W.Frag} {C : Addr} {m : Str} {Rn : List D → List D → Prop} {E : XK} {t : TA} {fs : List (Str × D)} {es : List D} {z : D} (hs : Ev ta ρ (.ins C fs)) (hm : fs.lookup m = none) (hr : Rn [.ins C fs] es) (ha : EvA t ρ [z]) (hl : es.length < 100000) : St (tDrop (tBM K "list" rAppend (tMeth C m (spNw Rn) [] E ta tNil) t)) ρ (.nx ρ) := fun Z σ H E' k s q =>
  hs Z σ H _ k s fun x H0 x0 r0 => by
    cases r0 with
    | ins n h rs =>
      refine ⟨_, _, _, rfl, h, rs.none hm, Z, _, es, k.ex x0, .cons (.ins n h rs) (by rw [List.append_nil]; exact .nil), hr, fun a H' xs ha0 x2 hx r2 => ⟨.inl ⟨rfl, xs, .inl (.inl hx)⟩, ?_⟩⟩
      refine ha Z σ H' _ ((k.ex x0).ex x2) (s.mono (x0.tr x2).to) fun vs H3 x3 r3 => ?_
      cases r3 with
      | cons r3 r4 =>
        cases r4
        refine ⟨a, xs, _, rfl, rfl, x3.exact hx, Nat.lt_of_lt_of_le (by rw [r2.len]; exact hl) (by decide), ?_⟩
        have ex : ∀ u, Ex H (upd H3 a u) := fun u b o hb => by
          have hb0 := x0 b o hb
          rw [upd_ne (ne_of_none hb0 ha0)]
          exact x3 b o (x2 b o hb0)
        exact q σ _ (ex _) (s.mono (ex _).to)
end
end Du
namespace Du
open PySem L2 PySem.Spec PyProof.Rows
section
variable {X : Cx} {K : PySem.W.Frag} {k : Nat}
theorem st_lkAsg {te : TE} {ρ : Rho} {d : D} {j : Nat} (h : Ev (tLk te) ρ d) : St (tLkS (tAsg te (gName j))) ρ (.nx (ρ.set j (some d))) := fun Z σ H E k s q => by
  have h' := h Z σ H (fun v H' => E.nx (σ.set j (some v)) H') k s fun v H' x r => q _ H' x ((s.mono x.to).set j r)
  rcases h' with h' | h'
  · exact .inl h'
  · exact .inr h'
theorem k_dictPT (hK : X.K = K) (hc : X.calm = true) (hr : Room k X.A) : CallR X (.type "dict") (rDictPT K) := hK ▸ cr_dictPT hc (by have := hu65 hr; omega)
theorem k_eqT (hK : X.K = K) (hr : Room k X.A) : OpR X (compareOp .Eq) (rEqT K) := hK ▸ op_eqT (hu65 hr)
def relab (sc sc0 : Scope) : Scope := relabel sc { scope := sc0, locals := 0, globals := 0, cells := [] }
theorem blkIn {Y : Cx} {s : Shared} {H : Hp} {sc scope sc0 : Scope} {cl : List (Str × Addr)} {Cc : Addr} {fp : List Addr} {N : List Str} {own : List (Str × Nat)} (e : Y.env.scope = sc0) (h : blkC N (relab sc sc0) scope own = true) : BlkOk N (Y.blk s H sc (compEnvC sc cl Cc Y.env) fp).env.scope scope own := by
  refine blkOk_by ?_
  rw [← h, ← e]
  rfl
end
end Du
namespace Du
open PySem L2 PySem.Spec PyProof.Rows
/-! dicts whose keys are texts or ints: list(d), d.update(e), dict(pairs); dict(zip(xs, ys)) -/
def rListDK : List V → Hp → VK → Prop := fun xs H Q => ∃ (a : Addr) (kvs : List (Key × V)), xs = [.ref a] ∧ Rd H a (.dK kvs) ∧ ∀ l, H l = none → Q (.ref l) (upd H l (.lst (kvs.map fun e => kV e.1)))
def rUpdK : V → List V → Hp → VK → Prop := fun x xs H Q => ∃ (a b : Addr) (kvs more : List (Key × V)), x = .ref a ∧ xs = [.ref b] ∧ a ≠ b ∧ H a = some (.dK kvs) ∧ Rd H b (.dK more) ∧ kvs.length + more.length ≤ 100000 ∧ Q .non (upd H a (.dK (mergeK kvs more)))
def rDictPK (K : PySem.W.Frag) : List V → Hp → VK → Prop := fun xs H Q => ∃ (a : Addr) (ps : List Addr) (kvs : List (Key × V)), xs = [.ref a] ∧ SqL K H a (ps.map V.ref) ∧ Paired (fun p kv => SqT K H p [kV kv.1, kv.2]) ps kvs ∧ ∀ p, H p = none → Q (.ref p) (upd H p (.dK (mergeK [] kvs)))
theorem keyRel {P : Program} {w : World} {k : Key} {u : Value} (h : (mixKind P w).is k u = true) : RelV (kV k) u := by
  cases k with
  | inl i => obtain ⟨t, rfl⟩ := Value.isInt_shape (show u.isInt i = true from h); exact ⟨t, rfl⟩
  | inr s => obtain ⟨t, rfl⟩ := Value.isStrOf_shape (show u.isStrOf s = true from h); exact ⟨t, rfl⟩
section
variable {X : Cx}
theorem cr_listDK (hc : X.calm = true) : CallR X (.type "list") rListDK := by
  intro pins s σ H xs us Q I r q
  obtain ⟨a, kvs, rfl, h, q⟩ := q
  obtain ⟨u, rfl, rx⟩ := vals1 r
  cases rx
  obtain ⟨hz, lo, vs, rel, dd⟩ := dk_rd I.hok h
  obtain ⟨ep, hat⟩ := dd.dictAt
  have hl := rel.length
  refine PySem.W.kdl_call (PySem.W.kdl_dict (knd := mixKind X.prog X.w) (kvs := vs) (ep := ep) lo) (I.ok.hd hc) hat (by rw [← hl]; exact hz) fun h' tk acc c hk hD hacc => ?_
  have nH : H s.heap.objs.size = none := I.hok.fresh (Nat.le_refl _)
  refine ⟨.ref s.heap.objs.size, upd H s.heap.objs.size (.lst (kvs.map fun e => kV e.1)), I.laid (t' := tk) hk (Nat.le_refl _) ⟨by rw [List.length_map]; exact hz, acc.toList, c, ?_, ?_⟩, rfl, q _ nH⟩
  · have key : ∀ (kvs : List (Key × V)) (vs : List (Key × Value)) (us : List Value), KV kvs vs → us.length = vs.length → (∀ (j : Nat) (u : Value), us[j]? = some u → ∃ k x, vs[j]? = some (k, x) ∧ (mixKind X.prog X.w).is k u = true) → Vals (kvs.map fun e => kV e.1) us := by
      intro kvs vs us r
      unfold KV at r
      induction r generalizing us with
      | nil => intro hl _; cases us with
               | nil => exact .nil
               | cons _ _ => simp at hl
      | @cons p q ps qs h t ih =>
        intro hl hv
        cases us with
        | nil => simp at hl
        | cons u us =>
          obtain ⟨k, x, e1, e2⟩ := hv 0 u rfl
          cases e1
          refine .cons ?_ (ih us (by simpa using hl) fun j u' hu => by
            obtain ⟨k', x', e3, e4⟩ := hv (j + 1) u' (by simpa using hu)
            exact ⟨k', x', by simpa using e3, e4⟩)
          show RelV (kV p.1) u
          rw [h.1]
          exact keyRel e2
    exact key kvs vs acc.toList rel (by rw [Array.length_toList]; exact hacc.1) fun j u hu => hacc.2 j u (by rw [← Array.getElem?_toList]; exact hu)
  · simpa using hD
theorem mt_updK : MtR X "dict.update" rUpdK := by
  intro pins s σ H x xs v us Q I rx r q
  obtain ⟨a, b, kvs, more, rfl, rfl, ne, ha, hb, hz, q⟩ := q
  obtain ⟨u, rfl, ru⟩ := vals1 r
  cases (show v = Value.ref a from rx)
  cases (show u = Value.ref b from ru)
  obtain ⟨z1, l1, v1, r1, d1⟩ := dk_of I.hok ha
  obtain ⟨z2, l2, v2, r2, d2⟩ := dk_rd I.hok hb
  refine call_meetsIn PySem.F.slot_dict_update d1.typeIs PySem.F.entry_dict_update (PySem.F.args_dict_update_2 _ _) (meets_dict_update (mixKind X.prog X.w) a b ne l2) ⟨v1, v2, d1, d2, ?_, fun h' dd' _ hs => ⟨.non, upd H a (.dK (mergeK kvs more)), ?_, rfl, q⟩⟩
  · rw [← r1.length, ← r2.length]; exact Nat.le_trans hz (by decide)
  · have he : ∃ q, h'.get? a = some q := let ⟨q, _, _, hq, _⟩ := dd'; ⟨q, hq⟩
    refine d_write I (by rw [ha]; exact True.intro) hs he (dk_new ?_ l1 (KV.merge r2 r1) dd')
    exact Nat.le_trans (length_mergeK _ _) (Nat.le_trans hz (by decide))
/-- dict(zip(xs, ys)), xs a list of unlike tuples -/
def tDZ (K : PySem.W.Frag) (ta : TA) : TE := fun σ H Q => ta σ H fun vs H1 => ∃ (a b : Addr) (ps : List Addr) (kvs : List (List Key × V)), vs = [.ref a, .ref b] ∧ SqL K H1 a (ps.map V.ref) ∧ SqL K H1 b (kvs.map (·.2)) ∧
  Paired (fun p kv => H1 p = some (.tup (kv.1.map kV))) ps kvs ∧ (kvs.map (·.1)).Nodup ∧ ∀ p, H1 p = none → Q (.ref p) (upd H1 p (.dT kvs))
theorem zipKT {H : Hp} : ∀ {ps : List Addr} {kvs : List (List Key × V)} {us : List Value}, Paired (fun p kv => H p = some (.tup (kv.1.map kV))) ps kvs → Vals (kvs.map (·.2)) us →
    ∃ xs : List (List Key × Addr × Value), KT H kvs xs ∧ xs.length = ps.length ∧ us.length = ps.length ∧ kvs.map (·.1) = xs.map (·.1) ∧ ∀ (j : Nat) (x : List Key × Addr × Value), xs[j]? = some x → ps[j]? = some x.2.1 ∧ us[j]? = some x.2.2 ∧ H x.2.1 = some (.tup (x.1.map kV))
  | _, _, _, .nil, r => by cases r; exact ⟨[], .nil, rfl, rfl, rfl, fun j x e => by simp at e⟩
  | _, _, _, .cons (a := p) (b := kv) h t, r => by
    cases r with
    | cons ru rs =>
      rename_i u us
      obtain ⟨xs, r1, r2, r3, r4, r5⟩ := zipKT t rs
      refine ⟨(kv.1, p, u) :: xs, .cons ⟨rfl, h, ru⟩ r1, by simp [r2], by simp [r3], by simp [r4], fun j x e => ?_⟩
      cases j with
      | zero => cases e; exact ⟨rfl, rfl, h⟩
      | succ j =>
        obtain ⟨e1, e2, e3⟩ := r5 j x (by simpa using e)
        exact ⟨by simpa using e1, by simpa using e2, e3⟩
theorem pe_dictZip {K : PySem.W.Frag} {k : Nat} {e1 e2 : Expr} {t : TA} {p1 p2 pos pos' : Pos} (hK : X.K = K) (hc : X.calm = true) (hr : Room k X.A) (hgd : Gl X "dict") (hmd : X.mg "dict" = none) (hgz : Gl X "zip") (hmz : X.mg "zip" = none) (ha : PA X [e1, e2] t)
    (he : starEach [Expr.Call (.Name "zip" p2) [e1, e2] [] pos'] X.env = (false, eval (.Call (.Name "zip" p2) [e1, e2] [] pos') X.env) :: starEach [] X.env := by rfl) (hpl : (backTo pos (starEach [] X.env)).any (·.1) = false := by rfl)
    (he' : starEach [e1, e2] X.env = (false, eval e1 X.env) :: starEach [e2] X.env := by rfl) (hpl' : (backTo pos' (starEach [e2] X.env)).any (·.1) = false := by rfl) :
    PE X (.Call (.Name "dict" p1) [.Call (.Name "zip" p2) [e1, e2] [] pos'] [] pos) (tDZ K t) := by
  subst hK
  refine ⟨fun pins s σ H Q I h => ?_⟩
  refine wpAny_Call_Name_kw (ld_blt I hgd hmd (by decide +kernel : bootBuiltins "dict" = some (.type "dict")) ?_ (by decide) (by decide))
  refine PyProof.Rows.callWith_type1 ?_ he hpl
  rw [he]
  show wpAny _ _ (spliced ((false, eval (.Call (.Name "zip" p2) [e1, e2] [] pos') X.env) :: backTo pos (starEach [] X.env))) _ _ s
  refine Calls.spliced_cons ?_
  refine wpAny_Call_Name_kw (ld_blt I hgz hmz (by decide +kernel : bootBuiltins "zip" = some (.type "zip")) ?_ (by decide) (by decide))
  refine PyProof.Rows.callWith_type1 (thn (ha.run pos' pins s σ H _ I h) fun us s1 z => ?_) he' hpl'
  obtain ⟨vs, H1, I1, r1, q1⟩ := z
  obtain ⟨a, b, ps, kvs, rfl, hla, hlb, hp, nd, q⟩ := q1
  obtain ⟨u1, u2, rfl, ra, rb⟩ := vals2 r1
  cases (show u1 = Value.ref a from ra)
  cases (show u2 = Value.ref b from rb)
  obtain ⟨i1, v1, l1, z1⟩ := I1.list hla
  obtain ⟨i2, v2, l2, z2⟩ := I1.list hlb
  have ei := refs_at v1
  subst ei
  obtain ⟨xs, rel, x1, x2, x3, x4⟩ := zipKT hp v2
  rw [List.length_map] at z1
  refine call_zip_2 l1.isList l2.isList fun h' y1 y2 y3 y4 y5 ysz yk => ?_
  refine Calls.spliced_nil ?_
  generalize hn : s1.heap.objs.size = n at *
  have la : @LT.lt Nat _ a n := by rw [← hn]; obtain ⟨o, _, ho, _⟩ := l1; exact Heap.lt_size ho
  have lb : @LT.lt Nat _ b n := by rw [← hn]; obtain ⟨o, _, ho, _⟩ := l2; exact Heap.lt_size ho
  have D : ZipApart (n + 4) (n + 2) (n + 3) n (n + 1) a b := by constructor <;> first | exact Nat.ne_of_lt (show (_ : Nat) < _ by omega) | exact Nat.ne_of_gt (show (_ : Nat) < _ by omega)
  have PZ := PairArg.zip (prog := X.prog) (w := X.w) (n + 4) (n + 2) (n + 3) n (n + 1) a b D (ps.map Value.ref).toArray i2.toArray
  have hkeep : ∀ b o, s1.heap.get? b = some o → @LT.lt Nat _ b n := fun b o e => by rw [← hn]; exact Heap.lt_size e
  have noIn : ∀ {b : Addr}, @LT.lt Nat _ b n → b ∉ [n + 4, n + 3, n, n + 1] := fun {b} lt hm => by
    simp only [List.mem_cons, List.not_mem_nil, or_false] at hm
    rcases hm with e | e | e | e
    all_goals exact absurd e (Nat.ne_of_lt (show @LT.lt Nat _ _ _ by omega))
  refine call_dict_pairsH (knd := tupleKind (mixKind X.prog X.w)) (ps := xs) (s := { s1 with heap := h' }) PZ (I1.ok.hd hc) (show X.A.in1.in1.units < cLine from ?_) ⟨y1, y2, ⟨_, _, y3⟩, y4, y5, l1.isList.at fun o e => yk _ o e, l2.isList.at fun o e => yk _ o e⟩ ⟨?_, fun i key v e => ?_⟩ (fun h2 hs x hx => ?_) ?_ fun h2 tk hd' hk => ?_
  · show X.A.units + 2 < cLine
    have := hu65 hr; omega
  · simp [x1, x2]
  · obtain ⟨e1, e2⟩ := e
    have hi : i < xs.length := by
      have := (Array.getElem?_eq_some_iff.mp e1).1
      simpa [x1] using this
    obtain ⟨f1, f2, f3⟩ := x4 i xs[i] (List.getElem?_eq_getElem hi)
    have e1' : (ps.map Value.ref)[i]? = some key := by simpa using e1
    have e2' : i2[i]? = some v := by simpa using e2
    rw [List.getElem?_map, f1] at e1'
    rw [f2] at e2'
    cases e1'; cases e2'
    exact ⟨xs[i].1, xs[i].2.1, List.getElem?_eq_getElem hi, rfl⟩
  · obtain ⟨j, hj⟩ := List.getElem?_of_mem hx
    obtain ⟨_, _, hb⟩ := x4 j x hj
    obtain ⟨o, its, m, ho, r⟩ := key_of (P := X.prog) (w := X.w) I1.hok hb
    have lt := hkeep _ _ ho
    exact ⟨o, its, m, hs _ o (Nat.ne_of_lt (show @LT.lt Nat _ x.2.1 h'.objs.size by rw [ysz]; omega)) (noIn lt) (yk _ _ ho), r⟩
  · simp [x2]; exact z1
  · rw [stAll_nodup xs [] (by rw [List.nil_append, ← x3]; exact nd), List.nil_append] at hd'
    have hlt : n ≤ h'.objs.size := by rw [ysz]; omega
    have hm : (h'.objs.size == sysModules) = false := beq_eq_false_iff_ne.mpr (Nat.ne_of_gt (Nat.lt_of_lt_of_le (by have := I1.big; rw [hn] at this; exact this) hlt))
    obtain ⟨o, es, ep, hq, h2', h3, h4, _, h5⟩ := hd'
    have nH : H1 h'.objs.size = none := I1.hok.fresh (by rw [hn]; exact hlt)
    have hlk : kvs.length = xs.length := by have := congrArg List.length x3; simpa using this
    refine ⟨.ref h'.objs.size, upd H1 h'.objs.size (.dT kvs), I1.laid (t' := tk) (fun b o e => ?_) (by rw [hn]; exact hlt) ⟨by rw [hlk, x1]; exact z1, hm, xs, KT.keeps rel fun c ys ec => ?_, o, es, ep, hq, h2', h3, h4, h5⟩, rfl, q _ nH⟩
    · have lt := hkeep _ _ e
      exact hk b o (noIn lt) (yk _ _ e)
    · rw [upd_ne (ne_of_none ec nH)]
      exact ec
theorem k_listDK (hc : X.calm = true) : CallR X (.type "list") rListDK := cr_listDK hc
theorem k_dictPK {K : PySem.W.Frag} (hK : X.K = K) (hc : X.calm = true) : CallR X (.type "dict") (rDictPK K) := hK ▸ call_dictP hc
end
/-! in data -/
section
variable {K : PySem.W.Frag} {ρ : Rho}
theorem RepK.keys {Z : Addr → Prop} {H : Hp} : ∀ {kvs : List (Key × V)} {ds : List (Key × D)}, RepK Z H kvs ds → kvs.map (·.1) = ds.map (·.1)
  | _, _, .nil => rfl
  | _, _, .cons _ t => by simp [RepK.keys t]
theorem RepK.len {Z : Addr → Prop} {H : Hp} {kvs : List (Key × V)} {ds : List (Key × D)} (r : RepK Z H kvs ds) : kvs.length = ds.length := by
  have := congrArg List.length r.keys; simpa using this
theorem RepK.app {Z : Addr → Prop} {H : Hp} : ∀ {a b : List (Key × V)} {c d : List (Key × D)}, RepK Z H a c → RepK Z H b d → RepK Z H (a ++ b) (c ++ d)
  | _, _, _, _, .nil, s => s
  | _, _, _, _, .cons r t, s => .cons r (RepK.app t s)
def putKD (kvs : List (Key × D)) (k : Key) (v : D) : List (Key × D) :=
  if (kvs.any fun kv => decide (kv.1 = k)) = true then kvs.map (fun kv => if kv.1 = k then (kv.1, v) else kv) else kvs ++ [(k, v)]
def mergeD (kvs more : List (Key × D)) : List (Key × D) := more.foldl (fun acc kv => putKD acc kv.1 kv.2) kvs
theorem RepK.repl {Z : Addr → Prop} {H : Hp} {k : Key} {v : V} {d : D} (h : Rep Z H v d) : ∀ {kvs : List (Key × V)} {ds : List (Key × D)}, RepK Z H kvs ds → RepK Z H (kvs.map fun kv => if kv.1 = k then (kv.1, v) else kv) (ds.map fun kv => if kv.1 = k then (kv.1, d) else kv)
  | _, _, .nil => .nil
  | _, _, .cons (k := k') r t => by
    rw [List.map_cons, List.map_cons]
    by_cases e : k' = k
    · rw [if_pos e, if_pos e]; exact .cons h (RepK.repl h t)
    · rw [if_neg e, if_neg e]; exact .cons r (RepK.repl h t)
theorem RepK.put {Z : Addr → Prop} {H : Hp} {k : Key} {v : V} {d : D} {kvs : List (Key × V)} {ds : List (Key × D)} (r : RepK Z H kvs ds) (h : Rep Z H v d) : RepK Z H (putK kvs k v) (putKD ds k d) := by
  have e : (kvs.any fun kv => decide (kv.1 = k)) = ds.any fun kv => decide (kv.1 = k) := by
    have := congrArg (fun l => l.any fun z => decide (z = k)) r.keys
    simp only [List.any_map, Function.comp_def] at this
    exact this
  unfold putK putKD
  rw [e]
  split
  · exact r.repl h
  · exact r.app (.cons h .nil)
theorem RepK.merge {Z : Addr → Prop} {H : Hp} (more : List (Key × V)) : ∀ {es : List (Key × D)} {kvs : List (Key × V)} {ds : List (Key × D)}, RepK Z H more es → RepK Z H kvs ds → RepK Z H (mergeK kvs more) (mergeD ds es) := by
  induction more with
  | nil => intro es kvs ds r s; cases r; exact s
  | cons x more ih =>
    intro es kvs ds r s
    cases r with
    | @cons k v _ d es h t =>
      have := ih t (s.put (k := k) h)
      exact this
theorem RepK.kds {Z : Addr → Prop} {H : Hp} : ∀ {fs : List (Key × V)} {ds : List (Key × D)}, RepK Z H fs ds → Reps Z H (fs.map fun e => kV e.1) (ds.map fun e => kD e.1)
  | _, _, .nil => .nil
  | _, _, .cons (k := .inl i) _ t => .cons (.int i) (RepK.kds t)
  | _, _, .cons (k := .inr s) _ t => .cons (.str s) (RepK.kds t)
theorem rl_listDK {kvs : List (Key × D)} : RLD rListDK [.dK kvs] (.lst (kvs.map fun e => kD e.1)) := fun Z H xs Q k r q => by
  cases r with
  | cons r rn =>
    cases rn
    cases r with
    | dK n h rk =>
      refine ⟨_, _, rfl, h, fun l hl => q _ _ (Ex.new hl) (.lst (k.no hl) upd_same ?_)⟩
      exact rk.kds.mono (Ext.new hl)
theorem rl_dictPK {α : Type} {xs : List α} {kf : α → Key} {vf : α → D} : RLD (rDictPK K) [.lst (xs.map fun x => .tup [kD (kf x), vf x])] (.dK (mergeD [] (xs.map fun x => (kf x, vf x)))) := fun Z H vs Q k r q => by
  cases r with
  | cons r rn =>
    cases rn
    cases r with
    | lst n h rs =>
      have main : ∀ (xs : List α) (vs : List V), Reps Z H vs (xs.map fun x => .tup [kD (kf x), vf x]) → ∃ (ps : List Addr) (kvs : List (Key × V)), vs = ps.map V.ref ∧ Paired (fun p kv => SqT K H p [kV kv.1, kv.2]) ps kvs ∧ RepK Z H kvs (xs.map fun x => (kf x, vf x)) := fun xs => by
        induction xs with
        | nil => intro vs r; cases r; exact ⟨[], [], rfl, .nil, .nil⟩
        | cons x xs ih =>
          intro vs r
          cases r with
          | cons r rs =>
            obtain ⟨ps, kvs, e1, e2, e4⟩ := ih _ rs
            cases r with
            | tup n h r =>
              cases r with
              | cons ra r => cases r with
                | cons rb r =>
                  cases r
                  have ek : ∀ {v : V} {kk : Key}, Rep Z H v (kD kk) → v = kV kk := fun {v kk} r => by
                    cases kk with
                    | inl i => cases r; rfl
                    | inr s => cases r; rfl
                  have := ek ra
                  subst this
                  exact ⟨_ :: ps, (kf x, _) :: kvs, by rw [e1]; rfl, .cons (.inl (.inl h)) e2, .cons rb e4⟩
      obtain ⟨ps, kvs, e1, e2, e4⟩ := main xs _ rs
      subst e1
      exact ⟨_, ps, kvs, rfl, .inl (.inl h), e2, fun p hp => q _ _ (Ex.new hp) (.dK (k.no hp) (.inl upd_same) ((RepK.merge _ e4 .nil).mono (Ext.new hp)))⟩
/-- dict(zip(rows, values)) -/
theorem ev_dictZip {α : Type} {xs : List α} {kf : α → List Key} {vf : α → D} {ta : TA} (h : EvA ta ρ [.lst (xs.map fun x => tK (kf x)), .lst (xs.map vf)]) (nd : (xs.map kf).Nodup) : Ev (tDZ K ta) ρ (.dT (xs.map fun x => (kf x, vf x))) := fun Z σ H Q k s q =>
  h Z σ H _ k s fun vs H1 x1 r1 => by
    cases r1 with
    | cons ra r1 => cases r1 with
      | cons rb r1 =>
        cases r1
        cases ra with
        | lst n1 h1 rs1 => cases rb with
          | lst n2 h2 rs2 =>
            have main : ∀ (xs : List α) (vs us : List V), Reps Z H1 vs (xs.map fun x => tK (kf x)) → Reps Z H1 us (xs.map vf) → ∃ (ps : List Addr) (kvs : List (List Key × V)), vs = ps.map V.ref ∧ us = kvs.map (·.2) ∧ Paired (fun p kv => H1 p = some (.tup (kv.1.map kV))) ps kvs ∧ kvs.map (·.1) = xs.map kf ∧ RepT Z H1 kvs (xs.map fun x => (kf x, vf x)) := fun xs => by
              induction xs with
              | nil => intro vs us r r'; cases r; cases r'; exact ⟨[], [], rfl, rfl, .nil, rfl, .nil⟩
              | cons x xs ih =>
                intro vs us r r'
                cases r with
                | cons r rs => cases r' with
                  | cons r' rs' =>
                    obtain ⟨ps, kvs, e1, e2, e3, e4, e5⟩ := ih _ _ rs rs'
                    cases r with
                    | tup n h rk =>
                      have := repK_of rk
                      subst this
                      exact ⟨_ :: ps, (kf x, _) :: kvs, by rw [e1]; rfl, by rw [e2]; rfl, .cons h e3, by simp [e4], .cons r' e5⟩
            obtain ⟨ps, kvs, e1, e2, e3, e4, e5⟩ := main xs _ _ rs1 rs2
            subst e1; subst e2
            exact ⟨_, _, ps, kvs, rfl, .inl (.inl h1), .inl (.inl h2), e3, by rw [e4]; exact nd, fun p hp => q _ _ (x1.tr (Ex.new hp)) (.dT ((k.ex x1).no hp) (.inl upd_same) (e5.mono (Ext.new hp)))⟩
end
/-! owned dicts with text keys -/
section
variable {ρ : Rho} {μ : Mu} {ta tb te : TE} {Φ : D → Mu → Prop} {N : Rho → Mu → Prop} {R : D → Mu → Prop} {ts us : TS}
theorem Mem.dKs {Z : Addr → Prop} {H : Hp} {μ : Mu} (m : Mem Z H μ) {k : Nat} {a : Addr} {ds : List (Key × D)} (h : μ[k]? = some (a, .dK ds)) : Z a ∧ ∃ fs, H a = some (.dK fs) ∧ RepK Z H fs ds := by
  obtain ⟨z, c⟩ := m.get h
  cases c with
  | dK h r => exact ⟨z, _, h, r⟩
theorem gs_ownK {i : Nat} (h : ∀ a, ¬ dom μ a → GS us (ρ.set i (some (.ptr a))) ((a, .dK []) :: μ) (fun ρ' μ' => ∃ μ'', DropA a μ' μ'' ∧ N ρ' μ'') (fun d μ' => ∃ μ'', DropA a μ' μ'' ∧ R d μ'')) : GS (tSeq (tAsg tDNewK (gName i)) us) ρ μ N R := fun Z σ H E k s m n r => by
  intro a ha
  have nz : ¬ Z a := k.no ha
  have hz : ∀ b, (Z b ∨ b = a) → Z b ∨ H b = none := fun b z => z.imp id fun (e : b = a) => by rw [e]; exact ha
  refine h a (fun h => nz (m.dz h)) (fun b => Z b ∨ b = a) _ _ E (k.add rfl) (((s.zs hz).mono (Ext.new ha)).set i (.ptr a)) (m.ownC ha (.dK upd_same .nil)) (fun σ' H' ρ' μ' Z' q z s' => ?_) fun v H' d μ' Z' q z r' => ?_
  · obtain ⟨μ'', hd, q⟩ := q
    exact n σ' H' ρ' μ'' _ q (Nz.own ha nz m z hd) (s'.zs fun b h => .inl h.1)
  · obtain ⟨μ'', hd, q⟩ := q
    exact r v H' d μ'' _ q (Nz.own ha nz m z hd) (r'.zs fun b h => .inl h.1)
theorem ge_updK {K : PySem.W.Frag} {ta : TA} (h : GE te ρ μ fun d μ1 => ∃ (a : Addr) (k : Nat) (x : List (Key × D)), d = .ptr a ∧ μ1[k]? = some (a, .dK x) ∧ GEA ta ρ μ1 fun es μ2 => ∃ (ds zs : List (Key × D)), es = [.dK zs] ∧ μ2[k]? = some (a, .dK ds) ∧ ds.length + zs.length ≤ 100000 ∧ Φ .non (μ2.set k (a, .dK (mergeD ds zs)))) : GE (tBM K "dict" rUpdK te ta) ρ μ Φ := fun Z σ H Q k s m c =>
  h Z σ H _ k s m fun x H1 d μ1 g n1 r1 => by
    obtain ⟨a, k0, x0, rfl, hk0, g⟩ := g
    obtain ⟨za, ws, hv, rs⟩ := n1.mem.dKs hk0
    cases r1
    refine ⟨.inr (.inr (.inl ⟨rfl, .inl ⟨ws, hv⟩⟩)), g Z σ H1 _ (n1.ok k) (s.mono (n1.to m)) n1.mem fun xs H2 es μ2 q n2 r2 => ?_⟩
    obtain ⟨ds, zs, rfl, hk, hz, q⟩ := q
    cases r2 with
    | cons r2 r3 =>
      cases r3
      obtain ⟨za2, vs2, hv2, rs2⟩ := n2.mem.dKs hk
      cases r2 with
      | dK nb hb rb =>
        have xm : ∀ u, Ext Z H2 (upd H2 a u) := fun u => (Ext.rf H2).mut za2
        refine ⟨a, _, vs2, _, rfl, rfl, fun e => nb (e ▸ za2), hv2, hb, by rw [rs2.len, rb.len]; exact hz, c _ _ _ _ q ((n1.tr n2).tr (.putC n2.mem hk (.dK upd_same ((RepK.merge _ rb rs2).mono (xm _))))) .non⟩
theorem gs_freezeK {i : Nat} {a : Addr} {ds : List (Key × D)} (hi : ρ[i]? = some (some (.ptr a))) (h : GS ts (ρ.set i (some (.dK ds))) μ N R) : GS ts ρ ((a, .dK ds) :: μ) N R := fun Z σ H E k s m n r => by
  have nd : ¬ dom μ a := by have := m.nd; rw [List.map_cons] at this; exact (List.nodup_cons.mp this).1
  obtain ⟨za, vs, hv, rs⟩ := m.dKs (k := 0) rfl
  have hz : ∀ b, (Z b ∧ b ≠ a) → Z b ∨ H b = none := fun b h => .inl h.1
  obtain ⟨v, hs, hr⟩ := s.2 i _ hi
  cases hr
  have s' : SRep (fun b => Z b ∧ b ≠ a) H σ (ρ.set i (some (.dK ds))) := by
    have := (s.zs hz).set i (Rep.dK (a := a) (fun h => h.2 rfl) (.inl hv) (rs.zs hz))
    have e : σ.set i (some (.ref a)) = σ := by
      apply List.ext_getElem?
      intro j
      rw [List.getElem?_set]
      by_cases hj : i = j
      · subst hj
        rw [if_pos rfl, hs, if_pos (List.getElem?_eq_some_iff.mp hs).1]
      · rw [if_neg hj]
    rwa [e] at this
  have m' : Mem (fun b => Z b ∧ b ≠ a) H μ := ⟨fun p hp => by
    obtain ⟨z1, c1⟩ := m.cs p (List.mem_cons_of_mem _ hp)
    exact ⟨⟨z1, fun e => nd (e ▸ List.mem_map.mpr ⟨p, hp, rfl⟩)⟩, c1.zs fun b h => h.1⟩, by have := m.nd; rw [List.map_cons] at this; exact (List.nodup_cons.mp this).2⟩
  have up : ∀ {Z' : Addr → Prop} {H' : Hp} {μ' : Mu}, Nz (fun b => Z b ∧ b ≠ a) H μ Z' H' μ' → Nz Z H ((a, .dK ds) :: μ) Z' H' μ' := fun z => ⟨z.ext.wk fun b h => List.mem_cons_of_mem _ h, fun b h => List.mem_cons_of_mem _ (z.dm b h), z.mem, z.ok, fun b h => by
    by_cases e : b = a
    · subst e; exact ⟨_, z.ext b _ nd hv, rfl⟩
    · exact z.ok0 b ⟨h, e⟩, fun b h => (z.zs b h).1, fun b h => by
    by_cases e : b = a
    · subst e; exact .inr ⟨List.mem_cons_self, fun h => nd (z.dm b h)⟩
    · rcases z.zk b ⟨h, e⟩ with h | ⟨h1, h2⟩
      · exact .inl h
      · exact .inr ⟨List.mem_cons_of_mem _ h1, h2⟩⟩
  exact h _ σ H E (fun b h => k b h.1) s' m' (fun σ' H' ρ' μ' Z' q z s' => n σ' H' ρ' μ' Z' q (up z) s') fun v H' d μ' Z' q z r' => r v H' d μ' Z' q (up z) r'
end
end Du
namespace Du
open PySem L2
/-! dicts whose keys are tuples of tuples, in data -/
abbrev hN (w : World) : NestedKey → Int := fun k => k.hash w
mutual
theorem nkV_of {Z : Addr → Prop} {H : Hp} : ∀ (k : NestedKey) {v : V}, Rep Z H v (nkD k) → NkV H k v
  | .none, _, r => by unfold nkD at r; cases r; exact .non
  | .num i, _, r => by unfold nkD at r; cases r; exact .int i
  | .text s, _, r => by unfold nkD at r; cases r; exact .str s
  | .tup ks, _, r => by
    unfold nkD at r
    cases r with
    | tup n h rs => exact .tup h (nkVs_of ks rs)
theorem nkVs_of {Z : Addr → Prop} {H : Hp} : ∀ (ks : List NestedKey) {vs : List V}, Reps Z H vs (nkDs ks) → NkVs H ks vs
  | [], _, r => by unfold nkDs at r; cases r; exact .nil
  | k :: ks, _, r => by
    unfold nkDs at r
    cases r with
    | cons r rs => exact .cons (nkV_of k r) (nkVs_of ks rs)
end
theorem RepN.keysOk {Z : Addr → Prop} {H : Hp} : ∀ {es : NEs} {ds : List (NestedKey × D)}, RepN Z H es ds → NKeys H es
  | _, _, .nil => fun e he => nomatch he
  | _, _, .cons (k := k) (b := b) (v := v) hk hd r t => fun e he => by
    rcases List.mem_cons.mp he with rfl | he
    · exact ⟨nkV_of k hk, hd⟩
    · exact RepN.keysOk t e he
theorem RepN.val {Z : Addr → Prop} {H : Hp} {k : NestedKey} : ∀ {es : NEs} {ds : List (NestedKey × D)}, RepN Z H es ds → (∀ {d : D}, valD ds k = some d → ∃ v, nval es k = some v ∧ Rep Z H v d) ∧ (valD ds k = none → nval es k = none)
  | _, _, .nil => ⟨fun h => by simp [valD] at h, fun _ => rfl⟩
  | _, _, .cons (k := k') (v := v) (d := d') hk hd r t => by
    obtain ⟨h1, h2⟩ := RepN.val (k := k) t
    by_cases e : k' = k
    · refine ⟨fun {d} h => ?_, fun h => ?_⟩
      · have : d' = d := by simpa [valD, e] using h
        subst this
        exact ⟨v, by simp [nval, e], r⟩
      · simp [valD, e] at h
    · refine ⟨fun {d} h => ?_, fun h => ?_⟩
      · obtain ⟨w, h3, h4⟩ := h1 (d := d) (by simpa [valD, e] using h)
        exact ⟨w, by simpa [nval, e] using h3, h4⟩
      · have := h2 (by simpa [valD, e] using h)
        simpa [nval, e] using this
theorem RepN.isSome {Z : Addr → Prop} {H : Hp} {es : NEs} {ds : List (NestedKey × D)} (r : RepN Z H es ds) (k : NestedKey) : (nval es k).isSome = (valD ds k).isSome := by
  obtain ⟨h1, h2⟩ := r.val (k := k)
  cases h : valD ds k with
  | none => rw [h2 h]; rfl
  | some d => obtain ⟨v, e, _⟩ := h1 h; rw [e]; rfl
theorem RepN.len {Z : Addr → Prop} {H : Hp} : ∀ {es : NEs} {ds : List (NestedKey × D)}, RepN Z H es ds → es.length = ds.length
  | _, _, .nil => rfl
  | _, _, .cons _ _ _ t => by simp [RepN.len t]
theorem RepN.any {Z : Addr → Prop} {H : Hp} {k : NestedKey} : ∀ {es : NEs} {ds : List (NestedKey × D)}, RepN Z H es ds → (es.any fun e => decide (e.1 = k)) = ds.any fun e => decide (e.1 = k)
  | _, _, .nil => rfl
  | _, _, .cons _ _ _ t => by rw [List.any_cons, List.any_cons, RepN.any t]
def putG {κ : Type} [DecidableEq κ] (kvs : List (κ × D)) (k : κ) (v : D) : List (κ × D) :=
  if (kvs.any fun kv => decide (kv.1 = k)) = true then kvs.map (fun kv => if kv.1 = k then (kv.1, v) else kv) else kvs ++ [(k, v)]
theorem RepN.repl {Z : Addr → Prop} {H : Hp} {k : NestedKey} {v : V} {d : D} (h : Rep Z H v d) : ∀ {es : NEs} {ds : List (NestedKey × D)}, RepN Z H es ds → RepN Z H (es.map fun e => if e.1 = k then (e.1, e.2.1, v) else e) (ds.map fun kv => if kv.1 = k then (kv.1, d) else kv)
  | _, _, .nil => .nil
  | _, _, .cons (k := k') hk hd r t => by
    rw [List.map_cons, List.map_cons]
    by_cases e : k' = k
    · rw [if_pos e, if_pos e]; exact .cons hk hd h (RepN.repl h t)
    · rw [if_neg e, if_neg e]; exact .cons hk hd r (RepN.repl h t)
theorem RepN.app {Z : Addr → Prop} {H : Hp} : ∀ {a b : NEs} {c d : List (NestedKey × D)}, RepN Z H a c → RepN Z H b d → RepN Z H (a ++ b) (c ++ d)
  | _, _, _, _, .nil, s => s
  | _, _, _, _, .cons hk hd r t, s => .cons hk hd r (RepN.app t s)
theorem RepN.put {Z : Addr → Prop} {H : Hp} {k : NestedKey} {b : Addr} {v : V} {d : D} {es : NEs} {ds : List (NestedKey × D)} (r : RepN Z H es ds) (hk : Rep Z H (.ref b) (nkD k)) (hd : k.depth ≤ 8) (h : Rep Z H v d) : RepN Z H (nput es k b v) (putG ds k d) := by
  unfold nput putG
  rw [r.any]
  split
  · exact r.repl h
  · exact r.app (.cons hk hd h .nil)
theorem RepT.repl {Z : Addr → Prop} {H : Hp} {k : List Key} {v : V} {d : D} (h : Rep Z H v d) : ∀ {es : List (List Key × V)} {ds : List (List Key × D)}, RepT Z H es ds → RepT Z H (es.map fun e => if e.1 = k then (e.1, v) else e) (ds.map fun kv => if kv.1 = k then (kv.1, d) else kv)
  | _, _, .nil => .nil
  | _, _, .cons (k := k') r t => by
    rw [List.map_cons, List.map_cons]
    by_cases e : k' = k
    · rw [if_pos e, if_pos e]; exact .cons h (RepT.repl h t)
    · rw [if_neg e, if_neg e]; exact .cons r (RepT.repl h t)
theorem RepT.put {Z : Addr → Prop} {H : Hp} {k : List Key} {v : V} {d : D} {es : List (List Key × V)} {ds : List (List Key × D)} (r : RepT Z H es ds) (h : Rep Z H v d) : RepT Z H (putK es k v) (putG ds k d) := by
  have e : (es.any fun kv => decide (kv.1 = k)) = ds.any fun kv => decide (kv.1 = k) := by
    have := congrArg (fun l => l.any fun z => decide (z = k)) r.keys
    simp only [List.any_map, Function.comp_def] at this
    exact this
  unfold putK putG
  rw [e]
  split
  · exact r.repl h
  · exact r.app (.cons h .nil)
section
variable {ρ : Rho} {μ : Mu} {w : World} {ta tb te td ty tv : TE} {Φ : D → Mu → Prop} {N : Rho → Mu → Prop} {R : D → Mu → Prop} {ts us : TS} {kvs : List (NestedKey × D)} {k : NestedKey} {ks : List NestedKey} {z c c1 c2 : D}
theorem ev_nget (hd : Ev td ρ (.dN (hN w) kvs)) (hk : Ev ty ρ (nkD (.tup ks))) (hdp : (NestedKey.tup ks).depth ≤ 8) (hv : valD kvs (.tup ks) = some z) : Ev (tNGet w td ty) ρ z := fun Z σ H Q ok s q =>
  hd Z σ H _ ok s fun x H1 x1 r1 => hk Z σ H1 _ (ok.ex x1) (s.mono x1.to) fun y H2 x2 r2 => by
    cases r1.mono (x2.to (Z := Z)) with
    | dN n h rs =>
      obtain ⟨v, e1, e2⟩ := rs.val.1 hv
      have hy : ∃ b, y = .ref b := by unfold nkD at r2; cases r2; exact ⟨_, rfl⟩
      obtain ⟨b, rfl⟩ := hy
      exact ⟨v, ⟨_, b, _, _, _, rfl, rfl, h, rs.keysOk, nkV_of _ r2, hdp, e1.symm⟩, q v H2 (x1.tr x2) e2⟩
theorem ev_nin (hk : Ev ty ρ (nkD (.tup ks))) (hd : Ev td ρ (.dN (hN w) kvs)) (hdp : (NestedKey.tup ks).depth ≤ 8) : Ev (tNIn w ty td) ρ (.bl (valD kvs (.tup ks)).isSome) := fun Z σ H Q ok s q =>
  hk Z σ H _ ok s fun y H1 x1 r1 => hd Z σ H1 _ (ok.ex x1) (s.mono x1.to) fun x H2 x2 r2 => by
    cases r2 with
    | dN n h rs =>
      have hy : ∃ b, y = .ref b := by unfold nkD at r1; cases r1; exact ⟨_, rfl⟩
      obtain ⟨b, rfl⟩ := hy
      refine ⟨_, ⟨_, b, _, _, _, rfl, rfl, h, rs.keysOk, nkV_of _ (r1.mono (x2.to (Z := Z))), hdp, rfl⟩, ?_⟩
      rw [rs.isSome]
      exact q _ H2 (x1.tr x2) (.bl _)
theorem Mem.dNs {Z : Addr → Prop} {H : Hp} {μ : Mu} (m : Mem Z H μ) {j : Nat} {a : Addr} {hf : NestedKey → Int} {ds : List (NestedKey × D)} (h : μ[j]? = some (a, .dN hf ds)) : Z a ∧ ∃ es ob, H a = some (NDO hf a es ob) ∧ RepN Z H es ds := by
  obtain ⟨z, c⟩ := m.get h
  cases c with
  | dN h r => exact ⟨z, _, _, h, r⟩
theorem Mem.dTs {Z : Addr → Prop} {H : Hp} {μ : Mu} (m : Mem Z H μ) {j : Nat} {a : Addr} {ds : List (List Key × D)} (h : μ[j]? = some (a, .dT ds)) : Z a ∧ ∃ es, H a = some (.dT es) ∧ RepT Z H es ds := by
  obtain ⟨z, c⟩ := m.get h
  cases c with
  | dT h r => exact ⟨z, _, h, r⟩
/-- d[k] of an owned dict -/
theorem ge_nget (h : GE td ρ μ fun d μ1 => GE ty ρ μ1 fun e μ2 => ∃ (a : Addr) (j : Nat) (kvs : List (NestedKey × D)) (ks : List NestedKey) (z : D), d = .ptr a ∧ e = nkD (.tup ks) ∧ μ2[j]? = some (a, .dN (hN w) kvs) ∧ (NestedKey.tup ks).depth ≤ 8 ∧ valD kvs (.tup ks) = some z ∧ Φ z μ2) : GE (tNGet w td ty) ρ μ Φ := fun Z σ H Q k s m c =>
  h Z σ H _ k s m fun x H1 d μ1 g n1 r1 => g Z σ H1 _ (n1.ok k) (s.mono (n1.to m)) n1.mem fun y H2 e μ2 q n2 r2 => by
    obtain ⟨a, j, kvs, ks, z, rfl, rfl, hj, hdp, hv, q⟩ := q
    cases r1
    obtain ⟨za, es, ob, he, rs⟩ := n2.mem.dNs hj
    obtain ⟨v, e1, e2⟩ := rs.val.1 hv
    have hy : ∃ b, y = .ref b := by unfold nkD at r2; cases r2; exact ⟨_, rfl⟩
    obtain ⟨b, rfl⟩ := hy
    exact ⟨v, ⟨_, b, _, _, _, rfl, rfl, he, rs.keysOk, nkV_of _ r2, hdp, e1.symm⟩, c v H2 z μ2 q (n1.tr n2) e2⟩
theorem ge_nin (h : GE ty ρ μ fun e μ1 => GE td ρ μ1 fun d μ2 => ∃ (a : Addr) (j : Nat) (kvs : List (NestedKey × D)) (ks : List NestedKey), d = .ptr a ∧ e = nkD (.tup ks) ∧ μ2[j]? = some (a, .dN (hN w) kvs) ∧ (NestedKey.tup ks).depth ≤ 8 ∧ Φ (.bl (valD kvs (.tup ks)).isSome) μ2) : GE (tNIn w ty td) ρ μ Φ := fun Z σ H Q k s m c =>
  h Z σ H _ k s m fun y H1 e μ1 g n1 r1 => g Z σ H1 _ (n1.ok k) (s.mono (n1.to m)) n1.mem fun x H2 d μ2 q n2 r2 => by
    obtain ⟨a, j, kvs, ks, rfl, rfl, hj, hdp, q⟩ := q
    cases r2
    obtain ⟨za, es, ob, he, rs⟩ := n2.mem.dNs hj
    have hy : ∃ b, y = .ref b := by unfold nkD at r1; cases r1; exact ⟨_, rfl⟩
    obtain ⟨b, rfl⟩ := hy
    refine ⟨_, ⟨_, b, _, _, _, rfl, rfl, he, rs.keysOk, nkV_of _ (r1.mono (n2.to n1.mem)), hdp, rfl⟩, ?_⟩
    rw [rs.isSome]
    exact c _ H2 _ μ2 q (n1.tr n2) (.bl _)
theorem gs_nput (h : GE tv ρ μ fun v μ1 => GE td ρ μ1 fun d μ2 => GE ty ρ μ2 fun e μ3 => ∃ (a : Addr) (j : Nat) (kvs : List (NestedKey × D)) (ks : List NestedKey), d = .ptr a ∧ e = nkD (.tup ks) ∧ μ3[j]? = some (a, .dN (hN w) kvs) ∧ (NestedKey.tup ks).depth ≤ 8 ∧ kvs.length < 100000 ∧ N ρ (μ3.set j (a, .dN (hN w) (putG kvs (.tup ks) v)))) : GS (sNPut w td ty tv) ρ μ N R := fun Z σ H E k s m n r =>
  h Z σ H _ k s m fun v H1 dv μ1 g n1 r1 => g Z σ H1 _ (n1.ok k) (s.mono (n1.to m)) n1.mem fun x H2 d μ2 g n2 r2 => g Z σ H2 _ (n2.ok (n1.ok k)) ((s.mono (n1.to m)).mono (n2.to n1.mem)) n2.mem fun y H3 e μ3 g n3 r3 => by
    obtain ⟨a, j, kvs, ks, rfl, rfl, hj, hdp, hz, q⟩ := g
    cases r2
    obtain ⟨za, es, ob, he, rs⟩ := n3.mem.dNs hj
    have hy : ∃ b, y = .ref b := by unfold nkD at r3; cases r3; exact ⟨_, rfl⟩
    obtain ⟨b, rfl⟩ := hy
    have nn := (n1.tr n2).tr n3
    have r1' := (r1.mono (n2.to n1.mem)).mono (n3.to n2.mem)
    have xm : ∀ u, Ext Z H3 (upd H3 a u) := fun u => (Ext.rf H3).mut za
    have n4 : ∀ o', Nxt Z H3 μ3 (upd H3 a (NDO (hN w) a (nput es (.tup ks) b v) o')) (μ3.set j (a, .dN (hN w) (putG kvs (.tup ks) dv))) := fun o' => .putC n3.mem hj (.dN upd_same ((rs.put r3 hdp r1').mono (xm _)))
    exact ⟨a, b, es, .tup ks, ob, rfl, rfl, he, rs.keysOk, nkV_of _ r3, hdp, Nat.lt_of_lt_of_le (by rw [rs.len]; exact hz) (by decide), fun o' => n _ _ ρ _ Z q ((nn.tr (n4 o')).nz k) ((s.mono (nn.to m)).mono ((n4 o').to n3.mem))⟩
/-- d[k] = v of an owned dict with tuple keys -/
theorem gs_tput (h : GE tv ρ μ fun v μ1 => GE td ρ μ1 fun d μ2 => GE ty ρ μ2 fun e μ3 => ∃ (a : Addr) (j : Nat) (kvs : List (List Key × D)) (ks : List Key), d = .ptr a ∧ e = tK ks ∧ μ3[j]? = some (a, .dT kvs) ∧ kvs.length < 100000 ∧ N ρ (μ3.set j (a, .dT (putG kvs ks v)))) : GS (sDPut td ty tv) ρ μ N R := fun Z σ H E k s m n r =>
  h Z σ H _ k s m fun v H1 dv μ1 g n1 r1 => g Z σ H1 _ (n1.ok k) (s.mono (n1.to m)) n1.mem fun x H2 d μ2 g n2 r2 => g Z σ H2 _ (n2.ok (n1.ok k)) ((s.mono (n1.to m)).mono (n2.to n1.mem)) n2.mem fun y H3 e μ3 g n3 r3 => by
    obtain ⟨a, j, kvs, ks, rfl, rfl, hj, hz, q⟩ := g
    cases r2
    obtain ⟨za, es, he, rs⟩ := n3.mem.dTs hj
    have nn := (n1.tr n2).tr n3
    have r1' := (r1.mono (n2.to n1.mem)).mono (n3.to n2.mem)
    have xm : ∀ u, Ext Z H3 (upd H3 a u) := fun u => (Ext.rf H3).mut za
    cases r3 with
    | tup nb hb rb =>
      have n4 : Nxt Z H3 μ3 (upd H3 a (.dT (putK es ks v))) (μ3.set j (a, .dT (putG kvs ks dv))) := .putC n3.mem hj (.dT upd_same ((rs.put r1').mono (xm _)))
      exact ⟨a, _, rfl, .inr ⟨es, ks, _, he, rfl, by rw [hb, repK_of rb], Nat.lt_of_lt_of_le (by rw [rs.len]; exact hz) (by decide), rfl⟩, n _ _ ρ _ Z q ((nn.tr n4).nz k) ((s.mono (nn.to m)).mono (n4.to n3.mem))⟩
/-! new things, owned -/
def EvF (te : TE) (ρ : Rho) (c : D) : Prop := ∀ (Z : Addr → Prop) (σ : L2.St) (H : Hp) (Q : VK), okZ Z H → SRep Z H σ ρ → (∀ a H1 o, Ex H H1 → H1 a = none → isTup o = false → Cont (fun b => Z b ∨ b = a) (upd H1 a o) a c → Q (.ref a) (upd H1 a o)) → te σ H Q
theorem ef_lst {ta : TA} {ds : List D} (h : EvA ta ρ ds) (hz : ds.length ≤ 100000) : EvF (tLst ta) ρ (.lst ds) := fun Z σ H Q k s q =>
  h Z σ H _ k s fun vs H1 x1 r1 => ⟨Nat.le_trans (by rw [r1.len]; exact hz) (by decide), fun p hp => q p H1 _ x1 hp rfl (.lst upd_same ((r1.zs fun b z => z.imp id fun (e : b = p) => by rw [e]; exact hp).mono (Ext.new hp)))⟩
theorem ef_nil : EvF (tLst tNil) ρ (.lst []) := ef_lst ev_nil (by decide)
theorem ef_dN : EvF (tDNewN w) ρ (.dN (hN w) []) := fun Z σ H Q k s q => fun p o hp => q p H _ (Ex.rf H) hp rfl (.dN upd_same .nil)
theorem ef_dT : EvF tDNewT ρ (.dT []) := fun Z σ H Q k s q => fun p hp => q p H _ (Ex.rf H) hp rfl (.dT upd_same .nil)
theorem ef_dK : EvF tDNewK ρ (.dK []) := fun Z σ H Q k s q => fun p hp => q p H _ (Ex.rf H) hp rfl (.dK upd_same .nil)
theorem gs_ownF {i : Nat} (h : EvF te ρ c) (hs : ∀ a, ¬ dom μ a → GS us (ρ.set i (some (.ptr a))) ((a, c) :: μ) (fun ρ' μ' => ∃ μ'', DropA a μ' μ'' ∧ N ρ' μ'') (fun d μ' => ∃ μ'', DropA a μ' μ'' ∧ R d μ'')) : GS (tSeq (tAsg te (gName i)) us) ρ μ N R := fun Z σ H E k s m n r =>
  h Z σ H _ k s fun a H1 o x1 ha ho hc => by
    have k1 := k.ex x1
    have m1 := m.ex x1
    have nz : ¬ Z a := k1.no ha
    have hz : ∀ b, (Z b ∨ b = a) → Z b ∨ H1 b = none := fun b z => z.imp id fun (e : b = a) => by rw [e]; exact ha
    refine hs a (fun h => nz (m1.dz h)) (fun b => Z b ∨ b = a) _ _ E (k1.add ho) ((((s.mono (x1.to (Z := Z))).zs hz).mono (Ext.new ha)).set i (.ptr a)) (m1.ownC ha hc) (fun σ' H' ρ' μ' Z' q z s' => ?_) fun v H' d μ' Z' q z r' => ?_
    · obtain ⟨μ'', hd, q⟩ := q
      exact n σ' H' ρ' μ'' _ q (((Nxt.exs m x1).nz k).tr (Nz.own ha nz m1 z hd)) (s'.zs fun b h => .inl h.1)
    · obtain ⟨μ'', hd, q⟩ := q
      exact r v H' d μ'' _ q (((Nxt.exs m x1).nz k).tr (Nz.own ha nz m1 z hd)) (r'.zs fun b h => .inl h.1)
theorem gs_ownF2 {i j : Nat} (hij : i ≠ j) (h1 : EvF ta ρ c1) (h2 : EvF tb ρ c2) (hs : ∀ a b, a ≠ b → ¬ dom μ a → ¬ dom μ b → GS us ((ρ.set i (some (.ptr a))).set j (some (.ptr b))) ((b, c2) :: (a, c1) :: μ) (fun ρ' μ' => ∃ μ1 μ2, DropA b μ' μ1 ∧ DropA a μ1 μ2 ∧ N ρ' μ2) (fun d μ' => ∃ μ1 μ2, DropA b μ' μ1 ∧ DropA a μ1 μ2 ∧ R d μ2)) :
    GS (tSeq (tPar i j (tCons ta (tCons tb tNil))) us) ρ μ N R := fun Z σ H E k s m n r =>
  h1 Z σ H _ k s fun a H1 o x1 ha ho hc => by
    have k1 := k.ex x1
    have m1 := m.ex x1
    have nza : ¬ Z a := k1.no ha
    have hza : ∀ c, (Z c ∨ c = a) → Z c ∨ H1 c = none := fun c z => z.imp id fun (e : c = a) => by rw [e]; exact ha
    have ka : okZ (fun c => Z c ∨ c = a) (upd H1 a o) := k1.add ho
    have ma := m1.ownC ha hc
    have sa : SRep (fun c => Z c ∨ c = a) (upd H1 a o) σ ρ := ((s.mono (x1.to (Z := Z))).zs hza).mono (Ext.new ha)
    refine h2 (fun c => Z c ∨ c = a) σ (upd H1 a o) _ ka sa fun b H2 o2 x2 hb ho2 hc2 => ⟨_, _, rfl, ?_⟩
    have k2 := ka.ex x2
    have m2 := ma.ex x2
    have hb1 : (upd H1 a o) b = none := x2.free hb
    have ne : b ≠ a := fun e => by rw [e, upd_same] at hb1; cases hb1
    have nzb : ¬ (Z b ∨ b = a) := k2.no hb
    have hzb : ∀ c, ((Z c ∨ c = a) ∨ c = b) → (Z c ∨ c = a) ∨ H2 c = none := fun c z => z.imp id fun (e : c = b) => by rw [e]; exact hb
    have mb := m2.ownC hb hc2
    have sb := ((((sa.mono (x2.to (Z := fun c => Z c ∨ c = a))).zs hzb).mono (Ext.new (o := o2) hb)).set i (.ptr a)).set j (.ptr b)
    have zx : Nz (fun c => Z c ∨ c = a) (upd H1 a o) ((a, c1) :: μ) (fun c => Z c ∨ c = a) H2 ((a, c1) :: μ) := (Nxt.exs ma x2).nz ka
    refine hs a b ne.symm (fun h => nza (m1.dz h)) (fun h => nzb (.inl (m1.dz h))) _ _ _ E (k2.add ho2) sb mb (fun σ' H' ρ' μ' Z' q z s' => ?_) fun v H' d μ' Z' q z r' => ?_
    · obtain ⟨μ1, μ2, d1, d2, q⟩ := q
      have z1 := zx.tr (Nz.own hb nzb m2 z d1)
      have z2 := Nz.own ha nza m1 z1 d2
      exact n σ' H' ρ' μ2 _ q (((Nxt.exs m x1).nz k).tr z2) (s'.zs fun c h => .inl h.1.1)
    · obtain ⟨μ1, μ2, d1, d2, q⟩ := q
      have z1 := zx.tr (Nz.own hb nzb m2 z d1)
      have z2 := Nz.own ha nza m1 z1 d2
      exact r v H' d μ2 _ q (((Nxt.exs m x1).nz k).tr z2) (r'.zs fun c h => .inl h.1.1)
def isTab : D → Bool
  | .str _ => true
  | _ => false
theorem Cont.rep {Z Z' : Addr → Prop} {H : Hp} {a : Addr} {c : D} (h : Cont Z H a c) (ht : isTab c = false) (na : ¬ Z' a) (hz : ∀ b, Z' b → Z b) : Rep Z' H (.ref a) c := by
  cases h with
  | lst h r => exact .lst na h (r.zs fun b z => .inl (hz b z))
  | ins h r => exact .ins na h (r.zs fun b z => .inl (hz b z))
  | dK h r => exact .dK na (.inl h) (r.zs fun b z => .inl (hz b z))
  | dT h r => exact .dT na (.inl h) (r.zs fun b z => .inl (hz b z))
  | dN h r => exact .dN na h (r.zs fun b z => .inl (hz b z))
  | tbl h t r => cases ht
/-- an owned thing, wherever it stands among them, is data from now on -/
theorem gs_freezeG {i : Nat} {a : Addr} {μ1 μ2 : Mu} (hi : ρ[i]? = some (some (.ptr a))) (h : GS ts (ρ.set i (some c)) (μ1 ++ μ2) N R) (ht : isTab c = false := by rfl) : GS ts ρ (μ1 ++ (a, c) :: μ2) N R := fun Z σ H E k s m n r => by
  have hmem : (a, c) ∈ μ1 ++ (a, c) :: μ2 := List.mem_append_right _ List.mem_cons_self
  have nd0 := m.nd
  rw [List.map_append, List.map_cons] at nd0
  have nd : ¬ dom (μ1 ++ μ2) a := fun hd => by
    unfold dom at hd
    rw [List.map_append, List.mem_append] at hd
    rcases hd with hd | hd
    · exact (List.nodup_append.mp nd0).2.2 a hd a List.mem_cons_self rfl
    · exact (List.nodup_cons.mp (List.nodup_append.mp nd0).2.1).1 hd
  obtain ⟨za, hc⟩ := m.cs _ hmem
  obtain ⟨ho, hv, hi1⟩ := hc.is
  have hz : ∀ b, (Z b ∧ b ≠ a) → Z b ∨ H b = none := fun b h => .inl h.1
  obtain ⟨v, hs, hr⟩ := s.2 i _ hi
  cases hr
  have s' : SRep (fun b => Z b ∧ b ≠ a) H σ (ρ.set i (some c)) := by
    have := (s.zs hz).set i (hc.rep (Z' := fun b => Z b ∧ b ≠ a) ht (fun h => h.2 rfl) fun b h => h.1)
    have e : σ.set i (some (.ref a)) = σ := by
      apply List.ext_getElem?
      intro j
      rw [List.getElem?_set]
      by_cases hj : i = j
      · subst hj
        rw [if_pos rfl, hs, if_pos (List.getElem?_eq_some_iff.mp hs).1]
      · rw [if_neg hj]
    rwa [e] at this
  have sub : ∀ p ∈ μ1 ++ μ2, p ∈ μ1 ++ (a, c) :: μ2 := fun p hp => by
    rcases List.mem_append.mp hp with h | h
    · exact List.mem_append_left _ h
    · exact List.mem_append_right _ (List.mem_cons_of_mem _ h)
  have subd : ∀ b, dom (μ1 ++ μ2) b → dom (μ1 ++ (a, c) :: μ2) b := fun b hb => by
    obtain ⟨p, hp, rfl⟩ := List.mem_map.mp hb
    exact List.mem_map.mpr ⟨p, sub p hp, rfl⟩
  have m' : Mem (fun b => Z b ∧ b ≠ a) H (μ1 ++ μ2) := ⟨fun p hp => by
    obtain ⟨z1, c1⟩ := m.cs p (sub p hp)
    exact ⟨⟨z1, fun e => nd (e ▸ List.mem_map.mpr ⟨p, hp, rfl⟩)⟩, c1.zs fun b h => h.1⟩, by
      rw [List.map_append]
      obtain ⟨q1, q2, q3⟩ := List.nodup_append.mp nd0
      exact List.nodup_append.mpr ⟨q1, (List.nodup_cons.mp q2).2, fun x hx y hy => q3 x hx y (List.mem_cons_of_mem _ hy)⟩⟩
  have up : ∀ {Z' : Addr → Prop} {H' : Hp} {μ' : Mu}, Nz (fun b => Z b ∧ b ≠ a) H (μ1 ++ μ2) Z' H' μ' → Nz Z H (μ1 ++ (a, c) :: μ2) Z' H' μ' := fun z => ⟨z.ext.wk subd, fun b h => subd b (z.dm b h), z.mem, z.ok, fun b h => by
    by_cases e : b = a
    · subst e; exact ⟨_, z.ext b _ nd hv, hi1⟩
    · exact z.ok0 b ⟨h, e⟩, fun b h => (z.zs b h).1, fun b h => by
    by_cases e : b = a
    · subst e; exact .inr ⟨List.mem_map.mpr ⟨_, hmem, rfl⟩, fun h => nd (z.dm b h)⟩
    · rcases z.zk b ⟨h, e⟩ with h | ⟨h1, h2⟩
      · exact .inl h
      · exact .inr ⟨subd b h1, h2⟩⟩
  exact h _ σ H E (fun b h => k b h.1) s' m' (fun σ' H' ρ' μ' Z' q z s' => n σ' H' ρ' μ' Z' q (up z) s') fun v H' d μ' Z' q z r' => r v H' d μ' Z' q (up z) r'
end
end Du
namespace Du
open PySem L2 PySem.Spec PyProof.Rows
section
variable {P : Program} {w : World} {A : Around} {E : Value → Shared → Prop} {s : Shared} {a : Addr} {L : List Str}
theorem call_set_txtT {l : Addr} {items : Array Value} (xs : List Str) {Q : Value → Shared → Prop} (hh : A.handled = none) (hl : s.heap.IsTuple l items) (hit : StrsAre items.toList xs) (hfew : xs.length + 1 < scanBound)
    (h : ∀ (h' : Heap) (tk : Nat), TxtSet w h' s.heap.objs.size (addAll [] xs) → (∀ b o, s.heap.get? b = some o → h'.get? b = some o) → Q (.ref s.heap.objs.size) { s with heap := h', toks := tk }) :
    wpAny (model P w) A (call (.type "set") [.ref l]) Q E s := by
  have hisz : items.size = xs.length := by rw [← Array.length_toList]; exact StrsAre.len_eq hit
  obtain ⟨c, tl, hmro⟩ := F.called_set.mro
  have hmade := F.called_set.made
  have hsub := F.called_set.sub
  refine wpAny_call (codeAny_of_tree ?_)
  show wpAny _ _ (callAny (.type "set") _) _ _ _
  refine wpAny_pure ⟨Code.quiet_builtin _ (by decide +kernel), codeAny_builtin F.entry_type_call ?_⟩
  rw [Around.under_plain (weight_type_call_type "set" [.ref l] []) rfl]
  have h1 := F.called_set.notType
  have h2 := F.called_set.canCreate
  have hct := F.typeCall_set_1 (.ref l)
  repeat (any_goals (first | assumption | wp_step))
  refine codeAny_mono (code_set_led1 (.ref l) (E := E) (Q₁ := fun obj s₁ => obj = .ref s.heap.objs.size ∧ s₁ = { s with heap := s.heap.push (freshSet w) }) ⟨rfl, rfl⟩) fun r s₁ hr => ?_
  cases r with
  | error e => exact hr
  | ok fl =>
    cases fl with
    | ret obj =>
      obtain ⟨rfl, rfl⟩ := hr
      have hS : (s.heap.push (freshSet w)).get? s.heap.objs.size = some (freshSet w) := Heap.get?_push_size _ rfl
      have hT : Shared.TypeIs { s with heap := s.heap.push (freshSet w) } (.ref s.heap.objs.size) "set" := ⟨_, hS, rfl⟩
      have hli := F.called_set.init.lookup
      have hbi := F.called_set.init.bind (.ref s.heap.objs.size)
      repeat (any_goals (first | assumption | wp_step))
      refine codeAny_mono (codeAny_call_builtin (R := wants (fun r s₂ => r = .none ∧ ∃ h' tk, s₂ = { s with heap := h', toks := tk } ∧ TxtSet w h' s.heap.objs.size (addAll [] xs) ∧
          (∀ b o, s.heap.get? b = some o → h'.get? b = some o)) E) F.called_set.init.plain F.entry_set_init (check_set_init_1 hT ?_)) fun r₂ s₂ hr₂ => ?_
      · obtain ⟨ol, hol, hcl, nl, hdl⟩ := hl
        obtain ⟨ocls, odict, odata, oslots⟩ := ol
        simp only at hcl hdl
        subst hcl; subst hdl
        have hol' : (s.heap.push (freshSet w)).get? l = some { cls := .type "tuple", dict := odict, data := .seq items nl, slots := oslots } := Heap.get?_push_of_some _ hol
        have hsls := F.sub_tuple_set
        have hslf := F.sub_tuple_frozenset
        have hne : (Value.type "tuple" == Value.type "dict") = false := by decide
        have hl1 : (s.heap.push (freshSet w)).IsTuple l items := ⟨_, hol', rfl, nl, rfl⟩
        unfold Builtin.«set.__init__» noKeywords Builtin.Frozenset.updateFrom
        generalize hPI : pyIter = PI
        wp_walk
        subst hPI
        refine wpAny_pyIter_tuple hl1 ?_
        refine wpAny_bind (wpAny_runValue ?_)
        have lS : l < s.heap.objs.size := Heap.lt_size hol
        have h3 : A.in1.in1.in1.handled = none := by simp [hh]
        have neI : l ≠ (s.heap.push (freshSet w)).objs.size := by
          rw [Heap.size_push]; exact Nat.ne_of_lt (Nat.lt_succ_of_lt lS)
        have nf : s.heap.objs.size ∉ [(s.heap.push (freshSet w)).objs.size, l] := by
          rw [Heap.size_push]; simp only [List.mem_cons, List.mem_singleton, List.not_mem_nil, or_false, not_or]
          exact ⟨Nat.ne_of_lt (Nat.lt_succ_self _), Nat.ne_of_gt lS⟩
        have hval : ∀ (i : Nat) (v : Value), items[i]? = some v → ∃ x tk, xs[i]? = some x ∧ v = .str x tk := fun i v hv => by
          have q : items.toList[i]? = some v := by rw [Array.getElem?_toList]; exact hv
          obtain ⟨tk, e⟩ := SS.strs_at hit i v q
          have hi : i < xs.length := by
            have := (Array.getElem?_eq_some_iff.mp hv).1
            omega
          exact ⟨_, tk, by rw [List.getD_eq_getElem?_getD, List.getElem?_eq_getElem hi]; rfl, e⟩
        refine txt_loop ((Walks.tuple h3 _ l neI items).toS) s.heap.objs.size nf xs hisz hfew hval (items.size - 0) 0 _ [] (by omega) (Nat.zero_le _)
          ⟨⟨_, Heap.get?_push_size _ rfl, rfl, rfl⟩, (hl1.push _)⟩ (txt_fresh (Heap.get?_push_of_some _ hS)) (Nat.le_refl _) fun s' hm hS' => ?_
        obtain ⟨h', g', d', tk', os'⟩ := s'
        have eg : g' = s.gens := hm.gens
        have ed : d' = s.drawn := hm.drawn
        have eo : os' = s.os := hm.os
        subst eg; subst ed; subst eo
        show wpAny _ _ _ _ _ _
        refine wpAny_pure ?_
        show wpAny _ _ (ret Value.none) _ _ _
        refine wpAny_pure ⟨rfl, h', tk', rfl, hS', fun b o e => ?_⟩
        have hb := Heap.lt_size e
        have b1 : b ≠ s.heap.objs.size := Nat.ne_of_lt hb
        have b2 : b ≠ (s.heap.push (freshSet w)).objs.size := by
          rw [Heap.size_push]; exact Nat.ne_of_lt (Nat.lt_succ_of_lt hb)
        exact hm.heap b o (by simp only [List.mem_cons, List.mem_singleton, List.not_mem_nil, or_false, not_or]; exact ⟨b1, b2⟩) (Heap.get?_push_of_some _ (Heap.get?_push_of_some _ e))
      · cases r₂ with
        | error e => exact hr₂
        | ok fl₂ =>
          cases fl₂ with
          | ret r =>
            obtain ⟨rfl, h', tk, rfl, hS', hk'⟩ := hr₂
            repeat (any_goals (first | assumption | wp_step))
            exact h _ _ hS' hk'
          | _ => exact hr₂.elim
    | _ => exact hr.elim
end
section
variable {X : Cx} {K : PySem.W.Frag} {w : World}
def rSetTxtT (K : PySem.W.Frag) (w : World) : List V → Hp → VK → Prop := fun xs H Q => ∃ (a : Addr) (ys : List Str), xs = [V.ref a] ∧ SqT K H a (ys.map V.str) ∧ ys.length + 1 < scanBound ∧ ∀ p, H p = none → Q (.ref p) (upd H p (TxtO w p (addAll [] ys)))
theorem cr_setTxtT (hc : X.calm = true) : CallR X (.type "set") (rSetTxtT X.K X.w) := by
  intro pins s σ H vs us Q I r h
  obtain ⟨a, ys, rfl, hs, hf, q⟩ := h
  obtain ⟨its, rv, hl, _⟩ := I.tuple hs
  rw [Vals.ref1 r]
  refine call_set_txtT ys (I.ok.hd hc) hl (by simpa using rv.strs) hf fun h' tk hS hk => ?_
  have hn := I.hok.fresh (Nat.le_refl s.heap.objs.size)
  obtain ⟨o, _, _, _, ho, _⟩ := id hS
  exact ⟨.ref _, upd H s.heap.objs.size (TxtO X.w s.heap.objs.size (addAll [] ys)), I.laid (t' := tk) hk (Nat.le_refl _) (show ObjOk X.prog X.w _ h' s.heap.objs.size (TxtO X.w s.heap.objs.size (addAll [] ys)) from ⟨hS, ⟨o, ho⟩, fun h1 h2 p k => p.at k⟩), rfl, q _ hn⟩
/-- set(xs), a list or a tuple -/
def rSetTxtU (K : PySem.W.Frag) (w : World) : List V → Hp → VK → Prop := fun xs H Q => rSetTxt K w xs H Q ∨ rSetTxtT K w xs H Q
theorem k_setTxtU (hK : X.K = K) (hw : X.w = w) (hc : X.calm = true) : CallR X (.type "set") (rSetTxtU K w) := by
  subst hK; subst hw
  exact fun pins s σ H xs us Q I r q => q.elim (cr_setTxt hc pins s σ H xs us Q I r) (cr_setTxtT hc pins s σ H xs us Q I r)
def rLenTxt (w : World) : List V → Hp → VK → Prop := fun vs H Q => ∃ (a : Addr) (L : List Str), vs = [V.ref a] ∧ H a = some (TxtO w a L) ∧ Q (.int (L.length : Nat)) H
theorem k_lenTxt (hw : X.w = w) : CallR X (.builtin "len") (rLenTxt w) := by
  subst hw
  intro pins s σ H vs us Q I r h
  obtain ⟨a, L, rfl, ha, q⟩ := h
  obtain ⟨o, es, ep, t, ho, hex, hd, g, pl, nd, hb, hf, hr⟩ := (I.hok a _ ha).1
  rw [Vals.ref1 r]
  have hl : es.size = L.length := by rw [← pl.length_eq, List.length_map, Array.length_toList]
  refine call_len_set ho hex hd hf (by have : scanBound ≤ 2 ^ 62 := by decide
                                       omega) ⟨.int (L.length : Nat), H, I.tok _, ⟨_, by rw [← hl]⟩, q⟩
theorem ev_lenSetL {ρ : Rho} {te : TE} {ss : List Str} (h : Ev te ρ (.lst (ss.map D.str))) (hz : ss.length < 64) : Ev (tCB (rLenTxt w) (tCons (tCB (rSetTxtU K w) (tCons te tNil)) tNil)) ρ (.int ((addAll [] ss).length : Nat)) := fun Z σ H Q k s q =>
  h Z σ H _ k s fun v H1 x1 r1 => by
    cases r1 with
    | lst n h1 rs =>
      have := Reps.strs rs
      subst this
      exact .inl ⟨_, ss, rfl, .inl (.inl h1), Nat.lt_of_lt_of_le (by omega : ss.length + 1 < 66) (by decide), fun p hp => ⟨p, _, rfl, upd_same, q _ _ (x1.tr (Ex.new hp)) (.int _)⟩⟩
theorem ev_lenSetT {ρ : Rho} {te : TE} {ss : List Str} (h : Ev te ρ (.tup (ss.map D.str))) (hz : ss.length < 64) : Ev (tCB (rLenTxt w) (tCons (tCB (rSetTxtU K w) (tCons te tNil)) tNil)) ρ (.int ((addAll [] ss).length : Nat)) := fun Z σ H Q k s q =>
  h Z σ H _ k s fun v H1 x1 r1 => by
    cases r1 with
    | tup n h1 rs =>
      have := Reps.strs rs
      subst this
      exact .inr ⟨_, ss, rfl, .inl (.inl h1), Nat.lt_of_lt_of_le (by omega : ss.length + 1 < 66) (by decide), fun p hp => ⟨p, _, rfl, upd_same, q _ _ (x1.tr (Ex.new hp)) (.int _)⟩⟩
end
end Du
namespace Du
open PySem L2 PySem.Spec PyProof.Rows
/-! enumerate(t), t a tuple -/
abbrev tupIt (t : Addr) : Obj := { cls := .type "tuple_iterator", data := .fields #[.ref t, .int 0 0] }
abbrev enmOb (it : Addr) : Obj := { cls := .type "enumerate", data := .fields #[.none, .bool false, .ref it, rawInt 0, .none, .none] }
theorem meets_enumT (t : Addr) (items : Array Value) (m : Nat) (dct : Option Addr) (sl : Array (Option Value)) :
    Meets (Builtin.«enumerate.__new__» ⟨[.type "enumerate", .ref t], []⟩) (fun _ R s => s.heap.get? t = some { cls := .type "tuple", dict := dct, data := .seq items m, slots := sl } ∧
      R (.ok (.ret (.ref (s.heap.push (tupIt t)).objs.size))) { s with heap := (s.heap.push (tupIt t)).push (enmOb s.heap.objs.size) }) :=
  .of_wp fun prog w A R s hh => by
    obtain ⟨hp, g, d, tk, os⟩ := s
    obtain ⟨hl, h⟩ := hh
    have hsub := sub_enumerate
    have hL : Heap.IsTuple (Shared.heap ⟨hp, g, d, tk, os⟩) t items := ⟨_, hl, rfl, m, rfl⟩
    wp_walk
    refine wpAny_stack_any fun st => wpAny_pure ?_
    split
    · rename_i c _ _ _ _ _
      cases (c == Value.type "enumerate")
      · wp_walk using wpAny_pyIter_tuple hL
        exact ⟨_, rfl, h⟩
      · wp_walk using wpAny_pyIter_tuple hL
        exact ⟨_, rfl, h⟩
    · wp_walk using wpAny_pyIter_tuple hL
      exact ⟨_, rfl, h⟩
section
variable {prog : Program} {w : World} {A : Around} {E : Value → Shared → Prop} {s : Shared}
theorem call_enumT {t : Addr} {items : Array Value} {Q : Value → Shared → Prop} (hL : s.heap.IsTuple t items)
    (h : ∀ h', IsEnum h' (s.heap.objs.size + 1) s.heap.objs.size 0 .none → h'.IsTupleIter s.heap.objs.size t 0 → h'.objs.size = s.heap.objs.size + 2 → (∀ b o, s.heap.get? b = some o → h'.get? b = some o) → Q (.ref (s.heap.objs.size + 1)) { s with heap := h' }) :
    wpAny (model prog w) A (call (.type "enumerate") [.ref t]) Q E s := by
  obtain ⟨⟨c, dct, dt, sl⟩, hl, hc, m, hd⟩ := hL
  replace hc : c = .type "tuple" := hc
  replace hd : dt = .seq items m := hd
  subst hc hd
  refine callType_new F.called_enumerate (by decide) (F.typeCall_enumerate_1 _) (F.newCall_enumerate_1 _) (fun obj => F.args_object_init_2 obj _) F.entry_enumerate_new (meets_enumT t items m dct sl) ⟨hl, ?_⟩
  have hz : (s.heap.push (tupIt t)).objs.size = s.heap.objs.size + 1 := Heap.size_push ..
  show _ ∧ _
  rw [hz]
  have he : IsEnum ((s.heap.push (tupIt t)).push (enmOb s.heap.objs.size)) (s.heap.objs.size + 1) s.heap.objs.size 0 .none := by
    have := Heap.get?_push_size (s.heap.push (tupIt t)) (o := enmOb s.heap.objs.size) rfl
    rw [hz] at this; exact this
  exact ⟨⟨_, he, rfl⟩, h _ he ⟨_, Heap.get?_push_of_some _ (Heap.get?_push_size _ rfl), rfl, rfl⟩ (by rw [Heap.size_push, hz]) fun b o x => Heap.get?_push_of_some _ (Heap.get?_push_of_some _ x)⟩
theorem enumT_end {e it l : Addr} {i : Nat} {items : Array Value} {old : Value} {Q : Option Value → Shared → Prop} (hh : A.handled = none) (he : IsEnum s.heap e it i old) (hit : s.heap.IsTupleIter it l i) (hl : s.heap.IsTuple l items) (hx : items[i]? = none)
    (hQ : ∀ h', Heap.ExtBut it s.heap h' → Q none { s with heap := h' }) : wpAny (model prog w) A (pyNext (.ref e)) Q E s := by
  have ty : s.TypeIs (.ref e) "enumerate" := ⟨_, he, rfl⟩
  unfold pyNext
  refine wpAny_bind (wpAny_attempt (wpAny_callSpecial?_slot (name := Str.ofString "__next__") ty F.slot_enumerate_next (wpAny_call_entry F.slot_enumerate_next ty F.entry_enumerate_next ?_ (F.args_enumerate_next_1 _))))
  show wpAny _ _ (field (.ref e) 2 >>= _) _ _ _
  refine wpAny_bind (wpAny_field he rfl (x := .ref it) rfl (wpAny_bind (wpAny_nextOf_tuple_end hh hit hl hx fun h' x he' hx' => ?_)))
  obtain ⟨o, ho, hc⟩ := hx'
  exact wpAny_bind (wpAny_isInstance (T := "StopIteration") (b := true) ⟨o, ho, hc⟩ isSubtype_stop (wpAny_pure (hQ _ he')))
end
/-- the tuple at a, each item in a new pair -/
def IteT (K : PySem.W.Frag) (a : Addr) : It :=
  ⟨fun i H => ∃ (xs : List V) (x : V), SqT K H a xs ∧ xs[i]? = some x, fun i H v H' => ∃ T x, v = .ref T ∧ H T = none ∧ H' = upd H T (.tup [.int (i : Nat), x]) ∧ ∀ xs, SqT K H a xs → xs[i]? = some x, fun i H => ∃ xs : List V, SqT K H a xs ∧ xs.length ≤ i⟩
theorem turn_enumT {P : Program} {w : World} {K : PySem.W.Frag} {elts : List Expr} {kk : Nat} {tpos : Pos} (a e it : Addr) :
    Turn P w K (.Tuple elts kk tpos) (IteT K a) [e, it] e (fun i h => (∃ old, IsEnum h e it ((i : Nat) : Int) old) ∧ h.IsTupleIter it a i ∧ e ≠ it ∧ a ≠ it ∧ e ≠ a) where
  mem := by simp
  obj := fun i h st b hb => by
    obtain ⟨⟨old, he⟩, ⟨o, ho, hc, hd⟩, _⟩ := st
    have e' : b = e ∨ b = it := by simpa using hb
    rcases e' with z | z
    · rw [z]; exact ⟨_, he, fun v q => nomatch q⟩
    · rw [z]; exact ⟨o, ho, fun v q => by rw [hd] at q; cases q⟩
  keep := fun i h h' st k => let ⟨⟨old, he⟩, hi, hne⟩ := st; ⟨⟨old, k e (by simp) _ he⟩, hi.at fun o q => k it (by simp) o q, hne⟩
  item := by
    intro X hP hw hK hc i pins s σ H E I hf st hg
    subst hP hw hK
    obtain ⟨⟨old, he⟩, hit, hne, hai, hea⟩ := st
    obtain ⟨xs, x, hq, hx⟩ := hg
    obtain ⟨its, rv, p, hz⟩ := I.tuple hq
    obtain ⟨u, hu, ru⟩ := rv.get hx
    have hel : e < s.heap.objs.size := Heap.lt_size he
    have hil : it < s.heap.objs.size := by obtain ⟨_, q, _⟩ := hit; exact Heap.lt_size q
    have hlt : i < its.toArray.size := by
      have := (List.getElem?_eq_some_iff.mp hu).1
      simpa using this
    refine wpAny_pyNext_enum_itemC (Draws.tuple (A := X.A.in1) (I.ok.hd hc) it a hai its.toArray) he ⟨hit, p⟩ hlt hne (by simp [hne, hea]) fun y h' tk hy ho hst hT hsz hk => ?_
    have ey : y = u := by
      have : its[i]? = some y := by simpa using hy
      rw [hu] at this; exact (Option.some.inj this).symm
    subst ey
    refine ⟨_, rfl, wpAny_letOwnedTupleGo_enum (s := { s with heap := h', toks := tk + 1 }) ho fun h'' he' sb => ?_⟩
    have hT2 : h''.get? s.heap.objs.size = some { cls := .type "tuple", data := .seq #[.int i tk, y] } := (sb.2 _ (Nat.ne_of_gt hel)).trans hT
    have new : ObjOk X.prog X.w (upd H s.heap.objs.size (.tup [.int (i : Nat), x])) h'' s.heap.objs.size (.tup [.int (i : Nat), x]) :=
      ⟨by show 2 ≤ sizeLine; decide, [.int i tk, y], .cons ⟨_, rfl⟩ (.cons ru .nil), ⟨_, hT2, rfl, _, rfl⟩⟩
    have I1 : Inv X pins σ (upd H s.heap.objs.size (.tup [.int (i : Nat), x])) { s with heap := h'', toks := tk + 1 } :=
      I.turnedNew (ch := [e, it]) (fun b ob hb q => (sb.2 b (fun z => hb (by simp [z]))).trans (hk b ob (fun z => hb (by simp [z])) (fun z => hb (by simp [z])) q)) hf (Nat.le_refl _) new
    refine ⟨.ref s.heap.objs.size, _, I1, rfl, ⟨_, x, rfl, I.hok.fresh (Nat.le_refl _), rfl, fun ys hy => by rw [I.tuple_inj hy hq]; exact hx⟩, ⟨⟨y, ?_⟩, hst.1.at fun o q => (sb.2 it (Ne.symm hne)).trans q, hne, hai, hea⟩, fun b hb => ?_⟩
    · have e1 : ((i + 1 : Nat) : Int) = (i : Int) + 1 := by omega
      rw [e1]; exact he'
    · have hb' : b < s.heap.objs.size := by
        have e' : b = e ∨ b = it := by simpa using hb
        rcases e' with z | z
        · rw [z]; exact hel
        · rw [z]; exact hil
      rw [upd_ne (Nat.ne_of_lt hb')]
      exact (hf b hb).1
  done := by
    intro X hP hw hK hc i pins s σ H E I hf st hg
    subst hP hw hK
    obtain ⟨⟨old, he⟩, hit, hne, hai, hea⟩ := st
    obtain ⟨xs, hq, hx⟩ := hg
    obtain ⟨its, rv, p, hz⟩ := I.tuple hq
    obtain ⟨f0, f1, f2, f3, f4, f5⟩ := hf it (by simp)
    have hl := rv.length
    refine enumT_end (I.ok.hd hc) he hit p (by simp; omega) fun h' eb => ⟨rfl, I.turned (t' := s.toks) (fun b o hb q => eb b o hb q) f0 f1 f3 f4 f5⟩
  self := fun A i s Q E st h => let ⟨⟨_, he⟩, _⟩ := st; wpAny_pyIter_enum he h
theorem walk_enumT {K : PySem.W.Frag} {a : Addr} {xs : List V} : Walk (IteT K a) xs.length (fun H => SqT K H a xs) (YPair (fun i => some (.int (i : Nat))) (fun i => xs[i]?)) := by
  refine ⟨fun i _ hi q => ⟨xs, xs[i], q, by simp [hi]⟩, fun _ q => ⟨xs, q, Nat.le_refl _⟩, fun i H v H' _ q y => ?_⟩
  obtain ⟨T, x, h1, h2, h3, h4⟩ := y
  exact ⟨T, .int (i : Nat), x, h1, h2, h3, rfl, h4 xs q⟩
def iEnumA (K : PySem.W.Frag) (ta : TA) : TI := fun σ H R => ta σ H fun vs H1 => ∃ a xs, vs = [.ref a] ∧ ((SqL K H1 a xs ∧ R (Ite K a) H1) ∨ (SqT K H1 a xs ∧ R (IteT K a) H1))
theorem pi_enumA {X : Cx} {K : PySem.W.Frag} {e : Expr} {ta : TA} {p pos tpos : Pos} {elts : List Expr} {kk : Nat} (hK : X.K = K) (hg : Gl X "enumerate") (hm : X.mg "enumerate" = none) (ha : PA X [e] ta) (hs : starEach [e] X.env = [(false, eval e X.env)] := by rfl) :
    PI X (.Tuple elts kk tpos) (.Call (.Name "enumerate" p) [e] [] pos) (iEnumA K ta) := by
  subst hK
  refine ⟨fun pins s σ H R I h => ?_⟩
  refine Call_ (ld_blt I hg hm boot_enumerate (PyProof.Rows.callWith_type1 (thn (ha.run pos pins s σ H _ I h) fun us s1 z => ?_) hs rfl))
  obtain ⟨vs, H1, I1, r1, q1⟩ := z
  obtain ⟨a, xs, ex, q⟩ := q1
  subst ex
  cases r1 with
  | cons r rr =>
    cases rr
    cases r
    have fp : ∀ b, b ∈ [s1.heap.objs.size + 1, s1.heap.objs.size] → FpOk X pins H1 b := fun b hb => by
      have e' : b = s1.heap.objs.size + 1 ∨ b = s1.heap.objs.size := by simpa using hb
      have hle : s1.heap.objs.size ≤ b := by
        rcases e' with z | z
        · rw [z]; exact Nat.le_add_right _ _
        · rw [z]; exact Nat.le_refl _
      exact I1.fpOk hle (I1.hok.fresh hle)
    rcases q with ⟨hq, q⟩ | ⟨hq, q⟩
    · obtain ⟨its, rv, p', hz⟩ := I1.list hq
      refine call_enumerate_list p'.isList fun h' he hit hsz hk => wpAny_pyIter_enum he ?_
      have I2 : Inv X pins σ H1 { s1 with heap := h' } := I1.kept (t' := s1.toks) hk
      exact ⟨s1.heap.objs.size + 1, [s1.heap.objs.size + 1, s1.heap.objs.size], _, _, H1, rfl, I2, turn_enum a (s1.heap.objs.size + 1) s1.heap.objs.size, ⟨⟨.none, he⟩, hit, Nat.succ_ne_self _⟩, fp, q⟩
    · obtain ⟨its, rv, p', hz⟩ := I1.tuple hq
      refine call_enumT p' fun h' he hit hsz hk => wpAny_pyIter_enum he ?_
      have I2 : Inv X pins σ H1 { s1 with heap := h' } := I1.kept (t' := s1.toks) hk
      have la : @LT.lt Nat _ a s1.heap.objs.size := by obtain ⟨o, ho, _⟩ := p'; exact Heap.lt_size ho
      exact ⟨s1.heap.objs.size + 1, [s1.heap.objs.size + 1, s1.heap.objs.size], _, _, H1, rfl, I2, turn_enumT a (s1.heap.objs.size + 1) s1.heap.objs.size, ⟨⟨.none, he⟩, hit, Nat.succ_ne_self _, Nat.ne_of_lt la, Nat.ne_of_gt (Nat.lt_succ_of_lt la)⟩, fp, q⟩
section
variable {ρ : Rho} {ds : List D}
theorem ei_enumL {K : PySem.W.Frag} {ta : TA} (h : EvA ta ρ [.lst ds]) : EvI (iEnumA K ta) ρ (ds.zipIdx.map fun p => D.tup [.int p.2, p.1]) := fun Z σ H R k s q =>
  h Z σ H _ k s fun vs H1 x1 r1 => by
    cases r1 with
    | cons r r1 =>
      cases r1
      cases r with
      | lst n h1 rs =>
        refine ⟨_, _, rfl, .inl ⟨.inl (.inl h1), q _ H1 x1 fun Z' hz => ?_⟩⟩
        have nz : ¬ Z' _ := fun z => (hz _ z).elim n fun e => by rw [h1] at e; cases e
        rw [List.length_map, List.length_zipIdx, ← rs.len]
        refine walk_enum.mono (fun H g => .inl (.inl (g.1.exact nz h1))) fun i Hc x H' hi g y => ?_
        obtain ⟨T, a, b, rfl, hT, rfl, e1, e2⟩ := y
        cases e1
        obtain ⟨d, e3, e4⟩ := (rs.zs hz).getV e2
        refine ⟨Ex.new hT, .tup [.int i, d], ?_, .tup (g.2.no hT) upd_same (.cons (.int _) (.cons (e4.mono (g.1.tr (Ext.new hT))) .nil))⟩
        rw [List.getElem?_map, List.getElem?_zipIdx, e3]
        simp
theorem ei_enumT {K : PySem.W.Frag} {ta : TA} (h : EvA ta ρ [.tup ds]) : EvI (iEnumA K ta) ρ (ds.zipIdx.map fun p => D.tup [.int p.2, p.1]) := fun Z σ H R k s q =>
  h Z σ H _ k s fun vs H1 x1 r1 => by
    cases r1 with
    | cons r r1 =>
      cases r1
      cases r with
      | tup n h1 rs =>
        refine ⟨_, _, rfl, .inr ⟨.inl (.inl h1), q _ H1 x1 fun Z' hz => ?_⟩⟩
        have nz : ¬ Z' _ := fun z => (hz _ z).elim n fun e => by rw [h1] at e; cases e
        rw [List.length_map, List.length_zipIdx, ← rs.len]
        refine walk_enumT.mono (fun H g => .inl (.inl (g.1.exact nz h1))) fun i Hc x H' hi g y => ?_
        obtain ⟨T, a, b, rfl, hT, rfl, e1, e2⟩ := y
        cases e1
        obtain ⟨d, e3, e4⟩ := (rs.zs hz).getV e2
        refine ⟨Ex.new hT, .tup [.int i, d], ?_, .tup (g.2.no hT) upd_same (.cons (.int _) (.cons (e4.mono (g.1.tr (Ext.new hT))) .nil))⟩
        rw [List.getElem?_map, List.getElem?_zipIdx, e3]
        simp
end
end Du
namespace Du
open PySem L2
section
variable {ρ : Rho} {μ : Mu} {w : World} {ta tb te td ty tv : TE} {Φ : D → Mu → Prop} {N : Rho → Mu → Prop} {R : D → Mu → Prop} {ts us : TS} {d z c : D} {ds es : List D}
/-! extend -/
theorem ge_extend {K : PySem.W.Frag} {ta : TA} (h : GE te ρ μ fun d μ1 => ∃ (a : Addr) (k : Nat) (x : List D), d = .ptr a ∧ μ1[k]? = some (a, .lst x) ∧ GEA ta ρ μ1 fun es μ2 => ∃ (ds zs : List D), es = [.lst zs] ∧ μ2[k]? = some (a, .lst ds) ∧ ds.length + zs.length ≤ 100000 ∧ Φ .non (μ2.set k (a, .lst (ds ++ zs)))) : GE (tBM K "list" rExtend te ta) ρ μ Φ := fun Z σ H Q k s m c =>
  h Z σ H _ k s m fun x H1 d μ1 g n1 r1 => by
    obtain ⟨a, k0, x0, rfl, hk0, g⟩ := g
    obtain ⟨za, ws, hv, rs⟩ := n1.mem.lst hk0
    cases r1
    refine ⟨.inl ⟨rfl, ws, .inl (.inl hv)⟩, g Z σ H1 _ (n1.ok k) (s.mono (n1.to m)) n1.mem fun xs H2 es μ2 q n2 r2 => ?_⟩
    obtain ⟨ds, zs, rfl, hk, hz, q⟩ := q
    cases r2 with
    | cons r2 r3 =>
      cases r3
      obtain ⟨_, vs2, hv2, rs2⟩ := n2.mem.lst hk
      cases r2 with
      | lst nb hb rb =>
        exact ⟨a, _, vs2, _, rfl, rfl, hv2, hb, Nat.le_trans (by rw [rs2.len, rb.len]; exact hz) (by decide), c _ _ _ _ q ((n1.tr n2).tr (.put n2.mem hk (rs2.app rb))) .non⟩
/-! zip of tuples -/
theorem walk_zipT {K : PySem.W.Frag} {a b : Addr} {xs ys : List V} {n : Nat} (hn : n = min xs.length ys.length) : Walk (RZ.ItzT K a b) n (fun H => SqT K H a xs ∧ SqT K H b ys) (YPair (fun i => xs[i]?) (fun i => ys[i]?)) := by
  subst hn
  refine ⟨fun i _ hi q => ?_, fun _ q => ⟨xs, ys, q.1, q.2, by omega⟩, fun i H v H' _ q y => ?_⟩
  · have h1 : i < xs.length := by omega
    have h2 : i < ys.length := by omega
    exact ⟨xs, ys, xs[i], ys[i], q.1, q.2, by simp [h1], by simp [h2]⟩
  · obtain ⟨T, x, z, h1, h2, h3, h4, h5⟩ := y
    exact ⟨T, x, z, h1, h2, h3, h4 xs q.1, h5 ys q.2⟩
theorem ei_zipT {K : PySem.W.Frag} {ta : TA} (h : EvA ta ρ [.tup ds, .tup es]) : EvI (RZ.iZipA K ta) ρ ((ds.zip es).map fun p => D.tup [p.1, p.2]) := fun Z σ H R k s q =>
  h Z σ H _ k s fun vs H1 x1 r1 => by
    cases r1 with
    | cons r r1 => cases r1 with
      | cons r' r1 =>
        cases r1
        cases r with
        | tup n h1 rs => cases r' with
          | tup n' h1' rs' =>
            refine ⟨_, _, _, _, rfl, .inr ⟨.inl (.inl h1), .inl (.inl h1'), q _ H1 x1 fun Z' hz => ?_⟩⟩
            have nz : ¬ Z' _ := fun z => (hz _ z).elim n fun e => by rw [h1] at e; cases e
            have nz' : ¬ Z' _ := fun z => (hz _ z).elim n' fun e => by rw [h1'] at e; cases e
            rw [List.length_map, List.length_zip, ← rs.len, ← rs'.len]
            refine (walk_zipT rfl).mono (fun H g => ⟨.inl (.inl (g.1.exact nz h1)), .inl (.inl (g.1.exact nz' h1'))⟩) fun i Hc x H' hi g y => ?_
            obtain ⟨T, a, b, rfl, hT, rfl, e1, e2⟩ := y
            obtain ⟨d, e3, e4⟩ := (rs.zs hz).getV e1
            obtain ⟨d', e3', e4'⟩ := (rs'.zs hz).getV e2
            refine ⟨Ex.new hT, .tup [d, d'], ?_, .tup (g.2.no hT) upd_same (.cons (e4.mono (g.1.tr (Ext.new hT))) (.cons (e4'.mono (g.1.tr (Ext.new hT))) .nil))⟩
            rw [List.getElem?_map, List.getElem?_zip_eq_some (z := (d, d')) |>.mpr ⟨e3, e3'⟩]; rfl
/-! things that are owned from now on, in rows of assignments -/
def Grow (Zb : Addr → Prop) (Hb : Hp) (μb : Mu) (Z : Addr → Prop) (H : Hp) (μ : Mu) (D : Mu → Mu → Prop) : Prop := ∀ (Z' : Addr → Prop) (H' : Hp) (μ' μ'' : Mu), Nz Z H μ Z' H' μ' → D μ' μ'' → ∃ Z'' : Addr → Prop, (∀ b, Z'' b → Z' b) ∧ Nz Zb Hb μb Z'' H' μ''
def GO (te : TE) (ρ : Rho) (μ : Mu) (D0 : Mu → Mu → Prop) (Φ : D → Mu → (Mu → Mu → Prop) → Prop) : Prop := ∀ (Zb : Addr → Prop) (Hb : Hp) (μb : Mu) (Z : Addr → Prop) (σ : L2.St) (H : Hp) (Q : VK), Grow Zb Hb μb Z H μ D0 → okZ Z H → SRep Z H σ ρ → Mem Z H μ →
  (∀ v Z1 H1 d μ1 D1, Φ d μ1 D1 → Grow Zb Hb μb Z1 H1 μ1 D1 → (∀ v d, Rep Z H v d → Rep Z1 H1 v d) → okZ Z1 H1 → Mem Z1 H1 μ1 → Rep Z1 H1 v d → Q v H1) → te σ H Q
def GOA (ta : TA) (ρ : Rho) (μ : Mu) (D0 : Mu → Mu → Prop) (Φ : List D → Mu → (Mu → Mu → Prop) → Prop) : Prop := ∀ (Zb : Addr → Prop) (Hb : Hp) (μb : Mu) (Z : Addr → Prop) (σ : L2.St) (H : Hp) (Q : List V → Hp → Prop), Grow Zb Hb μb Z H μ D0 → okZ Z H → SRep Z H σ ρ → Mem Z H μ →
  (∀ vs Z1 H1 ds μ1 D1, Φ ds μ1 D1 → Grow Zb Hb μb Z1 H1 μ1 D1 → (∀ v d, Rep Z H v d → Rep Z1 H1 v d) → okZ Z1 H1 → Mem Z1 H1 μ1 → Reps Z1 H1 vs ds → Q vs H1) → ta σ H Q
variable {D0 : Mu → Mu → Prop} {Φo : D → Mu → (Mu → Mu → Prop) → Prop} {Φl : List D → Mu → (Mu → Mu → Prop) → Prop}
theorem SRep.byRep {Z Z1 : Addr → Prop} {H H1 : Hp} {σ : L2.St} (s : SRep Z H σ ρ) (h : ∀ v d, Rep Z H v d → Rep Z1 H1 v d) : SRep Z1 H1 σ ρ := ⟨s.1, fun i d hi => let ⟨v, e, r⟩ := s.2 i d hi; ⟨v, e, h v d r⟩⟩
theorem Reps.byRep {Z Z1 : Addr → Prop} {H H1 : Hp} (h : ∀ v d, Rep Z H v d → Rep Z1 H1 v d) : ∀ {vs : List V} {ds : List D}, Reps Z H vs ds → Reps Z1 H1 vs ds
  | _, _, .nil => .nil
  | _, _, .cons r rs => .cons (h _ _ r) (rs.byRep h)
theorem grow_refl {Z : Addr → Prop} {H : Hp} : Grow Z H μ Z H μ (fun μ' μ'' => μ' = μ'') := fun Z' H' μ' μ'' z e => by subst e; exact ⟨Z', fun _ h => h, z⟩
theorem Grow.ex {Zb Z : Addr → Prop} {Hb H H1 : Hp} {μb : Mu} (g : Grow Zb Hb μb Z H μ D0) (k : okZ Z H) (m : Mem Z H μ) (x : Ex H H1) : Grow Zb Hb μb Z H1 μ D0 := fun Z' H' μ' μ'' z d => g Z' H' μ' μ'' (((Nxt.exs m x).nz k).tr z) d
theorem go_ge (h : GE te ρ μ fun d μ1 => Φo d μ1 D0) : GO te ρ μ D0 Φo := fun Zb Hb μb Z σ H Q g k s m q =>
  h Z σ H Q k s m fun v H1 d μ1 f n r => q v Z H1 d μ1 D0 f (fun Z' H' μ' μ'' z dd => g Z' H' μ' μ'' ((n.nz k).tr z) dd) (fun v d r => r.mono (n.to m)) (n.ok k) n.mem r
theorem go_ev (h : Ev te ρ d) (q : Φo d μ D0) : GO te ρ μ D0 Φo := go_ge (ge_ev h q)
theorem go_new (h : EvF te ρ c) (hq : ∀ a, ¬ dom μ a → Φo (.ptr a) ((a, c) :: μ) (fun μ' μ'' => ∃ μm, DropA a μ' μm ∧ D0 μm μ'')) : GO te ρ μ D0 Φo := fun Zb Hb μb Z σ H Q g k s m q =>
  h Z σ H Q k s fun a H1 o x1 ha ho hc => by
    have k1 := k.ex x1
    have m1 := m.ex x1
    have nz : ¬ Z a := k1.no ha
    have hz : ∀ b, (Z b ∨ b = a) → Z b ∨ H1 b = none := fun b z => z.imp id fun (e : b = a) => by rw [e]; exact ha
    exact q _ (fun b => Z b ∨ b = a) _ _ _ _ (hq a fun h => nz (m1.dz h)) (fun Z' H' μ' μ'' z ⟨μm, dd, d0⟩ =>
      let ⟨Z'', hs, z'⟩ := (g.ex k m x1) _ H' μm μ'' (Nz.own ha nz m1 z dd) d0
      ⟨Z'', fun b hb => (hs b hb).1, z'⟩) (fun v d r => ((r.mono (x1.to (Z := Z))).zs hz).mono (Ext.new ha)) (k1.add ho) (m1.ownC ha hc) (.ptr a)
theorem goa_nil (q : Φl [] μ D0) : GOA tNil ρ μ D0 Φl := fun Zb Hb μb Z σ H Q g k s m c => c [] Z H [] μ D0 q g (fun _ _ r => r) k m .nil
theorem goa_cons {t : TA} (h : GO te ρ μ D0 fun d μ1 D1 => GOA t ρ μ1 D1 fun ds μ2 D2 => Φl (d :: ds) μ2 D2) : GOA (tCons te t) ρ μ D0 Φl := fun Zb Hb μb Z σ H Q g k s m c =>
  h Zb Hb μb Z σ H _ g k s m fun v Z1 H1 d μ1 D1 f g1 r1 k1 m1 rv => f Zb Hb μb Z1 σ H1 _ g1 k1 (s.byRep r1) m1 fun vs Z2 H2 ds μ2 D2 f2 g2 r2 k2 m2 rvs => c (v :: vs) Z2 H2 (d :: ds) μ2 D2 f2 g2 (fun v d r => r2 v d (r1 v d r)) k2 m2 (.cons (r2 _ _ rv) rvs)
theorem gs_go {Zb : Addr → Prop} {Hb : Hp} {μb μ1 : Mu} {Z1 : Addr → Prop} {H1 : Hp} {σ1 : L2.St} {ρ1 : Rho} {D1 : Mu → Mu → Prop} {E : Ends} (g : Grow Zb Hb μb Z1 H1 μ1 D1) (k1 : okZ Z1 H1) (m1 : Mem Z1 H1 μ1) (s1 : SRep Z1 H1 σ1 ρ1)
    (h : GS us ρ1 μ1 (fun ρ' μ' => ∃ μ'', D1 μ' μ'' ∧ N ρ' μ'') (fun d μ' => ∃ μ'', D1 μ' μ'' ∧ R d μ''))
    (n : ∀ σ' H' ρ' μ' Z', N ρ' μ' → Nz Zb Hb μb Z' H' μ' → SRep Z' H' σ' ρ' → E.nx σ' H') (r : ∀ v H' d μ' Z', R d μ' → Nz Zb Hb μb Z' H' μ' → Rep Z' H' v d → E.rt v H') : us E σ1 H1 :=
  h Z1 σ1 H1 E k1 s1 m1 (fun σ' H' ρ' μ' Z' q z s' => by
    obtain ⟨μ'', dd, q⟩ := q
    obtain ⟨Z'', hs, z'⟩ := g Z' H' μ' μ'' z dd
    exact n σ' H' ρ' μ'' Z'' q z' (s'.zs fun b h => .inl (hs b h))) fun v H' d μ' Z' q z r' => by
    obtain ⟨μ'', dd, q⟩ := q
    obtain ⟨Z'', hs, z'⟩ := g Z' H' μ' μ'' z dd
    exact r v H' d μ'' Z'' q z' (r'.zs fun b h => .inl (hs b h))
theorem gs_goT2 {K : PySem.W.Frag} {t : TA} {i j : Nat} (h : GOA t ρ μ (fun μ' μ'' => μ' = μ'') fun ds μ1 D1 => ∃ d e, ds = [d, e] ∧ GS us ((ρ.set i (some d)).set j (some e)) μ1 (fun ρ' μ' => ∃ μ'', D1 μ' μ'' ∧ N ρ' μ'') (fun d μ' => ∃ μ'', D1 μ' μ'' ∧ R d μ'')) :
    GS (tSeq (tAsg (tTup t) (gTup K 2 (gCons (gName i) (gCons (gName j) gNil)))) us) ρ μ N R := fun Z σ H E k s m n r =>
  h Z H μ Z σ H _ grow_refl k s m fun vs Z1 H1 ds μ1 D1 f g r1 k1 m1 rv => by
    obtain ⟨d, e, rfl, f⟩ := f
    cases rv with
    | cons ra rv => cases rv with
      | cons rb rv =>
        cases rv
        refine ⟨show (2 : Nat) ≤ sizeLine by decide, fun p hp => ⟨p, _, rfl, .inl (.inl upd_same), rfl, _, _, rfl, _, _, rfl, rfl, ?_⟩⟩
        rename_i va vb
        have x := Ex.new (o := .tup [va, vb]) hp
        exact gs_go (us := us) (E := E) (g.ex k1 m1 x) (k1.ex x) (m1.ex x) ((((s.byRep r1).mono (x.to (Z := Z1))).set i (ra.mono x.to)).set j (rb.mono x.to)) f n r
theorem gs_goT3 {K : PySem.W.Frag} {t : TA} {i j l : Nat} (h : GOA t ρ μ (fun μ' μ'' => μ' = μ'') fun ds μ1 D1 => ∃ d e f, ds = [d, e, f] ∧ GS us (((ρ.set i (some d)).set j (some e)).set l (some f)) μ1 (fun ρ' μ' => ∃ μ'', D1 μ' μ'' ∧ N ρ' μ'') (fun d μ' => ∃ μ'', D1 μ' μ'' ∧ R d μ'')) :
    GS (tSeq (tAsg (tTup t) (gTup K 3 (gCons (gName i) (gCons (gName j) (gCons (gName l) gNil))))) us) ρ μ N R := fun Z σ H E k s m n r =>
  h Z H μ Z σ H _ grow_refl k s m fun vs Z1 H1 ds μ1 D1 f g r1 k1 m1 rv => by
    obtain ⟨d, e, e3, rfl, f⟩ := f
    cases rv with
    | cons ra rv => cases rv with
      | cons rb rv => cases rv with
        | cons rc rv =>
          cases rv
          refine ⟨show (3 : Nat) ≤ sizeLine by decide, fun p hp => ⟨p, _, rfl, .inl (.inl upd_same), rfl, _, _, rfl, _, _, rfl, _, _, rfl, rfl, ?_⟩⟩
          rename_i va vb vc
          have x := Ex.new (o := .tup [va, vb, vc]) hp
          exact gs_go (us := us) (E := E) (g.ex k1 m1 x) (k1.ex x) (m1.ex x) (((((s.byRep r1).mono (x.to (Z := Z1))).set i (ra.mono x.to)).set j (rb.mono x.to)).set l (rc.mono x.to)) f n r
theorem gs_goP {t : TA} {i j : Nat} (h : GOA t ρ μ (fun μ' μ'' => μ' = μ'') fun ds μ1 D1 => ∃ d e, ds = [d, e] ∧ GS us ((ρ.set i (some d)).set j (some e)) μ1 (fun ρ' μ' => ∃ μ'', D1 μ' μ'' ∧ N ρ' μ'') (fun d μ' => ∃ μ'', D1 μ' μ'' ∧ R d μ'')) :
    GS (tSeq (tPar i j t) us) ρ μ N R := fun Z σ H E k s m n r =>
  h Z H μ Z σ H _ grow_refl k s m fun vs Z1 H1 ds μ1 D1 f g r1 k1 m1 rv => by
    obtain ⟨d, e, rfl, f⟩ := f
    cases rv with
    | cons ra rv => cases rv with
      | cons rb rv =>
        cases rv
        exact ⟨_, _, rfl, gs_go (us := us) (E := E) g k1 m1 (((s.byRep r1).set i ra).set j rb) f n r⟩
end
end Du
namespace Du
open PySem L2 PySem.Spec PyProof.Rows
/-! repr of plain data, where nothing is being shown -/
def rRepr (K : PySem.W.Frag) : List V → Hp → VK → Prop := fun vs H Q => ∃ (a : Addr) (d : PyData), vs = [.ref a] ∧ Dp K H (.ref a) d ∧ d.showable = true ∧ d.hasDict = false ∧ d.depth ≤ 20 ∧ d.shown.length ≤ sizeLine ∧ Q (.str d.shown) H
theorem k_repr {X : Cx} {K : PySem.W.Frag} {k : Nat} (hK : X.K = K) (hr : Room k X.A) (hg : X.A.guards = some []) : CallR X (.builtin "repr") (rRepr K) := by
  subst hK
  intro pins s σ H vs us Q I r h
  obtain ⟨a, d, rfl, hd, h1, h2, h3, h4, q⟩ := h
  obtain ⟨u, rfl, ru⟩ := r.one
  obtain ⟨as, rd⟩ := Dp.reads I d _ u hd ru
  cases ru
  have hu := hr.units
  exact repr_of_reads' rd h1 (fun e => by rw [h2] at e; cases e) hg (by omega) (fun _ _ e => e) (fun h' t tk hk => ⟨.str _, H, I.kept (t' := tk) hk, ⟨_, rfl⟩, q⟩) h4
mutual
/-- texts alone, in lists and tuples -/
def tx : D → Bool
  | .str s => PyData.strOk s
  | .lst xs => txs xs
  | .tup xs => txs xs
  | _ => false
def txs : List D → Bool
  | [] => true
  | x :: xs => tx x && txs xs
end
theorem txs_all : ∀ xs : List D, txs xs = xs.all tx
  | [] => by simp [txs]
  | x :: xs => by simp [txs, txs_all xs]
mutual
theorem show_of : ∀ d : D, tx d = true → (toP d).showable = true ∧ (toP d).hasDict = false ∧ pl d = true ∧ (toP d).intsShort 8 = true
  | .str s, h => ⟨by simp [toP, PyData.showable], by simp [toP, PyData.hasDict], by simpa [pl, tx] using h, by simp [toP, PyData.intsShort]⟩
  | .lst xs, h => by simp only [toP, PyData.showable, PyData.hasDict, pl, PyData.intsShort]; exact shows_of xs (by simpa [tx] using h)
  | .tup xs, h => by simp only [toP, PyData.showable, PyData.hasDict, pl, PyData.intsShort]; exact shows_of xs (by simpa [tx] using h)
  | .non, h => by simp [tx] at h
  | .bl _, h => by simp [tx] at h
  | .int _, h => by simp [tx] at h
  | .dT _, h => by simp [tx] at h
  | .dK _, h => by simp [tx] at h
  | .dN _ _, h => by simp [tx] at h
  | .ins _ _, h => by simp [tx] at h
  | .ptr _, h => by simp [tx] at h
  | .ty _, h => by simp [tx] at h
theorem shows_of : ∀ xs : List D, txs xs = true → PyData.showableAll (toPs xs) = true ∧ PyData.hasDictAll (toPs xs) = false ∧ pls xs = true ∧ PyData.intsShortAll 8 (toPs xs) = true
  | [], _ => by simp [toPs, PyData.showableAll, PyData.hasDictAll, pls, PyData.intsShortAll]
  | x :: xs, h => by
    have h' : tx x = true ∧ txs xs = true := by simpa [txs] using h
    have := show_of x h'.1
    have := shows_of xs h'.2
    simp_all [toPs, PyData.showableAll, PyData.hasDictAll, pls, PyData.intsShortAll]
end
theorem rl_repr {K : PySem.W.Frag} {d : D} (hd : tx d = true) (hf : (∃ xs, d = .lst xs) ∨ ∃ xs, d = .tup xs) (h3 : (toP d).depth ≤ 20) (h4 : (toP d).weight ≤ 2 ^ 20) : RLD (rRepr K) [d] (.str (toP d).shown) := fun Z H xs Q k r q => by
  obtain ⟨h1, h2, hp, hi⟩ := show_of d hd
  have hz : (toP d).shown.length ≤ sizeLine := PyData.shown_fits_of_layable0 (B := 8) (by decide) (by decide) (by
    show (PyData.canLay0 (toP d) && decide (PyData.depth (toP d) ≤ 64) && decide (PyData.weight (toP d) ≤ 2 ^ 20)) = true
    rw [lay_of d hp]
    simp only [Bool.true_and, Bool.and_eq_true, decide_eq_true_eq]
    exact ⟨by omega, h4⟩) hi
  cases r with
  | cons r r' =>
    cases r'
    have hq := dp_of (K := K) r hp
    rcases hf with ⟨xs, rfl⟩ | ⟨xs, rfl⟩
    · cases r; exact ⟨_, _, rfl, hq, h1, h2, h3, hz, q _ H (Ex.rf H) (.str _)⟩
    · cases r; exact ⟨_, _, rfl, hq, h1, h2, h3, hz, q _ H (Ex.rf H) (.str _)⟩
theorem rd_neS {s t : Str} : R2D rNe (.str s) (.str t) (.bl (!decide (s = t))) := fun Z H x y Q k r1 r2 q => by
  cases r1; cases r2
  refine ⟨rfl, ?_⟩
  have e : decide (V.str s = V.str t) = decide (s = t) := by simp
  rw [e]
  exact q _ H (Ex.rf H) (.bl _)
/-! a law's def at the call from outside, where nothing is being shown -/
structure FnG (P : Program) (w : World) (K : PySem.W.Frag) (mg : Str → Option Value) (base : Heap) (k : Nat) (f : Addr) (fd : FuncData) (ps : List Str) (sp : Sp) : Prop where
  run : ∀ (s : Shared) (H : Hp) (args : Args) (us : List Value) (vs : List V) (Q : VK) (E : XK), Room k callerA → Env0 P w K mg base callerA [] s H → BindsTo s fd args (ps.zip us) → Vals vs us → sp vs H Q E →
    codeAny (model P w) callerA (.call (.ref f) args) (CR CX0 [] P w H s Q E) s
section
variable {P : Program} {w : World} {K : PySem.W.Frag} {mg : Str → Option Value} {base : Heap}
theorem Fun.okG {x qual : Str} {st : Stmt} {f : Addr} {fd : FuncData} {N ps : List Str} {k : Nat} {sp : Sp} (F : Fun K x qual st f fd) (S : FnScope N ps (defScope st)) (len : ∀ vs H Q E, sp vs H Q E → vs.length = ps.length)
    (hbody : ∀ (cdv : Value) (s : Shared) (H : Hp) (vs : List V) (Q : VK) (E : XK), Room k (callerA.deeper (envOfC qual (defScope st) s.heap.objs.size f cdv)) → sp vs H Q E →
      ∃ t, PSs (cxOf CX0 P w K mg base N qual (defScope st) f cdv callerA [] s H E).nox (defBody st) t ∧ t { nx := fun _ H' => Q .non H', rt := Q } (start N vs) H) : FnG P w K mg base (k + 1) f fd ps sp := by
  obtain ⟨oc, od, kV, doc, pm, an, cdv, ct, osl, rfl, lk, hcd⟩ := F.ex
  refine ⟨fun s H args us vs Q E hr e0 hb r hsp => ?_⟩
  have hl := len _ _ _ _ hsp
  have KX : K.In s.heap := e0.mod.kin.keeps fun b o e => (e0.bs b o e).1
  have lim : s.heap.NoLimit := e0.mod.nolimit.keeps fun b o e => (e0.bs b o e).1
  have hkind : ∀ y ∈ ps.zip us, (defScope st).names.lookup y.1 = some .local ∨ ((defScope st).names.lookup y.1 = some .cell ∧ ((cellsFrom (s.heap.objs.size + 1) (defScope st).names []).lookup y.1).isSome = true) := fun ⟨n, v⟩ hy => by
    rcases S.par n (List.of_mem_zip hy).1 with q | q
    · exact .inl q
    · exact .inr ⟨q, PySem.W.cellsFrom_some _ _ _ (.inl q)⟩
  refine codeAny_call_function hr.depth (KX _ _ lk) rfl S.co S.gen rfl (PySem.W.codeRec_of KX hcd) (hb _ _ _ _ ?_)
  refine wpAny_newFunctionEnv_cells S.kind hkind fun env he s1 x => ?_
  subst he
  refine ⟨lim.keeps x.toInCall.keep, codeAny_func ?_⟩
  obtain ⟨t, ht, hq⟩ := hbody cdv s H vs Q E (hr.deeper _) hsp
  have I : Inv (cxOf CX0 P w K mg base N qual (defScope st) f cdv callerA [] s H E) [] (start N vs) H s1 := inv_start S hr.hd e0 hl r x
  refine wpAny_mono (ht.nox.run [] s1 (start N vs) H _ I hq) (fun fl s' hs => ?_) fun e s' hs => hs
  have fin : ∀ {σ' : L2.St} {H' : Hp} {v : V} {u : Value}, Inv (cxOf CX0 P w K mg base N qual (defScope st) f cdv callerA [] s H E) [] σ' H' s' → RelV v u → Q v H' → CE [] P w H s Q u s' :=
    fun {σ' H' v u} J rv q => ⟨v, H', J.os, J.bare, J.base, J.hok, rv, q⟩
  cases fl with
  | ret u =>
    obtain ⟨v, σ', H', J, rv, q⟩ := hs
    exact fin J rv q
  | next =>
    obtain ⟨σ', H', J, q⟩ := hs
    exact fin (v := V.non) (u := Value.none) J rfl q
  | brk => obtain ⟨_, _, _, q⟩ := hs; exact False.elim q
  | cont => obtain ⟨_, _, _, q⟩ := hs; exact False.elim q
theorem law_callG {mb : Str → Option Value} {k : Nat} {fa a : Addr} {fd : FuncData} {x : Str} {sp : Sp} {s₁ : Shared} {vs : List Value} {ns : List Int}
    (KX : K.In s₁.heap) (hns : s₁.heap.Ns mainGlobals mg) (hb : s₁.heap.Ns builtinsNs mb) (hbb : ∀ x : Str, x ≠ "__name__" → mb x = bootBuiltins x) (hlim : s₁.heap.NoLimit) (hg : s₁.gens = #[])
    (ha : s₁.heap.get? a = some { cls := .type "list", data := .seq vs.toArray }) (hi : IntsAre vs ns) (hl : ns.length ≤ sizeLine) (hr : Room k callerA)
    (F : ∀ base : Heap, K.In base → base.Ns mainGlobals mg → FnG P w K mg base k fa fd [x] sp) (hbind : ∀ (s : Shared) (u : Value), BindsTo s fd ⟨[u], []⟩ [(x, u)])
    (hsp : ∀ H : Hp, SqL K H a (ns.map V.int) → sp [.ref a] H (fun v _ => v = .bl true) fun _ _ _ => False) :
    codeAny (model P w) callerA (.call (.ref fa) ⟨[.ref a], []⟩) (fun r s' => r = .ok (.ret (.bool true)) ∧ OldK s₁.heap s'.heap ∧ s'.os = s₁.os ∧ AllBare s'.gens) s₁ := by
  have rv := vals_ints hi
  have lenV := hi.length
  have core : ∀ H : Hp, Only H → SqL K H a (ns.map V.int) → HOk P w H s₁.heap → (∀ b, H b ≠ none → b = a) → (H a ≠ none → K.lookup a = none) →
      codeAny (model P w) callerA (.call (.ref fa) ⟨[.ref a], []⟩) (fun r s' => r = .ok (.ret (.bool true)) ∧ OldK s₁.heap s'.heap ∧ s'.os = s₁.os ∧ AllBare s'.gens) s₁ := by
    intro H hO hS hok hA hK
    have out : ∀ {b : Addr} {o : Obj}, s₁.heap.get? b = some o → (b = a → H b = none) → (hidT s₁.heap H).get? b = some o := fun {b o} e n => hidT_get e (by
      cases q : H b with
      | none => rfl
      | some u => have := n (hA b (by rw [q]; simp)); rw [q] at this; cases this)
    have nsK : ∀ {b : Addr} {m : Str → Option Value}, s₁.heap.Ns b m → (hidT s₁.heap H).Ns b m := fun {b m} ⟨o, es, ep, e, d, r⟩ => ⟨o, es, ep, out e (fun z => by
      subst z; rw [ha] at e; cases e
      have d' : Data.seq vs.toArray _ = Data.dict es ep := d
      cases d'), d, r⟩
    have hKb : K.In (hidT s₁.heap H) := fun b o e => out (KX b o e) fun z => by
      subst z
      cases q : H b with
      | none => rfl
      | some u => rw [hK (by rw [q]; simp)] at e; cases e
    have hM : Mod K mg (hidT s₁.heap H) := ⟨hKb, nsK hns, ⟨mb, nsK hb, hbb⟩, let ⟨mc, h1, h2⟩ := hlim; ⟨mc, nsK h1, h2⟩⟩
    have e0 : Env0 P w K mg (hidT s₁.heap H) callerA [] s₁ H := ⟨rfl, hM, fun b o e => of_hidT e, Nat.le_of_eq (hidT_size _ _), trivial, fun b hb => absurd (show b ∈ ([] : List Addr) from hb) (by simp), hok, .of_eq hg⟩
    refine codeAny_mono ((F _ hKb (nsK hns)).run s₁ H ⟨[.ref a], []⟩ [.ref a] [.ref a] _ _ hr e0 (hbind s₁ (.ref a)) (.cons rfl .nil) (hsp H hS)) fun r s' h => ?_
    cases r with
    | error e => exact False.elim h
    | ok fl =>
      cases fl with
      | next => exact False.elim h
      | brk => exact False.elim h
      | cont => exact False.elim h
      | ret u =>
        obtain ⟨v, H', os, bare, un, hok', r', q⟩ := h
        have q' : v = .bl true := q
        subst q'
        obtain rfl : u = Value.bool true := r'
        refine ⟨rfl, OldK.of_keep fun b o e => ?_, os, bare⟩
        cases q : H b with
        | none => exact un.keep b o e q (by intro z; exact absurd (show b ∈ ([] : List Addr) from z) (by simp)) (by simp)
        | some u =>
          rcases hO b with z | ⟨ob, xs, z⟩
          · rw [q] at z; cases z
          · have z2 := un.frzs b ob _ z
            obtain ⟨e1, _⟩ := hok b _ z
            obtain ⟨e2, _⟩ := hok' b _ z2
            rw [e] at e1; cases e1
            exact e2
  cases hk : K.lookup a with
  | some o =>
    have e := KX a o hk
    rw [ha] at e
    cases e
    exact core (fun _ => none) (fun _ => .inl rfl) (.inr ⟨_, vs.toArray, _, hk, rfl, rfl, rfl, by rw [List.size_toArray, lenV]; exact hl, by simpa using rv⟩) (fun b u z => by have z' : (none : Option HO) = some u := z; cases z') (fun b z => absurd rfl z) fun z => absurd rfl z
  | none =>
    refine core (fun b => if b = a then some (.frz { cls := .type "list", data := .seq vs.toArray } (.lst (ns.map V.int))) else none) (fun b => ?_) (.inl (.inr ⟨{ cls := .type "list", data := .seq vs.toArray }, if_pos rfl⟩)) (fun b u z => ?_) (fun b z => ?_) fun _ => hk
    · by_cases hb : b = a
      · exact .inr ⟨_, _, if_pos hb⟩
      · exact .inl (if_neg hb)
    · by_cases hb : b = a
      · have z' := (if_pos hb).symm.trans z
        cases z'
        subst hb
        exact ⟨ha, by rw [List.length_map]; exact hl, vs, _, rv, ha⟩
      · have z' := (if_neg hb).symm.trans z
        cases z'
    · by_cases hb : b = a
      · exact hb
      · exact absurd (if_neg hb) z
end
theorem walk_ofG {l : PySem.W.OpenLaw} {n k : Nat} {q : Program} {loose : List Str} {XP : (Str → Option Value) → Heap → Prop} {YP : World → Heap → Prop} {d : DefRec} {K : Params → PySem.W.Frag} {sp : World → Sp} {x : Str}
    (hn : l.most = some n) (hn2 : n ≤ sizeLine) (hdf : d.params.defaults = []) (hr : Room k callerA)
    (hY : ∀ (w : World) (h : Heap), YP w h → (K w.params).In h)
    (F : ∀ (w : World) (mg : Str → Option Value) (fa : Addr) (h : Heap), (K w.params).In h → h.Ns mainGlobals mg → mg d.name = some (.ref fa) →
      ∃ fd : FuncData, (∀ (s : Shared) (u : Value), BindsTo s fd ⟨[u], []⟩ [(x, u)]) ∧
        ∀ base : Heap, (K w.params).In base → base.Ns mainGlobals mg → FnG l.prog w (K w.params) mg base k fa fd [x] (sp w))
    (hsp : ∀ (w : World) (H : Hp) (a : Addr) (ns : List Int), ns.length ≤ n → SqL (K w.params) H a (ns.map V.int) → sp w [.ref a] H (fun v _ => v = .bl true) fun _ _ _ => False) :
    PySem.W.WalkO q loose XP YP l.row.toRowW d [] (fun f vs => PySem.call f vs) := by
  refine Att.attach_call hn hdf fun w s₀ s₁ mg mb fa o pm cd doc a vs ns G Y ho hd hcd hmg hobj hints hlen hg => ?_
  have KX := hY w _ Y
  obtain ⟨fd, hb, hF⟩ := F w mg fa _ KX G.T.g hmg
  exact law_callG KX G.T.g G.T.b G.T.builtins G.T.nolimit hg hobj hints (Nat.le_trans hlen hn2) hr hF hb fun H hS => hsp w H a ns hlen hS
end Du
namespace Du
open PySem L2
/-- x, y = something new, []: the list at y is what is returned, a new one -/
theorem st_newF2 {K : PySem.W.Frag} {ρ : Rho} {td : TE} {c : D} {i j : Nat} {us : TS} {es : List D} {Z : Addr → Prop} {σ : L2.St} {H : Hp} {E : Ends} (hd : EvF td ρ c) (k : okZ Z H) (s : SRep Z H σ ρ)
    (hs : ∀ a b, a ≠ b → GS us ((ρ.set i (some (.ptr a))).set j (some (.ptr b))) [(b, .lst []), (a, c)] (fun _ _ => False) (fun d μ' => d = .ptr b ∧ ∃ μr, μ' = (b, .lst es) :: μr))
    (q : ∀ a H' xs, H a = none → Ex H H' → H' a = some (.lst xs) → Reps Z H' xs es → E.rt (.ref a) H') :
    tSeq (tAsg (tTup (tCons td (tCons (tLst tNil) tNil))) (gTup K 2 (gCons (gName i) (gCons (gName j) gNil)))) us E σ H := by
  refine hd Z σ H _ k s fun a H1 o x1 ha ho hc => ?_
  have m : Mem Z H [] := Mem.mk (fun p hp => absurd hp (List.not_mem_nil)) List.nodup_nil
  have k1 := k.ex x1
  have m1 := m.ex x1
  have nza : ¬ Z a := k1.no ha
  have hza : ∀ c, (Z c ∨ c = a) → Z c ∨ H1 c = none := fun c z => z.imp id fun (e : c = a) => by rw [e]; exact ha
  have ka : okZ (fun c => Z c ∨ c = a) (upd H1 a o) := k1.add ho
  have ma := m1.ownC ha hc
  have sa : SRep (fun c => Z c ∨ c = a) (upd H1 a o) σ ρ := ((s.mono (x1.to (Z := Z))).zs hza).mono (Ext.new ha)
  refine (ef_nil (ρ := ρ)) (fun c => Z c ∨ c = a) σ (upd H1 a o) _ ka sa fun b H2 o2 x2 hb ho2 hc2 => ?_
  have k2 := ka.ex x2
  have m2 := ma.ex x2
  have hb1 : (upd H1 a o) b = none := x2.free hb
  have ne : b ≠ a := fun e => by rw [e, upd_same] at hb1; cases hb1
  have nzb : ¬ (Z b ∨ b = a) := k2.no hb
  have hzb : ∀ c, ((Z c ∨ c = a) ∨ c = b) → (Z c ∨ c = a) ∨ H2 c = none := fun c z => z.imp id fun (e : c = b) => by rw [e]; exact hb
  have kb := k2.add (p := b) ho2
  have mb := m2.ownC hb hc2
  have sb := ((sa.mono (x2.to (Z := fun c => Z c ∨ c = a))).zs hzb).mono (Ext.new (o := o2) hb)
  refine ⟨show (2 : Nat) ≤ sizeLine by decide, fun p hp => ⟨p, _, rfl, .inl (.inl upd_same), rfl, _, _, rfl, _, _, rfl, rfl, ?_⟩⟩
  have x := Ex.new (o := .tup [.ref a, .ref b]) hp
  refine hs a b ne.symm _ _ _ E (kb.ex x) ((((sb.mono x.to).set i (.ptr a)).set j (.ptr b))) (mb.ex x) (fun _ _ _ _ _ h => h.elim) fun v H' d μ' Z' g z r' => ?_
  obtain ⟨rfl, μr, rfl⟩ := g
  cases r'
  obtain ⟨zb, cc⟩ := z.mem.cs _ List.mem_cons_self
  have hb0 : H1 b = none := by rwa [upd_ne ne] at hb1
  have dm : ∀ e, dom ([(b, D.lst []), (a, c)] : Mu) e → e = b ∨ e = a := fun e h => by simpa [dom] using h
  cases cc with
  | lst h r =>
    refine q b H' _ (x1.free hb0) (fun e oe he => ?_) h (r.zs fun e he => ?_)
    · have h1 := x1 e oe he
      have ea : e ≠ a := fun z => by rw [z, ha] at h1; cases h1
      have eb : e ≠ b := fun z => by rw [z, hb0] at h1; cases h1
      have ep : e ≠ p := fun z => by
        have h3 : (upd H2 b o2) e = some oe := by rw [upd_ne eb]; exact x2 _ _ (by rw [upd_ne ea]; exact h1)
        rw [z, hp] at h3; cases h3
      exact z.ext e oe (fun dd => (dm e dd).elim eb ea) (by rw [upd_ne ep, upd_ne eb]; exact x2 _ _ (by rw [upd_ne ea]; exact h1))
    · rcases z.zk e (.inl (.inl he)) with h | ⟨h, _⟩
      · exact .inl h
      · rcases dm e h with rfl | rfl
        · exact absurd (Or.inl he) nzb
        · exact absurd he nza
end Du
namespace Du
open PySem L2
section
variable {ρ : Rho} {te td ty tk tv : TE} {tt : TT}
theorem RepK.val {Z : Addr → Prop} {H : Hp} {k : Key} : ∀ {kvs : List (Key × V)} {ds : List (Key × D)}, RepK Z H kvs ds → ∀ {d : D}, valD ds k = some d → ∃ v, valV kvs k = some v ∧ Rep Z H v d
  | _, _, .nil, d, h => by simp [valD] at h
  | _, _, .cons (k := k') (v := v) (d := d') r t, d, h => by
    by_cases e : k' = k
    · have : d' = d := by simpa [valD, e] using h
      subst this
      exact ⟨v, by simp [valV, e], r⟩
    · obtain ⟨w, h1, h2⟩ := RepK.val (d := d) (k := k) t (by simpa [valD, e] using h)
      exact ⟨w, by simpa [valV, e] using h1, h2⟩
/-- d[k], k a text -/
theorem ev_kget {kvs : List (Key × D)} {k : Str} {z : D} (hd : Ev td ρ (.dK kvs)) (hk : Ev ty ρ (.str k)) (hv : valD kvs (.inr k) = some z) : Ev (tDGet td ty) ρ z := fun Z σ H Q ok s q =>
  hd Z σ H _ ok s fun x H1 x1 r1 => hk Z σ H1 _ (ok.ex x1) (s.mono x1.to) fun y H2 x2 r2 => by
    cases r2
    cases r1.mono (x2.to (Z := Z)) with
    | dK n h rs =>
      obtain ⟨v, e1, e2⟩ := rs.val hv
      exact ⟨_, v, rfl, .inl ⟨_, .inr k, h, rfl, e1.symm⟩, q v H2 (x1.tr x2) e2⟩
/-! a dict comprehension whose keys are unlike texts -/
theorem ev_dcK {α : Type} {φ : α → D} {wi : TI} {g : TG} {vs : List Nat} {ds : List α} {kf : α → Str} {vf : α → D} (hi : EvI wi ρ (ds.map φ)) (hz : ds.length ≤ 100000) (nd : (ds.map kf).Nodup)
    (hb : ∀ d ∈ ds, ∃ ρ', GW g vs (φ d) (wipeR ρ vs) ρ' ∧ Ev tk ρ' (.str (kf d)) ∧ Ev tv ρ' (vf d)) : Ev (tDc wi g tYes tk tv vs) ρ (.dK (ds.map fun d => (Sum.inr (kf d), vf d))) := fun Z σ H Q k s q =>
  hi Z σ H _ k s fun J H1 x1 w1 => by
    intro Dd hD
    have k1 := k.ex x1
    have hz' : ∀ a, (Z a ∨ a = Dd) → Z a ∨ H1 a = none := fun a z => z.imp id fun (e : a = Dd) => by rw [e]; exact hD
    have hll : (ds.map φ).length = ds.length := List.length_map ..
    have W := w1 (fun a => Z a ∨ a = Dd) hz'
    have s1 : SRep (fun a => Z a ∨ a = Dd) H1 σ ρ := (s.mono x1.to).zs hz'
    let Pv : Nat → Hp → Prop := fun i Hc => Ext (fun a => Z a ∨ a = Dd) H1 Hc ∧ okZ (fun a => Z a ∨ a = Dd) Hc ∧ (∀ a o, Z a → H1 a = some o → Hc a = some o) ∧ ∃ acc, Hc Dd = some (.dK acc) ∧ RepK (fun a => Z a ∨ a = Dd) Hc acc ((ds.take i).map fun d => (Sum.inr (kf d), vf d))
    refine ⟨fun i m Hc => m = ds.length - i ∧ i ≤ ds.length ∧ Pv i Hc, ⟨ds.length, by simp, Nat.zero_le _, Ext.new hD, k1.add rfl, fun a o z h => by rw [upd_ne (ne_of_none h hD)]; exact h, [], upd_same, by simpa using .nil⟩, ?_⟩
    rintro i m Hc ⟨rfl, hi, e1, e2, e3, acc, e4, e5⟩
    by_cases hlt : i < ds.length
    · refine .inr ⟨W.goes i Hc (hll ▸ hlt) ⟨e1, e2⟩, Pv (i + 1), fun Hn p => ⟨ds.length - (i + 1), by omega, rfl, hlt, p⟩, fun x H' y => ?_⟩
      obtain ⟨y1, d0, y20, y3⟩ := W.yields i Hc x H' (hll ▸ hlt) ⟨e1, e2⟩ y
      rw [List.getElem?_map] at y20
      obtain ⟨d, y2, rfl⟩ := Option.map_eq_some_iff.mp y20
      have hm : d ∈ ds := List.mem_of_getElem? y2
      obtain ⟨ρ', g1, g2, g3⟩ := hb d hm
      have x' : Ext (fun a => Z a ∨ a = Dd) H1 H' := e1.tr y1.to
      refine g1 _ (wipe σ vs) H' x _ (e2.ex y1) ((s1.wipe vs).mono x') y3 fun σ' s' w' => ⟨w'.trans (wipe_wipe σ vs), ?_⟩
      refine et_yes (ρ := ρ') _ σ' H' _ (e2.ex y1) s' fun H0 x0 => ?_
      rw [if_pos rfl]
      have y10 := y1.tr x0
      refine g2 _ σ' H0 _ (e2.ex y10) (s'.mono x0.to) fun v3 H3 x3 r3 => ?_
      have y13 := y10.tr x3
      refine g3 _ σ' H3 _ (e2.ex y13) (s'.mono (x0.tr x3).to) fun v H4 x4 r4 => ?_
      have y14 := y13.tr x4
      have et : ds.take (i + 1) = ds.take i ++ [d] := by rw [List.take_add_one, y2]; rfl
      cases r3
      have e5' := e5.mono (y14.to (Z := fun a => Z a ∨ a = Dd))
      have hnew : valV acc (Sum.inr (kf d)) = none := by
        have hk : (Sum.inr (kf d) : Key) ∉ acc.map (·.1) := by
          rw [e5'.keys, List.map_map]
          intro hin
          obtain ⟨d', hd', ed⟩ := List.mem_map.mp hin
          have ed' : kf d' = kf d := Sum.inr.inj ed
          have nd' : ((ds.take i).map kf ++ [kf d]).Nodup := by
            have h1 : ((ds.take (i + 1)).map kf).Nodup := by
              rw [List.map_take]; exact nd.sublist (List.take_sublist _ _)
            rw [et, List.map_append] at h1
            exact h1
          exact (List.nodup_append.mp nd').2.2 (kf d') (List.mem_map_of_mem hd') (kf d) (by simp) ed'
        unfold valV
        rw [Option.map_eq_none_iff, List.find?_eq_none]
        intro e he
        simp only [decide_eq_true_eq]
        intro z
        exact hk (z ▸ List.mem_map_of_mem he)
      have hl : acc.length ≤ 100000 := by
        rw [e5'.len, List.length_map, List.length_take]; omega
      have xm : Ext (fun a => Z a ∨ a = Dd) H4 (upd H4 Dd (.dK (putK acc (Sum.inr (kf d)) v))) := (Ext.rf H4).mut (.inr rfl)
      refine ⟨acc, Sum.inr (kf d), rfl, y14.exact e4, Nat.lt_of_le_of_lt hl (by decide), (e1.tr y14.to).mut (.inr rfl), (e2.ex y14).upd rfl, fun a o z h => ?_, _, upd_same, ?_⟩
      · rw [upd_ne (ne_of_none h hD)]
        exact y14 a o (e3 a o z h)
      · rw [et, List.map_append]
        rw [putK_new v hnew] at xm ⊢
        exact (e5'.mono xm).app (.cons (r4.mono xm) .nil)
    · have e : i = ds.length := by omega
      subst e
      refine .inl ⟨hll ▸ W.stops Hc ⟨e1, e2⟩, ?_⟩
      rw [List.take_length] at e5
      have xx : Ex H1 Hc := fun a o h => by
        by_cases z : Z a
        · exact e3 a o z h
        · exact e1 a o (fun y => y.elim z (ne_of_none h hD)) h
      exact q _ Hc (x1.tr xx) (.dK (k1.no hD) (.inl e4) (e5.zs fun a z => .inl (.inl z)))
/-! an owned instance, read as data for a while -/
mutual
def noIns : D → Bool
  | .ins _ _ => false
  | .lst xs => noInss xs
  | .tup xs => noInss xs
  | .dT kvs => noInsT kvs
  | .dK kvs => noInsK kvs
  | .dN _ _ => false
  | _ => true
def noInss : List D → Bool
  | [] => true
  | x :: xs => noIns x && noInss xs
def noInsT : List (List Key × D) → Bool
  | [] => true
  | (_, x) :: xs => noIns x && noInsT xs
def noInsK : List (Key × D) → Bool
  | [] => true
  | (_, x) :: xs => noIns x && noInsK xs
end
mutual
theorem Rep.back {Z : Addr → Prop} {H : Hp} {a C dx : Addr} {fs : List (Str × V)} (ha : H a = some (.ins C dx fs)) : ∀ {v : V} {d : D}, Rep (fun b => Z b ∧ b ≠ a) H v d → noIns d = true → Rep Z H v d
  | _, _, .non, _ => .non
  | _, _, .bl b, _ => .bl b
  | _, _, .int i, _ => .int i
  | _, _, .str s, _ => .str s
  | _, _, .lst n h r, q => .lst (fun z => n ⟨z, fun e => by rw [e, ha] at h; cases h⟩) h (Reps.back ha r (by simpa [noIns] using q))
  | _, _, .tup n h r, q => .tup (fun z => n ⟨z, fun e => by rw [e, ha] at h; cases h⟩) h (Reps.back ha r (by simpa [noIns] using q))
  | _, _, .dT n h r, q => .dT (fun z => n ⟨z, fun e => by rcases h with h | ⟨o, h⟩ <;> (rw [e, ha] at h; cases h)⟩) h (RepT.back ha r (by simpa [noIns] using q))
  | _, _, .dK n h r, q => .dK (fun z => n ⟨z, fun e => by rcases h with h | ⟨o, h⟩ <;> (rw [e, ha] at h; cases h)⟩) h (RepK.back ha r (by simpa [noIns] using q))
  | _, _, .dN n h r, q => by simp [noIns] at q
  | _, _, .ins n h r, q => by simp [noIns] at q
  | _, _, .ptr b, _ => .ptr b
  | _, _, .ty n, _ => .ty n
theorem Reps.back {Z : Addr → Prop} {H : Hp} {a C dx : Addr} {fs : List (Str × V)} (ha : H a = some (.ins C dx fs)) : ∀ {v : List V} {d : List D}, Reps (fun b => Z b ∧ b ≠ a) H v d → noInss d = true → Reps Z H v d
  | _, _, .nil, _ => .nil
  | _, _, .cons r t, q => by
    rw [noInss, Bool.and_eq_true] at q
    exact .cons (Rep.back ha r q.1) (Reps.back ha t q.2)
theorem RepT.back {Z : Addr → Prop} {H : Hp} {a C dx : Addr} {fs : List (Str × V)} (ha : H a = some (.ins C dx fs)) : ∀ {v : List (List Key × V)} {d : List (List Key × D)}, RepT (fun b => Z b ∧ b ≠ a) H v d → noInsT d = true → RepT Z H v d
  | _, _, .nil, _ => .nil
  | _, _, .cons r t, q => by
    rw [noInsT, Bool.and_eq_true] at q
    exact .cons (Rep.back ha r q.1) (RepT.back ha t q.2)
theorem RepK.back {Z : Addr → Prop} {H : Hp} {a C dx : Addr} {fs : List (Str × V)} (ha : H a = some (.ins C dx fs)) : ∀ {v : List (Key × V)} {d : List (Key × D)}, RepK (fun b => Z b ∧ b ≠ a) H v d → noInsK d = true → RepK Z H v d
  | _, _, .nil, _ => .nil
  | _, _, .cons r t, q => by
    rw [noInsK, Bool.and_eq_true] at q
    exact .cons (Rep.back ha r q.1) (RepK.back ha t q.2)
end
theorem SRep.lend {Z : Addr → Prop} {H : Hp} {σ : L2.St} {μ : Mu} {i k : Nat} {a : Addr} {c : D} (s : SRep Z H σ ρ) (m : Mem Z H μ) (hi : ρ[i]? = some (some (.ptr a))) (hk : μ[k]? = some (a, c)) (ht : isTab c = false := by rfl) : SRep (fun b => Z b ∧ b ≠ a) H σ (ρ.set i (some c)) := by
  obtain ⟨za, hc⟩ := m.get hk
  obtain ⟨v, hs, hr⟩ := s.2 i _ hi
  cases hr
  have := (s.zs (Z' := fun b => Z b ∧ b ≠ a) fun b h => .inl h.1).set i (hc.rep (Z' := fun b => Z b ∧ b ≠ a) ht (fun h => h.2 rfl) fun b h => h.1)
  have e : σ.set i (some (.ref a)) = σ := by
    apply List.ext_getElem?
    intro j
    rw [List.getElem?_set]
    by_cases hj : i = j
    · subst hj
      rw [if_pos rfl, hs, if_pos (List.getElem?_eq_some_iff.mp hs).1]
    · rw [if_neg hj]
  rwa [e] at this
/-- a reading of an owned instance as of data -/
theorem ge_lend {i k : Nat} {a C : Addr} {fs : List (Str × D)} {μ : Mu} {d : D} {Φ : D → Mu → Prop} (hi : ρ[i]? = some (some (.ptr a))) (hk : μ[k]? = some (a, .ins C fs)) (h : Ev te (ρ.set i (some (.ins C fs))) d) (hd : noIns d = true) (q : Φ d μ) : GE te ρ μ Φ := fun Z σ H Q kz s m c => by
  obtain ⟨za, hc⟩ := m.get hk
  cases hc with
  | ins h0 r0 =>
    have kz' : okZ (fun b => Z b ∧ b ≠ a) H := fun b z => kz b z.1
    exact h _ σ H Q kz' (s.lend m hi hk) fun v H1 x1 r1 => c v H1 d μ q (.exs m x1) (Rep.back (x1 _ _ h0) r1 hd)
end
end Du
namespace Du
open PySem L2 PySem.Spec PyProof.Rows
/-! == of dicts, entry by entry: what each key's look-up finds, and how its values compare -/
section
variable {prog : Program} {w : World} {A : Around} {E : Value → Shared → Prop} {s : Shared}
inductive HitsI (prog : Program) (w : World) (A : Around) (s : Shared) (b : Addr) (e2 : Array DictEntry) : List DictEntry → Bool → Prop
  | nil : HitsI prog w A s b e2 [] true
  | miss {x : DictEntry} {r : List DictEntry} : (∀ (E : Value → Shared → Prop) (Q : Option Nat → Shared → Prop), Q none s → wpAny (model prog w) A (dictFind b x.key x.hash) Q E s) → HitsI prog w A s b e2 (x :: r) false
  | hit {x y : DictEntry} {j : Nat} {r : List DictEntry} {e c : Bool} : (∀ (E : Value → Shared → Prop) (Q : Option Nat → Shared → Prop), Q (some j) s → wpAny (model prog w) A (dictFind b x.key x.hash) Q E s) → e2[j]? = some y → SeqAt.EqP prog w A s x.val y.val e → HitsI prog w A s b e2 r c → HitsI prog w A s b e2 (x :: r) (e && c)
theorem sameI {nm : String} {a b : Addr} {o1 o2 : Obj} {e1 e2 : Array DictEntry} {p1 p2 : Nat} {r : Bool} {Q : Bool → Shared → Prop} (ha : (a == sysModules) = false) (hb : (b == sysModules) = false)
    (g1 : s.heap.get? a = some o1) (d1 : o1.data = .dict e1 p1) (g2 : s.heap.get? b = some o2) (d2 : o2.data = .dict e2 p2) (hits : e1.size = e2.size → HitsI prog w A s b e2 e1.toList r) (h : Q (e1.size == e2.size && r) s) :
    wpAny (model prog w) A (Builtin.Dict.samePairs nm a b) Q E s := by
  unfold Builtin.Dict.samePairs Builtin.Dict.showsAll
  rw [if_neg (show ¬ (a == sysModules) = true by rw [ha]; decide), if_neg (show ¬ (b == sysModules) = true by rw [hb]; decide)]
  refine wpAny_bind (wpAny_pure (wpAny_bind (wpAny_pure (wpAny_bind (wpAny_dictEntries g1 d1 ?_)))))
  dsimp only
  refine wpAny_bind (wpAny_dictEntries g2 d2 ?_)
  by_cases zz : e1.size = e2.size
  case neg =>
    rw [if_pos (by simpa using zz)]
    have bf : (e1.size == e2.size) = false := by simpa using zz
    rw [bf, Bool.false_and] at h
    exact wpAny_bind (wpAny_rule (wpAny_pure h))
  case pos =>
    have h' : Q r s := by simpa [zz] using h
    have hits' := hits zz
    rw [if_neg (by rw [zz]; simp)]
    refine wpAny_bind (wpAny_dictEpoch g1 d1 (wpAny_bind ?_))
    rw [Std.Legacy.Range.forIn_eq_forIn_range']
    simp only [Std.Legacy.Range.size, Nat.sub_zero, Nat.add_sub_cancel, Nat.div_one]
    refine wpAny_forIn_list _ (fun rest q s' => s' = s ∧ q = (none, ()) ∧ ∃ i, rest = List.range' i (e1.size - i) ∧ i ≤ e1.size ∧ HitsI prog w A s b e2 (e1.toList.drop i) r) _ ?_ ?_ _ _ ⟨rfl, rfl, 0, by simp, Nat.zero_le _, hits'⟩
    · rintro x rest q s' ⟨rfl, rfl, i, hr, hi, pre⟩
      have lt : i < e1.size := by
        rcases Nat.lt_or_ge i e1.size with z | z
        · exact z
        · rw [Nat.sub_eq_zero_of_le z] at hr; simp at hr
      obtain ⟨rfl, hrest⟩ : x = i ∧ rest = List.range' (i + 1) (e1.size - (i + 1)) := by
        rw [show e1.size - i = (e1.size - (i + 1)) + 1 by omega, List.range'_succ] at hr
        injection hr with c1 c2
        exact ⟨c1, c2⟩
      refine wpAny_bind (wpAny_dictEntries g1 d1 ?_)
      have en : e1[x]? = some e1[x] := Array.getElem?_eq_getElem lt
      rw [en]
      have hdrop : e1.toList.drop x = e1[x] :: e1.toList.drop (x + 1) := by
        rw [List.drop_eq_getElem_cons (by simpa using lt)]; rfl
      generalize e1[x] = y at en hdrop ⊢
      rw [hdrop] at pre
      show wpAny _ _ (holding [y.key, y.val] _ >>= _) _ _ _
      generalize hL : y :: e1.toList.drop (x + 1) = L at pre
      cases pre with
      | nil => cases hL
      | miss no =>
        cases hL
        refine wpAny_bind (wpAny_holding (wpAny_bind (no _ _ ?_)))
        refine wpAny_pure ?_
        show wpAny _ _ (if (!false) = true then _ else _) _ _ _
        rw [if_pos (by decide)]
        exact wpAny_pure (wpAny_pure h')
      | hit yes hj he hrr =>
        cases hL
        rename_i z j e c
        refine wpAny_bind (wpAny_holding (wpAny_bind (yes _ _ ?_)))
        refine wpAny_bind (wpAny_dictEntries g2 d2 ?_)
        rw [hj]
        refine wpAny_holding (he _ _ ?_)
        cases e with
        | false =>
          rw [Bool.false_and] at h'
          show wpAny _ _ (if (!false) = true then _ else _) _ _ _
          rw [if_pos (by decide)]
          exact wpAny_pure (wpAny_pure h')
        | true =>
          show wpAny _ _ (if (!true) = true then _ else _) _ _ _
          rw [if_neg (by decide)]
          refine wpAny_bind (wpAny_dictEpoch g1 d1 ?_)
          rw [if_neg (by simp)]
          exact wpAny_pure ⟨rfl, rfl, x + 1, hrest, lt, by rw [Bool.true_and]; exact hrr⟩
    · rintro q s' ⟨rfl, rfl, i, hr, hi, pre⟩
      have hin : i = e1.size := by
        rcases Nat.lt_or_ge i e1.size with z | z
        · rw [show e1.size - i = (e1.size - (i + 1)) + 1 by omega, List.range'_succ] at hr; exact nomatch hr
        · exact Nat.le_antisymm hi z
      refine wpAny_pure ?_
      have hdl : e1.toList.drop i = [] := by rw [hin]; simp
      rw [hdl] at pre
      cases pre
      exact h'
theorem rcI {a b : Addr} {o1 o2 : Obj} {e1 e2 : Array DictEntry} {p1 p2 : Nat} {r : Bool} (ha : (a == sysModules) = false) (hb : (b == sysModules) = false) (hc : A.units < cLine)
    (t1 : s.TypeIs (.ref a) "dict") (t2 : s.TypeIs (.ref b) "dict") (g1 : s.heap.get? a = some o1) (d1 : o1.data = .dict e1 p1) (g2 : s.heap.get? b = some o2) (d2 : o2.data = .dict e2 p2)
    (hits : e1.size = e2.size → HitsI prog w A.in1 s b e2 e1.toList r) (E Q : Value → Shared → Prop) (h : Q (.bool (e1.size == e2.size && r)) s) : wpAny (model prog w) A (richCompare .Eq (.ref a) (.ref b)) Q E s := by
  refine wpAny_richCompare_same_room (op := .Eq) t1 t2 PySem.F.slot_dict_eq (wpAny_call_entry PySem.F.slot_dict_eq t1 PySem.F.entry_dict_eq ?_ (PySem.F.args_dict_eq_2 _ _)) hc
  show wpAny _ _ (Builtin.Dict.dictSlotArgs "__eq__" ⟨[.ref a, .ref b], []⟩ >>= _) _ _ s
  unfold Builtin.Dict.dictSlotArgs
  refine wpAny_bind (wpAny_bind (wpAny_notOrdered_dict t1 ?_))
  show wpAny _ _ (pure (Value.ref a, Value.ref b)) _ _ s
  refine wpAny_pure (wpAny_bind (wpAny_isInstance (T := "dict") t2 PySem.F.sub_dict_dict ?_))
  simp only [Bool.not_true, Bool.false_eq_true, if_false]
  refine wpAny_bind (wpAny_pure (wpAny_bind (wpAny_pure (wpAny_bind (sameI ha hb g1 d1 g2 d2 hits ?_)))))
  refine wpAny_pure ⟨_, rfl, ?_, ?_⟩
  · intro x; cases x
  · simpa using h
/-- a dict by texts or numbers -/
theorem hits_of {κ : Type} [DecidableEq κ] {knd : KeyKind prog w κ} {b : Addr} {o2 : Obj} {e2 : Array DictEntry} {p2 : Nat} {kb : List (κ × Value)} (g2 : s.heap.get? b = some o2) (d2 : o2.data = .dict e2 p2) (k2 : KeysOf knd e2) (pb : Pairs knd e2.toList kb) (ev : κ → Value → Value → Bool) :
    ∀ {es : List DictEntry} {ka : List (κ × Value)}, Pairs knd es ka → (∀ e ∈ es, ∃ k, knd.is k e.key = true ∧ e.hash = knd.hash k) → (∀ p ∈ ka, ∀ y, valueAt kb p.1 = some y → SeqAt.EqP prog w A s p.2 y (ev p.1 p.2 y)) → HitsI prog w A s b e2 es (ka.all fun p => match valueAt kb p.1 with | some y => ev p.1 p.2 y | none => false)
  | _, _, .nil, _, _ => .nil
  | e :: es, p :: ka, .cons hk hv t, hh, hq => by
    have ih := hits_of g2 d2 k2 pb ev t (fun x hx => hh x (List.mem_cons_of_mem _ hx)) fun x hx => hq x (List.mem_cons_of_mem _ hx)
    obtain ⟨k', h1, h2⟩ := hh e List.mem_cons_self
    have ek : k' = p.1 := knd.inj _ _ _ h1 hk
    rw [ek] at h2
    have hfind : ∀ (E : Value → Shared → Prop) (Q : Option Nat → Shared → Prop), Q (e2.findIdx? fun x => knd.is p.1 x.key) s → wpAny (model prog w) A (dictFind b e.key e.hash) Q E s := fun E Q hQ => by
      rw [h2]; exact wpAny_dictFind_of hk g2 d2 k2 hQ
    have hf2 := pb.find p.1
    rw [List.all_cons]
    cases hj : e2.findIdx? fun x => knd.is p.1 x.key with
    | none =>
      have hn : valueAt kb p.1 = none := by
        rw [← hf2, Option.map_eq_none_iff, List.find?_eq_none]
        intro x hx
        have := (Array.findIdx?_eq_none_iff.mp hj) x (by simpa using hx)
        simpa using this
      rw [hn, Bool.false_and]
      exact .miss fun E Q hQ => hfind E Q (by rw [hj]; exact hQ)
    | some j =>
      obtain ⟨hjl, hj1, hj2⟩ := Array.findIdx?_eq_some_iff_getElem.mp hj
      have hy : valueAt kb p.1 = some e2[j].val := by
        rw [← hf2]
        have : e2.toList.find? (fun x => knd.is p.1 x.key) = some e2[j] := by
          rw [List.find?_eq_some_iff_getElem]
          refine ⟨hj1, j, by simpa using hjl, by simp, fun i hi => ?_⟩
          have := hj2 i hi
          simpa using this
        rw [this]; rfl
      rw [hy]
      refine .hit (j := j) (y := e2[j]) (fun E Q hQ => hfind E Q (by rw [hj]; exact hQ)) (Array.getElem?_eq_getElem hjl) ?_ ih
      rw [hv]
      exact hq p List.mem_cons_self _ hy
end
end Du
namespace Du
open PySem L2 PySem.Spec PyProof.Rows
/-! == of dicts by texts whose values are plain, or dicts with tuple keys -/
theorem eqP_self {prog : Program} {w : World} {A : Around} {s : Shared} {a : Addr} : SeqAt.EqP prog w A s (.ref a) (.ref a) true := fun E Q hq => by
  unfold eqBool
  refine wpAny_holding ?_
  refine wpAny_ite_split (fun _ => wpAny_bind (wpAny_rule (wpAny_pure hq))) (fun h => absurd (beq_self_eq_true _) h)
theorem Rd.dT_inj {H : Hp} {a : Addr} {ks ls : List (List Key × V)} (h : Rd H a (.dT ks)) (g : Rd H a (.dT ls)) : ks = ls := by
  rcases h with h | ⟨o, h⟩ <;> rcases g with g | ⟨o', g⟩ <;> (rw [h] at g; first | (cases g; done) | (cases g; rfl))
def eqTr (ks ls : List (List Key × V)) (f g : List Key → PyData) : Bool := ks.length == ls.length && ks.all fun p => ls.any (fun q => decide (q.1 = p.1)) && PyData.eqv (f p.1) (g p.1)
inductive EqV (K : PySem.W.Frag) (H : Hp) : V → V → Bool → Prop
  | plain {x y : V} {d e : PyData} : Dp K H x d → Dp K H y e → SeqAt.shaped d = true → SeqAt.shaped e = true → EqV K H x y (PyData.eqv d e)
  | dT {a b : Addr} {ks ls : List (List Key × V)} {f g : List Key → PyData} : Rd H a (.dT ks) → Rd H b (.dT ls) → (∀ p ∈ ks, Dp K H p.2 (f p.1) ∧ SeqAt.shaped (f p.1) = true) → (∀ p ∈ ls, Dp K H p.2 (g p.1) ∧ SeqAt.shaped (g p.1) = true) → EqV K H (.ref a) (.ref b) (eqTr ks ls f g)
section
variable {X : Cx} {pins : List (Addr × Obj)} {σ : L2.St} {H : Hp} {s : Shared} {A : Around}
theorem kt_rel {ks : List (List Key × V)} {xs : List (List Key × Addr × Value)} (h : KT H ks xs) : ∀ p ∈ ks, ∃ u, RelV p.2 u := by
  unfold KT at h
  induction h with
  | nil => intro p hp; cases hp
  | cons h t ih =>
    intro p hp
    rcases List.mem_cons.mp hp with rfl | hp
    · exact ⟨_, h.2.2⟩
    · exact ih p hp
theorem EqV.eqP (I : Inv X pins σ H s) {x y : V} {v u : Value} {r : Bool} (h : EqV X.K H x y r) (rx : RelV x v) (ry : RelV y u) (hu : A.units + 66 < cLine) : SeqAt.EqP X.prog X.w A s v u r := by
  cases h with
  | plain hd he sd se => exact eqP_plain I hd he sd se rx ry (by omega)
  | @dT a b ks ls f g ha hb hf hg =>
    cases (show v = Value.ref a from rx)
    cases (show u = Value.ref b from ry)
    obtain ⟨_, ya, xa, ra, da⟩ := dt_rd I.hok ha
    obtain ⟨_, yb, xb, rb, db⟩ := dt_rd I.hok hb
    by_cases e : a = b
    · subst e
      have := Rd.dT_inj ha hb
      subst this
      have ht : eqTr ks ks f g = true := by
        unfold eqTr
        rw [Bool.and_eq_true, List.all_eq_true]
        refine ⟨by simp, fun p hp => ?_⟩
        rw [Bool.and_eq_true]
        refine ⟨List.any_eq_true.mpr ⟨p, hp, by simp⟩, ?_⟩
        obtain ⟨z, hz⟩ := kt_rel ra p hp
        obtain ⟨as, r1⟩ := Dp.reads I _ _ z (hf p hp).1 hz
        obtain ⟨bs, r2⟩ := Dp.reads I _ _ z (hg p hp).1 hz
        have hc := SeqAt.canLay_of_shaped (hf p hp).2
        have hfg : f p.1 = g p.1 := (Reads.unique r1 _ _ r2).1
        rw [← hfg]
        exact SeqAt.eqv_refl _ hc
      rw [ht]
      exact eqP_self
    · refine SeqAt.eqP_refs e fun E Q hq => ?_
      refine rcH (kd := tupleKind (mixKind X.prog X.w)) ya yb (show A.units + 1 < cLine by omega) (by omega) da db (fun _ => hitsT I (show A.units + 1 + 64 < cLine by omega) rb hg ra hf) _ _ ?_
      unfold eqTr at hq
      rw [Paired.length ra, Paired.length rb] at hq
      exact hq
/-- d == e, their keys texts or numbers -/
def rEqKV (K : PySem.W.Frag) : R2 := fun x y H Q => ∃ (a b : Addr) (ks ls : List (Key × V)) (rr : Key → Bool), x = .ref a ∧ y = .ref b ∧ Rd H a (.dK ks) ∧ Rd H b (.dK ls) ∧ (∀ p ∈ ks, ∀ z, valV ls p.1 = some z → EqV K H p.2 z (rr p.1)) ∧
  Q (.bl (ks.length == ls.length && ks.all fun p => (valV ls p.1).isSome && rr p.1)) H
theorem kv_mem {κ : Type} {ks : List (κ × V)} {vs : List (κ × Value)} (h : KV ks vs) : ∀ q ∈ vs, ∃ p ∈ ks, p.1 = q.1 ∧ RelV p.2 q.2 := by
  unfold KV at h
  induction h with
  | nil => intro q hq; cases hq
  | cons h t ih =>
    intro q hq
    rcases List.mem_cons.mp hq with rfl | hq
    · exact ⟨_, List.mem_cons_self, h⟩
    · obtain ⟨p, h1, h2⟩ := ih q hq
      exact ⟨p, List.mem_cons_of_mem _ h1, h2⟩
theorem kv_all {κ : Type} {ks : List (κ × V)} {vs : List (κ × Value)} (h : KV ks vs) (q : κ → Bool) : (ks.all fun p => q p.1) = vs.all fun p => q p.1 := by
  unfold KV at h
  induction h with
  | nil => rfl
  | cons h t ih => rw [List.all_cons, List.all_cons, ih, h.1]
theorem op_eqKV {K : PySem.W.Frag} {k : Nat} (hK : X.K = K) (hr : Room k X.A) (hu : X.A.units + 67 < cLine) : OpR X (compareOp .Eq) (rEqKV K) := by
  subst hK
  intro pins s σ H x y v u Q I rx ry h
  obtain ⟨a, b, ks, ls, rr, rfl, rfl, ha, hb, hq, q⟩ := h
  cases (show v = Value.ref a from rx)
  cases (show u = Value.ref b from ry)
  obtain ⟨_, ya, va, ra, oa, ea, pa, ga, xa, da, ka, prA, nA⟩ := dk_rd I.hok ha
  obtain ⟨_, yb, vb, rb, ob, eb, pb, gb, xb, db, kb, prB, nB⟩ := dk_rd I.hok hb
  have la : ea.size = ks.length := by rw [ra.length, ← prA.length]; simp
  have lb : eb.size = ls.length := by rw [rb.length, ← prB.length]; simp
  have tA : s.TypeIs (.ref a) "dict" := ⟨oa, ga, xa.1⟩
  have tB : s.TypeIs (.ref b) "dict" := ⟨ob, gb, xb.1⟩
  refine rcI (r := ks.all fun p => (valV ls p.1).isSome && rr p.1) ya yb (by omega) tA tB ga da gb db (fun _ => ?_) _ _ ?_
  · have h1 := hits_of (prog := X.prog) (w := X.w) (A := X.A.in1) (s := s) (knd := mixKind X.prog X.w) gb db kb prB (fun k _ _ => rr k) prA (fun e he => ka e (by simpa using he)) fun p hp y hy => by
      obtain ⟨p', h2, h3, h4⟩ := kv_mem ra p hp
      have h5 := rb.val p.1
      rw [hy] at h5
      cases hz : valV ls p.1 with
      | none => rw [hz] at h5; exact (show False from h5).elim
      | some z =>
        rw [hz] at h5
        have h6 := hq p' h2 z (by rw [h3]; exact hz)
        rw [h3] at h6
        exact h6.eqP I h4 h5 (show X.A.units + 1 + 66 < cLine by omega)
    have e : (va.all fun p => match valueAt vb p.1 with | some y => rr p.1 | none => false) = ks.all fun p => (valV ls p.1).isSome && rr p.1 := by
      have h7 := kv_all ra fun k => (valV ls k).isSome && rr k
      rw [h7, Bool.eq_iff_iff, List.all_eq_true, List.all_eq_true]
      have key : ∀ p : Key × Value, (match valueAt vb p.1 with | some y => rr p.1 | none => false) = ((valV ls p.1).isSome && rr p.1) := fun p => by
        rw [(rb.val p.1).isSome_eq]
        cases valueAt vb p.1 <;> simp
      exact ⟨fun h p hp => by rw [← key]; exact h p hp, fun h p hp => by rw [key]; exact h p hp⟩
    rw [← e]
    exact h1
  · rw [la, lb]
    exact ⟨.bl _, H, I, rfl, q⟩
end
end Du
namespace Du
open PySem L2 PySem.Spec PyProof.Rows
/-! == of dicts whose keys are tuples of tuples, their values plain -/
section
variable {X : Cx}
def rEqN (K : PySem.W.Frag) (w : World) : R2 := fun x y H Q => ∃ (a b : Addr) (es fs : NEs) (f g : NestedKey → PyData), x = .ref a ∧ y = .ref b ∧ (∃ ob, H a = some (NDO (hN w) a es ob)) ∧ (∃ ob, H b = some (NDO (hN w) b fs ob)) ∧ NKeys H es ∧ NKeys H fs ∧
  (∀ p ∈ es, Dp K H p.2.2 (f p.1) ∧ SeqAt.shaped (f p.1) = true) ∧ (∀ p ∈ fs, Dp K H p.2.2 (g p.1) ∧ SeqAt.shaped (g p.1) = true) ∧
  Q (.bl (es.length == fs.length && es.all fun p => (nval fs p.1).isSome && PyData.eqv (f p.1) (g p.1))) H
theorem nval_mem {fs : NEs} {k : NestedKey} {v : V} (h : nval fs k = some v) : ∃ b, (k, b, v) ∈ fs := by
  unfold nval at h
  obtain ⟨p, hp, e⟩ := Option.map_eq_some_iff.mp h
  have h1 := List.mem_of_find?_eq_some hp
  have h2 : p.1 = k := by have := List.find?_some hp; exact of_decide_eq_true this
  obtain ⟨k', b, v'⟩ := p
  subst h2; subst e
  exact ⟨b, h1⟩
theorem hitsN {pins : List (Addr × Obj)} {σ : L2.St} {H : Hp} {s : Shared} {A : Around} (I : Inv X pins σ H s) (hu : A.units + 64 < cLine) {fs : NEs} {xb : List (NestedKey × Addr × Value)} {f g : NestedKey → PyData} (rb : NPr fs xb) (hg : ∀ p ∈ fs, Dp X.K H p.2.2 (g p.1) ∧ SeqAt.shaped (g p.1) = true) :
    ∀ {es : NEs} {xa : List (NestedKey × Addr × Value)}, NPr es xa → (∀ p ∈ es, Dp X.K H p.2.2 (f p.1) ∧ SeqAt.shaped (f p.1) = true) → HitsH X.prog X.w A s xb xa (es.all fun p => (nval fs p.1).isSome && PyData.eqv (f p.1) (g p.1)) := by
  intro es xa h
  unfold NPr at h
  induction h with
  | nil => intro _; exact .nil
  | @cons p q es xa h t ih =>
    intro hf
    have ih' := ih fun p hp => hf p (List.mem_cons_of_mem _ hp)
    have rv : RelO (nval fs p.1) ((atKey xb p.1).map (·.2)) := rb.val p.1
    have h1 : p.1 = q.1 := h.1
    have h3 : RelV p.2.2 q.2.2 := h.2.2
    rw [List.all_cons]
    cases hv : nval fs p.1 with
    | none =>
      rw [hv] at rv
      have : atKey xb q.1 = none := by
        rw [← h1]
        cases hk : atKey xb p.1 with
        | none => rfl
        | some z => rw [hk] at rv; exact rv.elim
      simp only [Option.isSome_none, Bool.false_and]
      exact .miss this
    | some y =>
      rw [hv] at rv
      cases hk : atKey xb p.1 with
      | none => rw [hk] at rv; exact rv.elim
      | some z =>
        rw [hk] at rv
        simp only [Option.isSome_some, Bool.true_and]
        obtain ⟨bb, hm⟩ := nval_mem hv
        have hy := hg _ hm
        have hx := hf p List.mem_cons_self
        exact .hit (p := z) (by rw [← h1]; exact hk) (eqP_plain I hx.1 hy.1 hx.2 hy.2 h3 rv hu) ih'
theorem op_eqN {K : PySem.W.Frag} {w : World} (hK : X.K = K) (hw : X.w = w) (hu : X.A.units + 65 < cLine) : OpR X (compareOp .Eq) (rEqN K w) := by
  subst hK; subst hw
  intro pins s σ H x y v u Q I rx ry h
  obtain ⟨a, b, es, fs, f, g, rfl, rfl, ⟨oa, ha⟩, ⟨ob, hb⟩, ka, kb, hf, hg, q⟩ := h
  cases (show v = Value.ref a from rx)
  cases (show u = Value.ref b from ry)
  obtain ⟨_, ya, xa, ra, da⟩ := (NDO.inj I.hok ha).dictH I.hok ka
  obtain ⟨_, yb, xb, rb, db⟩ := (NDO.inj I.hok hb).dictH I.hok kb
  refine rcH (kd := nestedKind X.prog X.w) ya yb (n_room (by omega)) (by omega) da db (fun _ => hitsN I (show X.A.units + 1 + 64 < cLine by omega) rb hg ra hf) _ _ ⟨.bl _, H, I, ?_, q⟩
  have l1 : es.length = xa.length := Paired.length ra
  have l2 : fs.length = xb.length := Paired.length rb
  rw [l1, l2]
  rfl
end
/-! in data -/
theorem RepN.pl {K : PySem.W.Frag} {Z : Addr → Prop} {H : Hp} {f : NestedKey → D} : ∀ {es : NEs} {ds : List (NestedKey × D)}, RepN Z H es ds → (∀ p ∈ ds, p.2 = f p.1 ∧ okE (f p.1)) → ∀ p ∈ es, Dp K H p.2.2 (toP (f p.1)) ∧ SeqAt.shaped (toP (f p.1)) = true
  | _, _, .nil, _, p, hp => nomatch hp
  | _, _, .cons (k := k) (v := v) (d := d) hk hd r t, hf, p, hp => by
    rcases List.mem_cons.mp hp with rfl | hp
    · have := hf _ List.mem_cons_self
      dsimp only at this ⊢
      rw [← this.1]
      have h2 : okE d := this.1 ▸ this.2
      exact ⟨dp_of r h2.1, h2.sh⟩
    · exact RepN.pl t (fun q hq => hf q (List.mem_cons_of_mem _ hq)) p hp
theorem RepN.allK {Z : Addr → Prop} {H : Hp} (q : NestedKey → Bool) : ∀ {es : NEs} {ds : List (NestedKey × D)}, RepN Z H es ds → (es.all fun p => q p.1) = ds.all fun p => q p.1
  | _, _, .nil => rfl
  | _, _, .cons _ _ _ t => by rw [List.all_cons, List.all_cons, RepN.allK q t]
/-- kvs, lvs: each value is what f, g tell of its key -/
theorem rd_eqN {K : PySem.W.Frag} {w : World} {kvs lvs : List (NestedKey × D)} {f g : NestedKey → D} (hf : ∀ p ∈ kvs, p.2 = f p.1 ∧ okE (f p.1)) (hg : ∀ p ∈ lvs, p.2 = g p.1 ∧ okE (g p.1)) :
    R2D (rEqN K w) (.dN (hN w) kvs) (.dN (hN w) lvs) (.bl (kvs.length == lvs.length && kvs.all fun p => (valD lvs p.1).isSome && eqD (f p.1) (g p.1))) := fun Z H x y Q k r1 r2 q => by
  cases r1 with
  | dN n1 h1 t1 => cases r2 with
    | dN n2 h2 t2 =>
      rename_i a1 es o1 a2 fs o2
      refine ⟨_, _, _, _, fun k => toP (f k), fun k => toP (g k), rfl, rfl, ⟨_, h1⟩, ⟨_, h2⟩, t1.keysOk, t2.keysOk, t1.pl hf, t2.pl hg, ?_⟩
      have e : (kvs.length == lvs.length && kvs.all fun p => (valD lvs p.1).isSome && eqD (f p.1) (g p.1)) = (kvs.length == lvs.length && kvs.all fun p => (nval fs p.1).isSome && PyData.eqv (toP (f p.1)) (toP (g p.1))) := by
        simp only [t2.isSome]; rfl
      rw [t1.len, t2.len, t1.allK (fun k => (nval fs k).isSome && PyData.eqv (toP (f k)) (toP (g k))), ← e]
      exact q _ H (Ex.rf H) (.bl _)
end Du
namespace Du
open PySem L2
/-! the empty tuple of the written part: a default value -/
def KT0 (K : PySem.W.Frag) (p : Addr) : Prop := ∃ (o : Obj) (n : Nat), K.lookup p = some o ∧ o.cls = .type "tuple" ∧ o.data = .seq #[] n
theorem KT0.sq {K : PySem.W.Frag} {p : Addr} (h : KT0 K p) (H : Hp) : SqT K H p [] := by
  obtain ⟨o, n, h1, h2, h3⟩ := h
  exact .inr ⟨o, #[], n, h1, h2, h3, by decide, .nil⟩
/-- things one behind another: a list, a tuple, or that empty tuple -/
def sqP (K : PySem.W.Frag) (e : D) (ds : List D) : Prop := e = .lst ds ∨ e = .tup ds ∨ ∃ p, e = .ptr p ∧ KT0 K p ∧ ds = []
section
variable {K : PySem.W.Frag} {ρ : Rho} {μ : Mu} {te ta tb : TE} {d e z : D} {ds : List D} {Φ : D → Mu → Prop} {N : Rho → Mu → Prop} {R : D → Mu → Prop}
theorem ei_seqK {p : Addr} (h : Ev te ρ (.ptr p)) (hk : KT0 K p) : EvI (iSeq K te) ρ [] := fun Z σ H R k s q => .inr <|
  h Z σ H _ k s fun x H1 x1 r1 => by
    cases r1
    refine ⟨p, rfl, ⟨[], hk.sq H1⟩, q _ H1 x1 fun Z' hz => ?_⟩
    refine ⟨fun i Hc hi => by simp at hi, fun Hc g => ⟨[], hk.sq Hc, Nat.zero_le _⟩, fun i Hc v H' hi => by simp at hi⟩
theorem ei_enumK {p : Addr} (h : Ev te ρ (.ptr p)) (hk : KT0 K p) : EvI (iEnumA K (tCons te tNil)) ρ [] := fun Z σ H R k s q =>
  ev_cons h ev_nil Z σ H _ k s fun vs H1 x1 r1 => by
    cases r1 with
    | cons r r1 =>
      cases r1; cases r
      refine ⟨p, [], rfl, .inr ⟨hk.sq H1, q _ H1 x1 fun Z' hz => ?_⟩⟩
      refine ⟨fun i Hc hi => by simp at hi, fun Hc g => ?_, fun i Hc v H' hi => by simp at hi⟩
      exact ⟨[], hk.sq Hc, Nat.zero_le _⟩
theorem ei_sqP (h : Ev te ρ e) (s : sqP K e ds) : EvI (iSeq K te) ρ ds := by
  rcases s with rfl | rfl | ⟨p, rfl, hk, rfl⟩
  · exact ei_seqL h
  · exact ei_seqT h
  · exact ei_seqK h hk
theorem ei_enumP (h : Ev te ρ e) (s : sqP K e ds) : EvI (iEnumA K (tCons te tNil)) ρ (ds.zipIdx.map fun p => D.tup [.int p.2, p.1]) := by
  rcases s with rfl | rfl | ⟨p, rfl, hk, rfl⟩
  · exact ei_enumL (ev_cons h ev_nil)
  · exact ei_enumT (ev_cons h ev_nil)
  · exact ei_enumK h hk
theorem rl_isiTK {p : Addr} {b : Bool} {Ts : List String} (hk : KT0 K p) (e : PySem.W.kitAny K (.type "tuple") (Ts.map Value.type) = some b) : RLD (rIsiT K) [.ptr p, .tup (Ts.map D.ty)] (.bl b) := fun Z H xs Q k r q => by
  obtain ⟨o, n, h1, h2, h3⟩ := hk
  cases r with
  | cons r rs => cases rs with
    | cons r' rs =>
      cases rs
      cases r
      cases r' with
      | tup n hv rs =>
        refine ⟨_, _, _, _, Ts.map Value.type, b, rfl, hv, ?_, .kTuple h1 h2, e, q _ H (Ex.rf H) (.bl b)⟩
        clear hv e
        rename_i vs
        induction Ts generalizing vs with
        | nil => cases rs; exact .nil
        | cons T Ts ih =>
          cases rs with
          | cons r rs => cases r; exact .cons (.ty T) (ih rs)
/-! slices -/
theorem ev_take {tn : TE} {n : Nat} (h : Ev te ρ (.lst ds)) (hn : Ev tn ρ (.int n)) : Ev (tSl (rSlL K) te tNoPart (tPart tn)) ρ (.lst (ds.take n)) := fun Z σ H Q k s q =>
  ge_take (K := K) (ρ := ρ) (μ := []) (Φ := fun d _ => d = .lst (ds.take n)) (ge_ev h (ge_ev hn ⟨ds, n, rfl, rfl, rfl⟩)) Z σ H Q k s .nil fun v H' d μ' e n r => by
    subst e
    exact q v H' (fun a o ho => n.ext a o (by simp [dom]) ho) r
theorem ev_drop {tn : TE} {n : Nat} (h : Ev te ρ (.lst ds)) (hn : Ev tn ρ (.int n)) (hl : n ≤ ds.length) : Ev (tSl (rSlL K) te (tPart tn) tNoPart) ρ (.lst (ds.drop n)) := ev_cut1 h (eo_some hn) eo_none hl
/-- an operator whose right side is an owned list -/
theorem ge_opR {r : R2} (h : GE ta ρ μ fun d μ1 => GE tb ρ μ1 fun e μ2 => ∃ (a : Addr) (k : Nat) (ds : List D) (z : D), e = .ptr a ∧ μ2[k]? = some (a, .lst ds) ∧ R2D r d (.lst ds) z ∧ flatD z = true ∧ Φ z μ2) : GE (tOp r ta tb) ρ μ Φ := fun Z σ H Q k s m c =>
  h Z σ H _ k s m fun x H1 d μ1 g n1 r1 => g Z σ H1 _ (n1.ok k) (s.mono (n1.to m)) n1.mem fun y H2 e μ2 q n2 r2 => by
    obtain ⟨a, kk, ds, z, rfl, hk, hr, hf, q⟩ := q
    cases r2
    obtain ⟨za, vs, hv, rs⟩ := n2.mem.lst hk
    have hz : ∀ b, (Z b ∧ b ≠ a) → Z b ∨ H2 b = none := fun b h => .inl h.1
    exact hr (fun b => Z b ∧ b ≠ a) H2 x _ Q (fun b h => n2.ok (n1.ok k) b h.1) ((r1.mono (n2.to n1.mem)).zs hz) (.lst (fun h => h.2 rfl) hv (rs.zs hz)) fun v H3 x3 r3 => c v H3 z μ2 q ((n1.tr n2).tr (.exs n2.mem x3)) (r3.flat hf)
/-! a def with defaults -/
theorem FunD.ok0 {P : Program} {w : World} {mg : Str → Option Value} {base : Heap} {x qual : Str} {st : Stmt} {dvs : List V} {kws : List (Str × V)} {f : Addr} {fd : FuncData} {N ps : List Str} {k : Nat} {sp : Sp} (F : FunD K x qual (defArgs st) (defBody st) (defScope st) dvs kws f fd) (S : FnScope N ps (defScope st)) (len : ∀ vs H Q E, sp vs H Q E → vs.length = ps.length)
    (hbody : ∀ (cdv : Value) (A : Around) (outer : List Env) (s : Shared) (H : Hp) (vs : List V) (Q : VK) (E : XK), Room k (A.deeper (PyProof.Rows.envOfC qual (defScope st) s.heap.objs.size f cdv)) → sp vs H Q E →
      ∃ t, PSs (cxOf CX0 P w K mg base N qual (defScope st) f cdv A outer s H E).nox (defBody st) t ∧ t { nx := fun _ H' => Q .non H', rt := Q } (start N vs) H) : FnOk P w K mg base CX0 (k + 1) f fd ps sp :=
  FunD.ok F S len fun cdv A outer s H vs Q E hr hsp => by
    obtain ⟨t, h, q⟩ := hbody cdv A outer s H vs Q E hr hsp
    exact ⟨t, h.nox, q⟩
theorem eff_okD {P : Program} {w : World} {mg : Str → Option Value} {base : Heap} {x qual : Str} {stm : Stmt} {dvs : List V} {fa : Addr} {fd : FuncData} {N0 ps : List Str} {k : Nat} {R : List D → Mu → (D → Mu → Prop) → Prop} (F : FunD K x qual (defArgs stm) (defBody stm) (defScope stm) dvs [] fa fd) (S : FnScope N0 ps (defScope stm)) (len : ∀ ds μ Φ, R ds μ Φ → ds.length = ps.length)
    (hb : ∀ (cdv : Value) (A : Around) (outer : List Env) (s : Shared) (H : Hp) (E : XK), Room k (A.deeper (PyProof.Rows.envOfC qual (defScope stm) s.heap.objs.size fa cdv)) →
      ∃ t, PSs (cxOf CX0 P w K mg base N0 qual (defScope stm) fa cdv A outer s H E).nox (defBody stm) t ∧ ∀ ds μ Φ, R ds μ Φ → GS t (rho0 N0 ds) μ (fun _ μ' => μ'.map (·.1) = μ.map (·.1) ∧ Φ .non μ') (fun d μ' => μ'.map (·.1) = μ.map (·.1) ∧ Φ d μ')) : FnOk P w K mg base CX0 (k + 1) fa fd ps (spM R) := by
  have fin : ∀ {Z Z' : Addr → Prop} {H H' : Hp} {μ μ' : Mu}, Mem Z H μ → μ'.map (·.1) = μ.map (·.1) → Nz Z H μ Z' H' μ' → Nxt Z H μ H' μ' ∧ ∀ a, Z a → Z' a := fun m e z => by
    have zz : ∀ a, _ → _ := fun a h => (z.zk a h).resolve_right fun h => h.2 (by have := h.1; unfold dom at this ⊢; rw [e]; exact this)
    exact ⟨⟨z.ext, e, ⟨fun p hp => by
      obtain ⟨z1, c1⟩ := z.mem.cs p hp
      exact ⟨z.zs _ z1, c1.zs zz⟩, z.mem.nd⟩⟩, zz⟩
  refine FunD.ok0 F S (fun vs H Q E h => ?_) (fun cdv A outer s H vs Q E hr h => ?_)
  · obtain ⟨Z, ds, μ, Φ, _, r, _, hR, _⟩ := h
    exact r.len.trans (len ds μ Φ hR)
  · obtain ⟨Z, ds, μ, Φ, ok, r, m, hR, q⟩ := h
    obtain ⟨t, ht, hs⟩ := hb cdv A outer s H E hr
    refine ⟨t, ht, ?_⟩
    have s0 : SRep Z H (L2.start N0 vs) (rho0 N0 ds) := by
      unfold L2.start rho0
      rw [r.len]
      exact SRep.start r _
    refine hs ds μ Φ hR Z _ H _ ok s0 m (fun σ' H' ρ' μ' Z' ⟨e, p⟩ z s' => ?_) fun v H' d μ' Z' ⟨e, p⟩ z r' => ?_
    · exact q _ H' _ μ' p (fin m e z).1 .non
    · exact q _ H' _ μ' p (fin m e z).1 (r'.zs fun a h => .inl ((fin m e z).2 a h))
/-- C(..) whose last parameter stands by its default -/
theorem ev_makeD {C p0 : Addr} {Rm : List D → Mu → (D → Mu → Prop) → Prop} {E : XK} {ta : TA} {fs : List (Str × D)} (ha : EvA ta ρ ds) (hr : ∀ p, Rm (.ptr p :: (ds ++ [.ptr p0])) [(p, .ins C [])] fun d μ' => d = .non ∧ μ' = [(p, .ins C fs)]) : Ev (tMake C (spM Rm) [.ref p0] E ta) ρ (.ins C fs) := fun Z σ H Q k s q =>
  ha Z σ H _ k s fun vs H1 x1 r1 x dx hx hdx ne => by
    have k1 := k.ex x1
    have hdx' : (upd H1 dx (.own x)) x = none := by rw [upd_ne ne.symm]; exact hx
    have k2 : okZ Z (upd H1 dx (.own x)) := k1.new hdx
    have e1 : Ex H1 (upd H1 dx (.own x)) := Ex.new hdx
    have e2 : Ex (upd H1 dx (.own x)) (upd (upd H1 dx (.own x)) x (.ins C dx [])) := Ex.new hdx'
    have hz : ∀ b, (Z b ∨ b = x) → Z b ∨ H1 b = none := fun b z => z.imp id fun (e : b = x) => by rw [e]; exact hx
    have m2 : Mem (fun b => Z b ∨ b = x) (upd (upd H1 dx (.own x)) x (.ins C dx [])) [(x, .ins C [])] := Mem.nil.ownC hdx' (.ins upd_same .nil)
    refine ⟨fun b => Z b ∨ b = x, .ptr x :: (ds ++ [.ptr p0]), [(x, .ins C [])], _, k2.add rfl, .cons (.ptr x) ?_, m2, hr x, fun v H' d μ' ⟨e, em⟩ n r => ?_⟩
    · exact ((r1.zs hz).mono (e1.tr e2).to).app (.cons (.ptr p0) .nil)
    · subst e; subst em
      cases r
      refine ⟨rfl, ?_⟩
      obtain ⟨_, dx', vs', hv, rs⟩ := n.mem.ins (k := 0) rfl
      refine q _ H' (fun a o ho => ?_) (.ins (k1.no hx) hv (rs.zs fun b z => .inl (.inl z)))
      refine n.ext a o (fun h => ?_) ((e1.tr e2) a o (x1 a o ho))
      have : a = x := by simpa [dom] using h
      rw [this] at ho
      have := x1 x o ho
      rw [hx] at this; cases this
end
end Du
namespace Du
open PySem L2
/-! unpacking a list or a tuple -/
def gTL (K : PySem.W.Frag) (n : Nat) (t : TGs) : TG := fun v σ H Q => gTup K n t v σ H Q ∨ gUnl K n t v σ H Q
theorem k_pgtl {X : Cx} {K : PySem.W.Frag} {pos : Pos} {es : List Expr} {kk n : Nat} {t : TGs} (hK : X.K = K) (hc : X.calm = true) (h : PGs X es t) (hn : (assignEach es X.env).length = n := by rfl) (hst : (assignEach es X.env).findIdx? (·.1) = none := by rfl) : PG X (.Tuple es kk pos) (gTL K n t) := by
  subst hK
  exact ⟨fun pins s σ H v u Q I r hw => hw.elim (fun hw => (pg_tup hc h hn hst).run pins s σ H v u Q I r hw) fun hw => (pg_unl hc h hn hst).run pins s σ H v u Q I r hw⟩
section
variable {K : PySem.W.Frag} {ρ : Rho} {ds : List D}
theorem ga_tl {gs : TGs} {ρ' : Rho} {n : Nat} {e : D} (h : GAs gs ds ρ ρ') (hl : ds.length = n) (he : e = .tup ds ∨ e = .lst ds) : GA (gTL K n gs) e ρ ρ' := fun Z σ H v Q k s r q => by
  rcases he with rfl | rfl
  · exact .inl (ga_tup h hl Z σ H v Q k s r q)
  · cases r with
    | lst nz h1 rs => exact .inr ⟨_, _, rfl, .inl (.inl h1), rs.len.trans hl, h Z σ H _ Q k s rs q⟩
theorem gw_tl {gs : TGs} {vs : List Nat} {ρ' : Rho} {n : Nat} {e : D} (h : GWs gs vs ds ρ ρ') (hl : ds.length = n) (he : e = .tup ds ∨ e = .lst ds) : GW (gTL K n gs) vs e ρ ρ' := fun Z σ H v Q k s r q => by
  rcases he with rfl | rfl
  · exact .inl (gw_tup h hl Z σ H v Q k s r q)
  · cases r with
    | lst nz h1 rs => exact .inr ⟨_, _, rfl, .inl (.inl h1), rs.len.trans hl, h Z σ H _ Q k s rs q⟩
end
end Du
namespace Du
open PySem L2 PySem.Spec PyProof.Rows
/-! d.items() where the keys are tuples -/
def Itit (d : Addr) (o : Obj) (kvs : List (List Key × V)) : It :=
  ⟨fun i H => H d = some (.frz o (.dT kvs)) ∧ i < kvs.length, fun i H x H' => ∃ (T : Addr) (k : List Key) (v : V) (q : Addr), kvs[i]? = some (k, v) ∧ x = .ref T ∧ H T = none ∧ H q = some (.tup (k.map kV)) ∧ H' = upd H T (.tup [.ref q, v]), fun i H => H d = some (.frz o (.dT kvs)) ∧ kvs.length ≤ i⟩
section
variable {X : Cx} {pins : List (Addr × Obj)} {σ : L2.St} {H : Hp} {s : Shared} {d : Addr} {o : Obj}
theorem frzTV {kvs : List (List Key × V)} (I : Inv X pins σ H s) (h : H d = some (.frz o (.dT kvs))) :
    (d == sysModules) = false ∧ ∃ (es : Array DictEntry) (ep : Nat), s.heap.DictRaw d es ep ∧ o.data = .dict es ep ∧ es.size = kvs.length ∧
      ∀ (i : Nat) (hi : i < es.size) (k : List Key) (v : V), kvs[i]? = some (k, v) → ∃ q : Addr, es[i].key = .ref q ∧ H q = some (.tup (k.map kV)) ∧ RelV v es[i].val := by
  obtain ⟨hd, z, hs, xs, pr, o', es, ep, ho, hx, hdt, he, hrest⟩ := I.hok d _ h
  rw [hd] at ho
  cases ho
  refine ⟨hs, es, ep, ⟨o, hd, hx, hdt⟩, hdt, ?_, fun i hi k v e => ?_⟩
  · have l1 : es.size = xs.length := size_of_entries he
    have l2 : kvs.length = xs.length := Paired.length pr
    omega
  · obtain ⟨b, hb, e1, e2, e3⟩ := paired_get pr e
    have q := entry_at he i
    rw [hb, Array.getElem?_eq_getElem hi] at q
    have q' := Option.some.inj q
    exact ⟨b.2.1, by rw [q']; rfl, e2, by rw [q']; exact e3⟩
end
section
variable {P : Program} {w : World} {K : PySem.W.Frag} {d : Addr} {o : Obj} {es : Array DictEntry} {ep : Nat}
theorem turn_itemsT {kvs : List (List Key × V)} {elts : List Expr} {kk : Nat} {tpos : Pos} (it : Addr) (hod : o.data = .dict es ep) :
    Turn P w K (.Tuple elts kk tpos) (Itit d o kvs) [it] it (fun i h => ∃ ok ov, IsItemIter h it d i kvs.length ep ok ov) where
  mem := by simp
  obj := fun i h st b hb => by
    have eb : b = it := by simpa using hb
    subst eb
    obtain ⟨ok, ov, e⟩ := st
    exact ⟨_, e, fun v z => nomatch z⟩
  keep := fun i h h' st k => let ⟨ok, ov, e⟩ := st; ⟨ok, ov, k it (by simp) _ e⟩
  item := by
    intro X eP ew eK hc i pins s σ H E I hf st hg
    subst eP ew eK
    obtain ⟨hd, hi⟩ := hg
    obtain ⟨hs, es', ep', hm, hdt, hsz, ent⟩ := frzTV I hd
    obtain ⟨rfl, rfl⟩ := dict_ep hod hdt
    obtain ⟨⟨k, v⟩, hkv⟩ : ∃ p, kvs[i]? = some p := ⟨kvs[i], List.getElem?_eq_getElem hi⟩
    obtain ⟨q, hkey, hq, ru⟩ := ent i (by omega) k v hkv
    obtain ⟨ok, ov, he⟩ := st
    rw [← hsz] at he
    have hlt : @LT.lt Nat _ it s.heap.objs.size := Heap.lt_size he
    refine wpAny_pyNext_items_item_raw he hm (by omega) fun h' ho hT hz hk => ?_
    refine ⟨_, rfl, wpAny_letOwnedTupleGo_items (s := { s with heap := h' }) ho fun h2 he' sb => ?_⟩
    rw [hkey] at hT
    have hT2 : h2.get? s.heap.objs.size = some { cls := .type "tuple", data := .seq #[.ref q, es'[i].val] } := (sb.2 _ (Nat.ne_of_gt hlt)).trans hT
    have new : ObjOk X.prog X.w (upd H s.heap.objs.size (.tup [.ref q, v])) h2 s.heap.objs.size (.tup [.ref q, v]) := ⟨by show 2 ≤ sizeLine; decide, [.ref q, es'[i].val], .cons rfl (.cons ru .nil), ⟨_, hT2, rfl, _, rfl⟩⟩
    have I1 : Inv X pins σ (upd H s.heap.objs.size (.tup [.ref q, v])) { s with heap := h2 } := I.turnedNew (t' := s.toks) (ch := [it]) (fun b ob hb e => (sb.2 b (by simpa using hb)).trans (hk b ob (by simpa using hb) e)) hf (Nat.le_refl _) new
    refine ⟨.ref s.heap.objs.size, _, I1, rfl, ⟨_, k, v, q, hkv, rfl, I.hok.fresh (Nat.le_refl _), hq, rfl⟩, ⟨_, _, by rw [← hsz]; exact he'⟩, fun b hb => ?_⟩
    have eb : b = it := by simpa using hb
    rw [eb, upd_ne (Nat.ne_of_lt hlt)]
    exact (hf it (by simp)).1
  done := by
    intro X eP ew eK hc i pins s σ H E I hf st hg
    subst eP ew eK
    obtain ⟨hd, hi⟩ := hg
    obtain ⟨f0, f1, f2, f3, f4, f5⟩ := hf it (by simp)
    obtain ⟨hs, es', ep', hm, hdt, hsz, ent⟩ := frzTV I hd
    obtain ⟨rfl, rfl⟩ := dict_ep hod hdt
    obtain ⟨ok, ov, he⟩ := st
    rw [← hsz] at he
    exact wpAny_pyNext_items_end_raw (I.ok.hd hc) he hm (by omega) fun h' eb => ⟨rfl, I.turned (t' := s.toks) (fun b ob hb e => eb b ob hb e) f0 f1 f3 f4 f5⟩
  self := fun A i s Q E st h => let ⟨_, _, e⟩ := st; PySem.W.kcp_self e h
end
def iItT (td : TE) : TI := fun σ H R => td σ H fun x H1 => ∃ d o kvs, x = .ref d ∧ H1 d = some (.frz o (.dT kvs)) ∧ R (Itit d o kvs) H1
def iItA (td : TE) : TI := fun σ H R => iItems td σ H R ∨ iItT td σ H R
section
variable {X : Cx} {e : Expr} {td : TE} {apos cpos : Pos}
theorem pi_itT {elts : List Expr} {kk : Nat} {tpos : Pos} (he : PE X e td) (hbase : attributeBase e "items" X.env (eval e X.env) = eval e X.env := by rfl) (hline : (apos.endLine == cpos.line) = true := by rfl) :
    PI X (.Tuple elts kk tpos) (.Call (.Attribute e "items" apos) [] [] cpos) (iItT td) := ⟨fun pins s σ H R I h => by
  refine wpAny_Call_method (T := "dict") (id := "dict.items") hbase rfl hline F.plainAttrs_dict F.slot_dict_items F.type_dict_items (thn (he.run pins s σ H _ I h) fun u s2 ⟨x, H1, I1, rx, d, o, kvs, ex, hd, q⟩ => ?_)
  subst ex
  cases rx
  have I2 : Inv X pins σ H1 { s2 with heap := s2.heap.push { cls := .type "dict_items", data := .fields #[.ref d] } } := I1.kept (t' := s2.toks) fun b ob z => Heap.get?_push_of_some _ z
  obtain ⟨hs, es, ep, hm, hdt, hsz, ent⟩ := frzTV I1 hd
  have hm2 : (s2.heap.push { cls := .type "dict_items", data := .fields #[.ref d] }).DictRaw d es ep := hm.at fun ob z => Heap.get?_push_of_some _ z
  have nd : ∃ ob, s2.heap.get? d = some ob ∧ ob.dict = none := by obtain ⟨ob, h1, h2, h3⟩ := hm; exact ⟨ob, h1, h2.2.1⟩
  refine ⟨hm.typeIs, fun a e => by cases e; exact nd, ?_⟩
  have last : wpAny (model X.prog X.w) X.A (pyIter (.ref s2.heap.objs.size)) (PIE X pins σ (.Tuple elts kk tpos) R) X.xe { s2 with heap := s2.heap.push { cls := .type "dict_items", data := .fields #[.ref d] } } := by
    refine wpAny_pyIter_items_raw (d := d) ⟨_, Heap.get?_push_size _ rfl, rfl, rfl⟩ hm2 (pi_one (tk := s2.toks) I2 _ (turn_itemsT _ hdt) ⟨.none, .none, ?_⟩ q)
    rw [← hsz]
    exact Heap.get?_push_size _ rfl
  show wpAny _ _ (callWith cpos (.builtin "dict.items") [.ref d] [] []) _ X.xe s2
  exact method_meetsIn F.slot_dict_items F.entry_dict_items rfl (PySem.evalArgs_none ⟨rfl, hm.typeIs, F.args_dict_items_1 _, _, meets_dict_items_raw d hs, ⟨es, ep, hm⟩, last⟩)⟩
theorem pi_itA {elts : List Expr} {kk : Nat} {tpos : Pos} (he : PE X e td) (hbase : attributeBase e "items" X.env (eval e X.env) = eval e X.env := by rfl) (hline : (apos.endLine == cpos.line) = true := by rfl) :
    PI X (.Tuple elts kk tpos) (.Call (.Attribute e "items" apos) [] [] cpos) (iItA td) := ⟨fun pins s σ H R I h => h.elim (fun h => (pi_items he hbase hline).run pins s σ H R I h) fun h => (pi_itT he hbase hline).run pins s σ H R I h⟩
end
/-! what is read without a change, whatever is locked -/
def EvX (te : TE) (ρ : Rho) (d : D) : Prop := ∀ (Z : Addr → Prop) (σ : L2.St) (H : Hp), okZ Z H → SRep Z H σ ρ → ∃ v, Rep Z H v d ∧ ∀ (H' : Hp) (Q : VK), ExtW Z H H' → okZ Z H' → Q v H' → te σ H' Q
section
variable {K : PySem.W.Frag} {ρ : Rho} {μ : Mu} {te ta tb td ty : TE} {tt : TT} {d e z : D} {ds : List D} {ts : TS} {Φ : D → Mu → Prop} {N : Rho → Mu → Prop} {R : D → Mu → Prop}
theorem ExtW.rf {Z : Addr → Prop} (H : Hp) : ExtW Z H H := fun a o _ h => ⟨o, h, rfl⟩
theorem evx_var {i : Nat} (h : ρ[i]? = some (some d)) : EvX (tVar i) ρ d := fun Z σ H k s => by
  obtain ⟨v, h1, h2⟩ := s.2 i d h
  exact ⟨v, h2, fun H' Q _ _ q => ⟨v, h1, q⟩⟩
theorem evx_fld {C : Addr} {g : Str} {fs : List (Str × D)} (ha : EvX ta ρ (.ins C fs)) (hc : Cls K C) (hn : NoAttr K C g) (hl : fs.lookup g = some d) : EvX (tFld K ta g) ρ d := fun Z σ H k s => by
  obtain ⟨v, r, f⟩ := ha Z σ H k s
  cases r with
  | ins n h rs =>
    obtain ⟨u, h1, h2⟩ := rs.look hl
    exact ⟨u, h2, fun H' Q x k' q => f H' _ x k' ⟨_, _, _, _, u, rfl, x.exact n h rfl (fun _ _ z => nomatch z), hc, hn, h1, q⟩⟩
theorem evx_kget {kvs : List (Key × D)} {k : Str} (hd : EvX td ρ (.dK kvs)) (hk : EvX ty ρ (.str k)) (hv : valD kvs (.inr k) = some z) : EvX (tDGet td ty) ρ z := fun Z σ H ok s => by
  obtain ⟨v, r, f⟩ := hd Z σ H ok s
  obtain ⟨v', r', f'⟩ := hk Z σ H ok s
  cases r'
  cases r with
  | dK n h rs =>
    obtain ⟨u, e1, e2⟩ := rs.val hv
    exact ⟨u, e2, fun H' Q x k' q => f H' _ x k' (f' H' _ x k' ⟨_, u, rfl, .inl ⟨_, .inr k, x.rd n rfl h, rfl, e1.symm⟩, q⟩)⟩
theorem EvX.ev (h : EvX te ρ d) : Ev te ρ d := fun Z σ H Q k s q => by
  obtain ⟨v, r, f⟩ := h Z σ H k s
  exact f H Q (ExtW.rf H) k (q v H (Ex.rf H) r)
/-! a source that is a dict, locked while it is walked -/
def LkI (wi : TI) (ρ : Rho) (ds : List D) : Prop := ∀ (Z : Addr → Prop) (σ : L2.St) (H : Hp), okZ Z H → SRep Z H σ ρ → ∃ (d : Addr) (u : HO), ¬ Z d ∧ dictO u = true ∧ Mut (some u) ∧ Rd H d u ∧
  ∀ (Hl : Hp) (od : Obj) (Rr : It → Hp → Prop), ExtW Z H Hl → okZ Z Hl → Hl d = some (.frz od u) → (∀ J, DW Z J Hl ds → Rr J Hl) → wi σ Hl Rr
theorem walk_itT {d : Addr} {o : Obj} {kvs : List (List Key × V)} : Walk (Itit d o kvs) kvs.length (fun H => H d = some (.frz o (.dT kvs))) (fun i H x H' => ∃ (T : Addr) (k : List Key) (v : V) (q : Addr), kvs[i]? = some (k, v) ∧ x = .ref T ∧ H T = none ∧ H q = some (.tup (k.map kV)) ∧ H' = upd H T (.tup [.ref q, v])) :=
  ⟨fun _ _ hi q => ⟨q, hi⟩, fun _ q => ⟨q, Nat.le_refl _⟩, fun _ _ _ _ _ _ y => y⟩
theorem walk_itK {d : Addr} {o : Obj} {kvs : List (Key × V)} : Walk (Iti d o kvs) kvs.length (fun H => H d = some (.frz o (.dK kvs))) (fun i H x H' => ∃ T k v, kvs[i]? = some (k, v) ∧ x = .ref T ∧ H T = none ∧ H' = upd H T (.tup [kV k, v])) :=
  ⟨fun _ _ hi q => ⟨q, hi⟩, fun _ q => ⟨q, Nat.le_refl _⟩, fun _ _ _ _ _ _ y => y⟩
theorem RepT.getV {Z : Addr → Prop} {H : Hp} : ∀ {kvs : List (List Key × V)} {ds : List (List Key × D)} {i : Nat} {k : List Key} {v : V}, RepT Z H kvs ds → kvs[i]? = some (k, v) → ∃ d, ds[i]? = some (k, d) ∧ Rep Z H v d
  | _, _, _, _, _, .nil, e => by simp at e
  | _, _, 0, _, _, .cons r _, e => by simp at e; obtain ⟨rfl, rfl⟩ := e; exact ⟨_, rfl, r⟩
  | _, _, i + 1, k, v, .cons _ t, e => by
    obtain ⟨d, h1, h2⟩ := RepT.getV (i := i) (k := k) (v := v) t (by simpa using e)
    exact ⟨d, by simpa using h1, h2⟩
theorem RepK.getV {Z : Addr → Prop} {H : Hp} : ∀ {kvs : List (Key × V)} {ds : List (Key × D)} {i : Nat} {k : Key} {v : V}, RepK Z H kvs ds → kvs[i]? = some (k, v) → ∃ d, ds[i]? = some (k, d) ∧ Rep Z H v d
  | _, _, _, _, _, .nil, e => by simp at e
  | _, _, 0, _, _, .cons r _, e => by simp at e; obtain ⟨rfl, rfl⟩ := e; exact ⟨_, rfl, r⟩
  | _, _, i + 1, k, v, .cons _ t, e => by
    obtain ⟨d, h1, h2⟩ := RepK.getV (i := i) (k := k) (v := v) t (by simpa using e)
    exact ⟨d, by simpa using h1, h2⟩
theorem rep_kV {Z : Addr → Prop} {H : Hp} : ∀ k : Key, Rep Z H (kV k) (kD k)
  | .inl i => .int i
  | .inr s => .str s
theorem dw_itT {Z : Addr → Prop} {H1 : Hp} {d : Addr} {o : Obj} {kvs : List (List Key × V)} {ds : List (List Key × D)} (n : ¬ Z d) (h : H1 d = some (.frz o (.dT kvs))) (r : RepT Z H1 kvs ds) : DW Z (Itit d o kvs) H1 (ds.map fun e => .tup [tK e.1, e.2]) := fun Z' hz => by
  have nz : ¬ Z' d := fun z => (hz _ z).elim n fun e => by rw [h] at e; cases e
  rw [List.length_map, ← r.len]
  refine walk_itT.mono (fun H g => g.1.exact nz h) fun i Hc x H' hi g y => ?_
  obtain ⟨T, k, v, q, e1, rfl, hT, hq, rfl⟩ := y
  obtain ⟨dv, e3, e4⟩ := (r.zs hz).getV e1
  have xT : Ext Z' Hc (upd Hc T (.tup [.ref q, v])) := Ext.new hT
  have rq : Rep Z' Hc (.ref q) (tK k) := .tup (g.2.noT hq) hq (repK_mk k)
  refine ⟨Ex.new hT, .tup [tK k, dv], ?_, .tup (g.2.no hT) upd_same (.cons (rq.mono xT) (.cons ((e4.mono g.1).mono xT) .nil))⟩
  rw [List.getElem?_map, e3]; rfl
theorem dw_itK {Z : Addr → Prop} {H1 : Hp} {d : Addr} {o : Obj} {kvs : List (Key × V)} {ds : List (Key × D)} (n : ¬ Z d) (h : H1 d = some (.frz o (.dK kvs))) (r : RepK Z H1 kvs ds) : DW Z (Iti d o kvs) H1 (ds.map fun e => .tup [kD e.1, e.2]) := fun Z' hz => by
  have nz : ¬ Z' d := fun z => (hz _ z).elim n fun e => by rw [h] at e; cases e
  rw [List.length_map, ← r.len]
  refine walk_itK.mono (fun H g => g.1.exact nz h) fun i Hc x H' hi g y => ?_
  obtain ⟨T, k, v, e1, rfl, hT, rfl⟩ := y
  obtain ⟨dv, e3, e4⟩ := (r.zs hz).getV e1
  have xT : Ext Z' Hc (upd Hc T (.tup [kV k, v])) := Ext.new hT
  refine ⟨Ex.new hT, .tup [kD k, dv], ?_, .tup (g.2.no hT) upd_same (.cons (rep_kV k) (.cons ((e4.mono g.1).mono xT) .nil))⟩
  rw [List.getElem?_map, e3]; rfl
theorem lk_itT {kvs : List (List Key × D)} (h : EvX te ρ (.dT kvs)) : LkI (iItA te) ρ (kvs.map fun e => .tup [tK e.1, e.2]) := fun Z σ H k s => by
  obtain ⟨v, r, f⟩ := h Z σ H k s
  cases r with
  | dT n hh rs => exact ⟨_, .dT _, n, rfl, trivial, hh, fun Hl od Rr x kl hl q => .inr (f Hl _ x kl ⟨_, od, _, rfl, hl, q _ (dw_itT n hl (rs.monoW x))⟩)⟩
theorem lk_itK {kvs : List (Key × D)} (h : EvX te ρ (.dK kvs)) : LkI (iItA te) ρ (kvs.map fun e => .tup [kD e.1, e.2]) := fun Z σ H k s => by
  obtain ⟨v, r, f⟩ := h Z σ H k s
  cases r with
  | dK n hh rs => exact ⟨_, .dK _, n, rfl, trivial, hh, fun Hl od Rr x kl hl q => .inl (f Hl _ x kl ⟨_, od, _, rfl, hl, q _ (dw_itK n hl (rs.monoW x))⟩)⟩
theorem lk_keysT {kvs : List (List Key × D)} (h : EvX te ρ (.dT kvs)) : LkI (iKeys te) ρ (kvs.map fun e => tK e.1) := fun Z σ H k s => by
  obtain ⟨v, r, f⟩ := h Z σ H k s
  cases r with
  | dT n hh rs => exact ⟨_, .dT _, n, rfl, trivial, hh, fun Hl od Rr x kl hl q => f Hl _ x kl ⟨_, od, rfl, .inr ⟨_, hl, q _ (dw_keys n hl (rs.monoW x))⟩⟩⟩
/-- a comprehension over such a source -/
theorem ev_lcX {α : Type} {xs : List α} {φ : α → D} {wi : TI} {g : TG} {vs : List Nat} {pb : α → Bool} {fe : α → D} (hL : LkI wi ρ (xs.map φ)) (hz : xs.length ≤ 100000)
    (hb : ∀ x ∈ xs, ∃ ρ', GW g vs (φ x) (wipeR ρ vs) ρ' ∧ EvT tt ρ' (pb x) ∧ (pb x = true → Ev te ρ' (fe x))) : Ev (tLk (tLc wi g tt te vs)) ρ (.lst ((xs.filter pb).map fe)) := fun Z σ H Q k s q => by
  obtain ⟨d, u, n, hu, hmu, hr, f⟩ := hL Z σ H k s
  rcases hr with h | ⟨o, h⟩
  · refine .inl ⟨d, u, h, hmu, fun od => ?_⟩
    have wl : ExtW Z H (upd H d (.frz od u)) := lockW hu h od
    have kl : okZ Z (upd H d (.frz od u)) := k.upd (by rfl)
    refine f _ od _ wl kl upd_same fun J w1 => ?_
    refine lc_main (Q := fun v H' => H' d = some (.frz od u) ∧ Q v (upd H' d u)) kl (s.monoW wl) w1 hz hb fun v H' x' r' => ?_
    have hl : H' d = some (.frz od u) := x' d _ upd_same
    refine ⟨hl, q v _ (fun a o e => ?_) (r'.monoW (unlockW hu hl))⟩
    by_cases z : a = d
    · subst z; rw [h] at e; cases e; exact upd_same
    · rw [upd_ne z]; exact x' a o (by rw [upd_ne z]; exact e)
  · exact .inr (f H o _ (ExtW.rf H) k h fun J w1 => lc_main k s w1 hz hb fun v H' x' r' => q v H' x' r')
/-- a loop over such a source -/
theorem gs_forX {wi : TI} {g : TG} (hL : LkI wi ρ ds) (I : Nat → Rho → Mu → Prop) {ρ0 : Rho} (hl : Lq ρ0 ρ) (h0 : I 0 ρ0 μ)
    (hb : ∀ j e ρi μi, ds[j]? = some e → I j ρi μi → ∃ ρ', GA g e ρi ρ' ∧ GS ts ρ' μi (fun ρ'' μ'' => ∃ ρ1, Lq ρ1 ρ'' ∧ I (j + 1) ρ1 μ'') R) (hn : ∀ ρ' μ', I ds.length ρ' μ' → N ρ' μ') : GS (tLkS (tFor wi g ts)) ρ μ N R := fun Z σ H E k s m n r => by
  obtain ⟨d, u, nd, hu, hmu, hr, f⟩ := hL Z σ H k s
  have core : ∀ {Hl : Hp} {J : It} {E' : Ends}, okZ Z Hl → SRep Z Hl σ ρ → Mem Z Hl μ → DW Z J Hl ds →
      (∀ σ' H' ρ' μ' Z', N ρ' μ' → Nz Z Hl μ Z' H' μ' → SRep Z' H' σ' ρ' → E'.nx σ' H') → (∀ v H' d μ' Z', R d μ' → Nz Z Hl μ Z' H' μ' → Rep Z' H' v d → E'.rt v H') → tFor (fun _ H R => R J H) g ts E' σ Hl := fun {Hl J E'} kl sl ml w1 n' r' =>
    for_it (g := g) (tb := ts) (D := E') (w1 Z fun a z => .inl z) (fun j σ Hc => ∃ ρi μi Zi, I j ρi μi ∧ Nz Z Hl μ Zi Hc μi ∧ SRep Zi Hc σ ρi) ⟨ρ0, μ, Z, h0, (Nxt.rf ml).nz kl, sl.lq hl⟩ (fun j σ Hc _ ⟨ρi, μi, Zi, _, z, _⟩ => ⟨z.to ml, z.ok0⟩) (by
      rintro j x σ Hc H' hj ⟨ρi, μi, Zi, hI, z, si⟩ ⟨y1, dd, y2, y3⟩
      obtain ⟨ρ', g1, g2⟩ := hb j dd ρi μi y2 hI
      have z' : Nz Z Hl μ Zi H' μi := z.tr ((Nxt.exs z.mem y1).nz z.ok)
      refine g1 Zi σ H' x _ z'.ok (si.mono y1.to) (y3.zs fun a h => .inl (z.zs a h)) fun σ' s' => ?_
      refine g2 Zi σ' H' _ z'.ok s' z'.mem (fun σ2 H2 ρ2 μ2 Z2 q z2 s2 => ?_) fun v H2 d μ2 Z2 q z2 r2 => r' v H2 d μ2 Z2 q (z'.tr z2) r2
      obtain ⟨ρ1, l1, q⟩ := q
      exact ⟨ρ1, μ2, Z2, q, z'.tr z2, s2.lq l1⟩) fun σ Hc ⟨ρi, μi, Zi, hI, z, si⟩ => n' σ Hc ρi μi Zi (hn _ _ hI) z si
  rcases hr with h | ⟨o, h⟩
  · refine .inl ⟨d, u, h, hmu, fun od => ?_⟩
    have wl : ExtW Z H (upd H d (.frz od u)) := lockW hu h od
    have ml : Mem Z (upd H d (.frz od u)) μ := m.monoW wl fun a o ha ho => by rw [upd_ne (neZ nd ha)]; exact ho
    refine f _ od _ wl (k.upd (by rfl)) upd_same fun J w1 => core (k.upd (by rfl)) (s.monoW wl) ml w1 (fun σ' H' ρ' μ' Z' q z s' => ?_) fun v H' dd μ' Z' q z r' => ?_
    · obtain ⟨e, z'⟩ := z.unlock hu nd m h
      exact ⟨e, n σ' _ ρ' μ' Z' q z' (s'.monoW (unlockW hu e))⟩
    · obtain ⟨e, z'⟩ := z.unlock hu nd m h
      exact ⟨e, r v _ dd μ' Z' q z' (r'.monoW (unlockW hu e))⟩
  · exact .inr (f H o _ (ExtW.rf H) k h fun J w1 => core k s m w1 n r)
end
end Du
namespace Du
open PySem L2 PySem.Spec PyProof.Rows
/-! != of dicts whose keys are tuples of tuples -/
section
variable {κ : Type} [DecidableEq κ] {prog : Program} {w : World} {kd : HeapKind prog w κ} {A : Around} {s : Shared}
theorem rcHn {a b : Addr} {xa xb : List (κ × Addr × Value)} {r : Bool} (ha : (a == sysModules) = false) (hb : (b == sysModules) = false) (hu : kd.room A.in1) (hc : A.units < cLine)
    (da : s.heap.DictOfH kd a xa) (db : s.heap.DictOfH kd b xb) (hits : xa.length = xb.length → HitsH prog w A.in1 s xb xa r) (E Q : Value → Shared → Prop) (h : Q (.bool (!(xa.length == xb.length && r))) s) : wpAny (model prog w) A (richCompare .NotEq (.ref a) (.ref b)) Q E s := by
  refine wpAny_richCompare_same_room (op := .NotEq) da.typeIs db.typeIs PySem.F.slot_dict_ne (wpAny_call_entry PySem.F.slot_dict_ne da.typeIs PySem.F.entry_dict_ne ?_ (PySem.F.args_dict_ne_2 _ _)) hc
  show wpAny _ _ (Builtin.Dict.dictSlotArgs "__ne__" ⟨[.ref a, .ref b], []⟩ >>= _) _ _ s
  unfold Builtin.Dict.dictSlotArgs
  refine wpAny_bind (wpAny_bind (wpAny_notOrdered_dict da.typeIs ?_))
  show wpAny _ _ (pure (Value.ref a, Value.ref b)) _ _ s
  refine wpAny_pure (wpAny_bind (wpAny_isInstance (T := "dict") db.typeIs PySem.F.sub_dict_dict ?_))
  simp only [Bool.not_true, Bool.false_eq_true, if_false]
  refine wpAny_bind (wpAny_pure (wpAny_bind (wpAny_pure (wpAny_bind (sameH (kd := kd) ha hb hu da db hits ?_)))))
  refine wpAny_pure ⟨_, rfl, ?_, ?_⟩
  · intro x; cases x
  · have e : ((xa.length == xb.length && r) == false) = !(xa.length == xb.length && r) := by cases (xa.length == xb.length && r) <;> rfl
    rw [← e] at h
    exact h
end
section
variable {X : Cx}
def rNeN (K : PySem.W.Frag) (w : World) : R2 := fun x y H Q => rEqN K w x y H fun v H' => ∃ b, v = .bl b ∧ Q (.bl (!b)) H'
theorem op_neN {K : PySem.W.Frag} {w : World} (hK : X.K = K) (hw : X.w = w) (hu : X.A.units + 65 < cLine) : OpR X (compareOp .NotEq) (rNeN K w) := by
  subst hK; subst hw
  intro pins s σ H x y v u Q I rx ry h
  obtain ⟨a, b, es, fs, f, g, rfl, rfl, ⟨oa, ha⟩, ⟨ob, hb⟩, ka, kb, hf, hg, bb, ebb, q⟩ := h
  cases ebb
  cases (show v = Value.ref a from rx)
  cases (show u = Value.ref b from ry)
  obtain ⟨_, ya, xa, ra, da⟩ := (NDO.inj I.hok ha).dictH I.hok ka
  obtain ⟨_, yb, xb, rb, db⟩ := (NDO.inj I.hok hb).dictH I.hok kb
  refine rcHn (kd := nestedKind X.prog X.w) ya yb (n_room (by omega)) (by omega) da db (fun _ => hitsN I (show X.A.units + 1 + 64 < cLine by omega) rb hg ra hf) _ _ ⟨.bl _, H, I, ?_, q⟩
  have l1 : es.length = xa.length := Paired.length ra
  have l2 : fs.length = xb.length := Paired.length rb
  rw [l1, l2]
  rfl
end
theorem rd_neN {K : PySem.W.Frag} {w : World} {d e : D} {b : Bool} (h : R2D (rEqN K w) d e (.bl b)) : R2D (rNeN K w) d e (.bl (!b)) := fun Z H x y Q k r1 r2 q =>
  h Z H x y _ k r1 r2 fun v H' x' r' => by cases r'; exact ⟨b, rfl, q _ H' x' (.bl _)⟩
/-! a comprehension with two sources -/
section
variable {ρ : Rho} {te : TE} {tt tt1 : TT}
theorem SRep.keepW {Z : Addr → Prop} {H : Hp} {σ σ' : L2.St} {ρ ρ' : Rho} (s : SRep Z H σ' ρ') : SRep Z H σ' ρ' := s
theorem lc2_main {α β : Type} {xs : List α} {φ : α → D} {ys : α → List β} {ψ : α → β → D} {J : It} {g g1 : TG} {wi1 : TI} {vs vs1 : List Nat} {fe : α → β → D} {Z : Addr → Prop} {σ : L2.St} {H1 : Hp} {Q : VK} (k1 : okZ Z H1) (s0 : SRep Z H1 σ ρ) (w1 : DW Z J H1 (xs.map φ)) {B : Nat} (hB : ∀ x ∈ xs, (ys x).length ≤ B) (hz : xs.length * B ≤ 100000)
    (hb : ∀ x ∈ xs, ∃ ρ', GW g vs (φ x) (wipeR ρ vs) ρ' ∧ EvI wi1 ρ' ((ys x).map (ψ x)) ∧ ∀ y ∈ ys x, ∃ ρ2, GW g1 vs1 (ψ x y) (wipeR ρ' vs1) ρ2 ∧ Ev te ρ2 (fe x y))
    (q : ∀ v H', Ex H1 H' → Rep Z H' v (.lst (xs.flatMap fun x => (ys x).map (fe x))) → Q v H') : ∀ Dd, H1 Dd = none → ∃ W : Nat → Nat → Hp → Prop, (∃ m, W 0 m (upd H1 Dd (.lst []))) ∧ ∀ i m H, W i m H →
    (J.stop i H ∧ Q (.ref Dd) H) ∨ (J.go i H ∧ ∃ Nx : Hp → Prop, (∀ H', Nx H' → ∃ m', m' < m ∧ W (i + 1) m' H') ∧ ∀ x H', J.yld i H x H' → g x (wipe σ vs) H' fun σ2 H2 => wipe σ2 vs = wipe σ vs ∧ tYes σ2 H2 fun b H3 =>
      if b = true then wi1 σ2 H3 fun J1 H4 => ∃ W1 : Nat → Nat → Hp → Prop, (∃ m, W1 0 m H4) ∧ ∀ j k H, W1 j k H →
        (J1.stop j H ∧ Nx H) ∨ (J1.go j H ∧ ∃ Nx1 : Hp → Prop, (∀ H', Nx1 H' → ∃ k', k' < k ∧ W1 (j + 1) k' H') ∧ ∀ x H', J1.yld j H x H' → g1 x (wipe σ2 vs1) H' fun σ3 H5 => wipe σ3 vs1 = wipe σ2 vs1 ∧ tYes σ3 H5 fun b H6 =>
          if b = true then te σ3 H6 fun y H7 => ∃ acc, H7 Dd = some (.lst acc) ∧ acc.length < sizeLine ∧ Nx1 (upd H7 Dd (.lst (acc ++ [y]))) else Nx1 H6)
      else Nx H3) := by
  intro Dd hD
  have hz' : ∀ a, (Z a ∨ a = Dd) → Z a ∨ H1 a = none := fun a z => z.imp id fun (e : a = Dd) => by rw [e]; exact hD
  have W := w1 (fun a => Z a ∨ a = Dd) hz'
  have s1 : SRep (fun a => Z a ∨ a = Dd) H1 σ ρ := s0.zs hz'
  have hll : (xs.map φ).length = xs.length := List.length_map ..
  let ZD : Addr → Prop := fun a => Z a ∨ a = Dd
  let Pv : List D → Hp → Prop := fun ads Hc => Ext ZD H1 Hc ∧ okZ ZD Hc ∧ (∀ a o, Z a → H1 a = some o → Hc a = some o) ∧ ∃ acc, Hc Dd = some (.lst acc) ∧ Reps ZD Hc acc ads
  let tot : Nat → List D := fun i => (xs.take i).flatMap fun x => (ys x).map (fe x)
  have totl : ∀ i, (tot i).length ≤ 100000 := fun i => by
    have : ∀ l : List α, (∀ x ∈ l, x ∈ xs) → (l.flatMap fun x => (ys x).map (fe x)).length ≤ l.length * B := fun l hl => by
      induction l with
      | nil => simp
      | cons x l ih =>
        have h1 := ih fun y hy => hl y (List.mem_cons_of_mem _ hy)
        have h2 := hB x (hl x List.mem_cons_self)
        rw [List.flatMap_cons, List.length_append, List.length_map, List.length_cons, Nat.add_mul]
        omega
    have h1 := this (xs.take i) fun x hx => List.mem_of_mem_take hx
    have h2 : (xs.take i).length * B ≤ xs.length * B := Nat.mul_le_mul_right _ (by rw [List.length_take]; exact Nat.min_le_right _ _)
    have : (tot i).length ≤ (xs.take i).length * B := h1
    omega
  have keep : ∀ {ads : List D} {Hc Hn : Hp}, Pv ads Hc → Ex Hc Hn → Pv ads Hn := fun ⟨e1, e2, e3, acc, e4, e5⟩ x => ⟨e1.tr x.to, e2.ex x, fun a o z h => x a o (e3 a o z h), acc, x.exact e4, e5.mono x.to⟩
  refine ⟨fun i m Hc => m = xs.length - i ∧ i ≤ xs.length ∧ Pv (tot i) Hc, ⟨xs.length, by simp, Nat.zero_le _, Ext.new hD, k1.add rfl, fun a o z h => by rw [upd_ne (ne_of_none h hD)]; exact h, [], upd_same, by simpa [tot] using .nil⟩, ?_⟩
  rintro i m Hc ⟨rfl, hi, hp⟩
  by_cases hlt : i < xs.length
  · refine .inr ⟨W.goes i Hc (hll ▸ hlt) ⟨hp.1, hp.2.1⟩, Pv (tot (i + 1)), fun Hn p => ⟨xs.length - (i + 1), by omega, rfl, hlt, p⟩, fun x H' y => ?_⟩
    obtain ⟨y1, d0, y20, y3⟩ := W.yields i Hc x H' (hll ▸ hlt) ⟨hp.1, hp.2.1⟩ y
    rw [List.getElem?_map] at y20
    obtain ⟨a, ya, rfl⟩ := Option.map_eq_some_iff.mp y20
    have hm : a ∈ xs := List.mem_of_getElem? ya
    obtain ⟨ρ', g1', hi1, hy⟩ := hb a hm
    have hp1 := keep hp y1
    have et : tot (i + 1) = tot i ++ (ys a).map (fe a) := by
      show (xs.take (i + 1)).flatMap _ = _
      rw [List.take_add_one, ya, List.flatMap_append]; simp [tot]
    refine g1' _ (wipe σ vs) H' x _ hp1.2.1 ((s1.wipe vs).mono hp1.1) y3 fun σ' s' w' => ⟨w'.trans (wipe_wipe σ vs), ?_⟩
    refine et_yes (ρ := ρ') _ σ' H' _ hp1.2.1 s' fun H3 x3 => ?_
    rw [if_pos rfl]
    have hp3 := keep hp1 x3
    refine hi1 ZD σ' H3 _ hp3.2.1 (s'.mono x3.to) fun J1 H4 x4 w4 => ?_
    have hp4 := keep hp3 x4
    have s4 : SRep ZD H4 σ' ρ' := s'.mono (x3.tr x4).to
    have W4 := w4 ZD fun a z => .inl z
    have hl4 : ((ys a).map (ψ a)).length = (ys a).length := List.length_map ..
    refine ⟨fun j m Hc => m = (ys a).length - j ∧ j ≤ (ys a).length ∧ Ext ZD H4 Hc ∧ Pv (tot i ++ ((ys a).take j).map (fe a)) Hc, ⟨(ys a).length, by simp, Nat.zero_le _, Ext.rf _, by simpa using hp4⟩, ?_⟩
    rintro j m Hj ⟨rfl, hj, xj, hpj⟩
    by_cases hjt : j < (ys a).length
    · refine .inr ⟨W4.goes j Hj (hl4 ▸ hjt) ⟨xj, hpj.2.1⟩, fun Hn => Ext ZD H4 Hn ∧ Pv (tot i ++ ((ys a).take (j + 1)).map (fe a)) Hn, fun Hn p => ⟨(ys a).length - (j + 1), by omega, rfl, hjt, p⟩, fun x2 H5 y5 => ?_⟩
      obtain ⟨z1, d1, z20, z3⟩ := W4.yields j Hj x2 H5 (hl4 ▸ hjt) ⟨xj, hpj.2.1⟩ y5
      rw [List.getElem?_map] at z20
      obtain ⟨b, yb, rfl⟩ := Option.map_eq_some_iff.mp z20
      obtain ⟨ρ2, g2, h2⟩ := hy b (List.mem_of_getElem? yb)
      have hp5 := keep hpj z1
      have x5 : Ext ZD H4 H5 := xj.tr z1.to
      refine g2 _ (wipe σ' vs1) H5 x2 _ hp5.2.1 ((s4.wipe vs1).mono x5) z3 fun σ3 s3 w3 => ⟨w3.trans (wipe_wipe σ' vs1), ?_⟩
      refine et_yes (ρ := ρ2) _ σ3 H5 _ hp5.2.1 s3 fun H6 x6 => ?_
      rw [if_pos rfl]
      have hp6 := keep hp5 x6
      refine h2 _ σ3 H6 _ hp6.2.1 (s3.mono x6.to) fun v H7 x7 r7 => ?_
      obtain ⟨e1, e2, e3, acc, e4, e5⟩ := keep hp6 x7
      have ey : (ys a).take (j + 1) = (ys a).take j ++ [b] := by rw [List.take_add_one, yb]; rfl
      have xm : Ext ZD H7 (upd H7 Dd (.lst (acc ++ [v]))) := (Ext.rf H7).mut (.inr rfl)
      refine ⟨acc, e4, Nat.lt_of_le_of_lt (m := 100000) ?_ (by decide), ((x5.tr x6.to).tr x7.to).mut (.inr rfl), e1.mut (.inr rfl), e2.upd rfl, fun a o z h => ?_, _, upd_same, ?_⟩
      · rw [e5.len]
        have h1 := totl (i + 1)
        rw [et, List.length_append, List.length_map] at h1
        rw [List.length_append, List.length_map, List.length_take]
        omega
      · rw [upd_ne (ne_of_none h hD)]; exact e3 a o z h
      · rw [ey, List.map_append, ← List.append_assoc]
        exact (e5.mono xm).app (.cons (r7.mono xm) .nil)
    · have ej : j = (ys a).length := by omega
      subst ej
      refine .inl ⟨hl4 ▸ W4.stops Hj ⟨xj, hpj.2.1⟩, ?_⟩
      rw [List.take_length, ← et] at hpj
      exact hpj
  · have ei : i = xs.length := by omega
    subst ei
    refine .inl ⟨hll ▸ W.stops Hc ⟨hp.1, hp.2.1⟩, ?_⟩
    obtain ⟨e1, e2, e3, acc, e4, e5⟩ := hp
    have e6 : tot xs.length = xs.flatMap fun x => (ys x).map (fe x) := by show (xs.take xs.length).flatMap _ = _; rw [List.take_length]
    rw [e6] at e5
    have xx : Ex H1 Hc := fun a o h => by
      by_cases z : Z a
      · exact e3 a o z h
      · exact e1 a o (fun y => y.elim z (ne_of_none h hD)) h
    exact q _ Hc xx (.lst (k1.no hD) e4 (e5.zs fun a z => .inl (.inl z)))
/-- .. whose first source is a dict, locked meanwhile -/
theorem ev_lc2X {α β : Type} {xs : List α} {φ : α → D} {ys : α → List β} {ψ : α → β → D} {wi wi1 : TI} {g g1 : TG} {vs vs1 : List Nat} {fe : α → β → D} (hL : LkI wi ρ (xs.map φ)) {B : Nat} (hB : ∀ x ∈ xs, (ys x).length ≤ B) (hz : xs.length * B ≤ 100000)
    (hb : ∀ x ∈ xs, ∃ ρ', GW g vs (φ x) (wipeR ρ vs) ρ' ∧ EvI wi1 ρ' ((ys x).map (ψ x)) ∧ ∀ y ∈ ys x, ∃ ρ2, GW g1 vs1 (ψ x y) (wipeR ρ' vs1) ρ2 ∧ Ev te ρ2 (fe x y)) : Ev (tLk (tLc2 wi g tYes wi1 g1 tYes te vs vs1)) ρ (.lst (xs.flatMap fun x => (ys x).map (fe x))) := fun Z σ H Q k s q => by
  obtain ⟨d, u, n, hu, hmu, hr, f⟩ := hL Z σ H k s
  rcases hr with h | ⟨o, h⟩
  · refine .inl ⟨d, u, h, hmu, fun od => ?_⟩
    have wl : ExtW Z H (upd H d (.frz od u)) := lockW hu h od
    have kl : okZ Z (upd H d (.frz od u)) := k.upd (by rfl)
    refine f _ od _ wl kl upd_same fun J w1 => ?_
    refine lc2_main (Q := fun v H' => H' d = some (.frz od u) ∧ Q v (upd H' d u)) kl (s.monoW wl) w1 hB hz hb fun v H' x' r' => ?_
    have hl : H' d = some (.frz od u) := x' d _ upd_same
    refine ⟨hl, q v _ (fun a o e => ?_) (r'.monoW (unlockW hu hl))⟩
    by_cases z : a = d
    · subst z; rw [h] at e; cases e; exact upd_same
    · rw [upd_ne z]; exact x' a o (by rw [upd_ne z]; exact e)
  · exact .inr (f H o _ (ExtW.rf H) k h fun J w1 => lc2_main k s w1 hB hz hb fun v H' x' r' => q v H' x' r')
end
end Du
namespace Du
open PySem L2
section
variable {K : PySem.W.Frag} {ρ : Rho} {μ : Mu} {te ta : TE} {tt : TT} {ts : TS} {g : TG} {Φ : D → Mu → Prop} {N : Rho → Mu → Prop} {R : D → Mu → Prop}
/-- a loop whose source is known as a walk behind something that changes what is owned -/
theorem forW {J : It} {ds : List D} {Z : Addr → Prop} {H H1 : Hp} {μ1 : Mu} {σ : L2.St} {E : Ends} (n1 : Nxt Z H μ H1 μ1) (k : okZ Z H) (m : Mem Z H μ) (s : SRep Z H σ ρ) (W : Walk J ds.length (WG Z H1) (WY Z ds)) (I : Nat → Rho → Mu → Prop) {ρ0 : Rho} (hl : Lq ρ0 ρ) (h0 : I 0 ρ0 μ1)
    (hb : ∀ i d ρi μi, ds[i]? = some d → I i ρi μi → ∃ ρ', GA g d ρi ρ' ∧ GS ts ρ' μi (fun ρ'' μ'' => ∃ ρ1, Lq ρ1 ρ'' ∧ I (i + 1) ρ1 μ'') R) (hn : ∀ ρ' μ', I ds.length ρ' μ' → N ρ' μ')
    (n : ∀ σ' H' ρ' μ' Z', N ρ' μ' → Nz Z H μ Z' H' μ' → SRep Z' H' σ' ρ' → E.nx σ' H') (r : ∀ v H' d μ' Z', R d μ' → Nz Z H μ Z' H' μ' → Rep Z' H' v d → E.rt v H') : tFor (fun _ H R => R J H) g ts E σ H1 := by
  have m1 := n1.mem
  have k1 := n1.ok k
  have s1 := s.mono (n1.to m)
  refine for_it W (fun i σ Hc => ∃ ρi μi Zi, I i ρi μi ∧ Nz Z H1 μ1 Zi Hc μi ∧ SRep Zi Hc σ ρi) ⟨ρ0, μ1, Z, h0, (Nxt.rf m1).nz k1, s1.lq hl⟩ (fun i σ Hc _ ⟨ρi, μi, Zi, _, z, _⟩ => ⟨z.to m1, z.ok0⟩) ?_ fun σ Hc ⟨ρi, μi, Zi, hI, z, si⟩ => n σ Hc ρi μi Zi (hn _ _ hI) ((n1.nz k).tr z) si
  rintro i x σ Hc H' hi ⟨ρi, μi, Zi, hI, z, si⟩ ⟨y1, d, y2, y3⟩
  obtain ⟨ρ', g1, g2⟩ := hb i d ρi μi y2 hI
  have z' : Nz Z H1 μ1 Zi H' μi := z.tr ((Nxt.exs z.mem y1).nz z.ok)
  refine g1 Zi σ H' x _ z'.ok (si.mono y1.to) (y3.zs fun a h => .inl (z.zs a h)) fun σ' s' => ?_
  refine g2 Zi σ' H' _ z'.ok s' z'.mem (fun σ2 H2 ρ2 μ2 Z2 q z2 s2 => ?_) fun v H2 d μ2 Z2 q z2 r2 => r v H2 d μ2 Z2 q ((n1.nz k).tr (z'.tr z2)) r2
  obtain ⟨ρ1, l1, q⟩ := q
  exact ⟨ρ1, μ2, Z2, q, z'.tr z2, s2.lq l1⟩
/-- for x in a call that changes what is owned and hands back a list -/
theorem gsE_for (h : GE te ρ μ fun d μ1 => ∃ (ds : List D) (I : Nat → Rho → Mu → Prop) (ρ0 : Rho), d = .lst ds ∧ Lq ρ0 ρ ∧ I 0 ρ0 μ1 ∧
    (∀ i d ρi μi, ds[i]? = some d → I i ρi μi → ∃ ρ', GA g d ρi ρ' ∧ GS ts ρ' μi (fun ρ'' μ'' => ∃ ρ1, Lq ρ1 ρ'' ∧ I (i + 1) ρ1 μ'') R) ∧ ∀ ρ' μ', I ds.length ρ' μ' → N ρ' μ') : GS (tFor (iSeq K te) g ts) ρ μ N R := fun Z σ H E k s m n r => by
  refine .inl (h Z σ H _ k s m fun v H1 d μ1 f n1 r1 => ?_)
  obtain ⟨ds, I, ρ0, rfl, hl, h0, hb, hn⟩ := f
  cases r1 with
  | lst nz0 h1 rs =>
    rename_i aa vv
    refine ⟨aa, rfl, ⟨_, .inl (.inl h1)⟩, ?_⟩
    have W : Walk (Itl K aa) ds.length (WG Z H1) (WY Z ds) := by
      rw [← rs.len]
      refine walk_list.mono (fun H g => .inl (.inl (g.1.exact nz0 h1))) fun i Hc x H' hi g y => ?_
      obtain ⟨rfl, y⟩ := y
      obtain ⟨d, e1, e2⟩ := rs.getV y
      exact ⟨Ex.rf _, d, e1, e2.mono g.1⟩
    exact forW n1 k m s W I hl h0 hb hn n r
/-- for i in range(n), n by something that changes what is owned -/
theorem gsE_range {ta : TA} (h : GEA ta ρ μ fun es μ1 => ∃ (c : Nat) (I : Nat → Rho → Mu → Prop) (ρ0 : Rho), es = [.int c] ∧ c < 100000 ∧ Lq ρ0 ρ ∧ I 0 ρ0 μ1 ∧
    (∀ i d ρi μi, ((List.range c).map fun (i : Nat) => D.int i)[i]? = some d → I i ρi μi → ∃ ρ', GA g d ρi ρ' ∧ GS ts ρ' μi (fun ρ'' μ'' => ∃ ρ1, Lq ρ1 ρ'' ∧ I (i + 1) ρ1 μ'') R) ∧ ∀ ρ' μ', I c ρ' μ' → N ρ' μ') : GS (tFor (iRng1 ta) g ts) ρ μ N R := fun Z σ H E k s m n r =>
  h Z σ H _ k s m fun us H1 es μ1 f n1 r0 => by
    obtain ⟨c, I, ρ0, rfl, hc, hl, h0, hb, hn⟩ := f
    cases r0 with
    | cons rr r1 =>
    cases rr; cases r1
    refine ⟨c, rfl, by omega, by omega, ?_⟩
    have W : Walk (Itr 0 c) ((List.range c).map fun (i : Nat) => D.int i).length (WG Z H1) (WY Z ((List.range c).map fun (i : Nat) => D.int i)) := by
      rw [List.length_map, List.length_range]
      refine walk_range.mono (fun _ _ => trivial) fun i Hc x H' hi g y => ?_
      obtain ⟨rfl, rfl⟩ := y
      have hi' : i < c := by simpa using hi
      refine ⟨Ex.rf _, .int i, ?_, by show Rep Z _ (V.int (0 + (i : Int))) _; rw [Int.zero_add]; exact .int i⟩
      rw [List.getElem?_map, List.getElem?_range hi']; rfl
    exact forW n1 k m s W I hl h0 hb (fun ρ' μ' hI => hn ρ' μ' (by simpa using hI)) n r
/-- o.m(..) whose arguments change what is owned -/
theorem geE_meth {C : Addr} {m : Str} {R : List D → D → Prop} {E : XK} {t : TA} {fs : List (Str × D)} (hs : Ev ta ρ (.ins C fs)) (hm : fs.lookup m = none) (h : GEA t ρ μ fun ds μ1 => ∃ z, R (.ins C fs :: ds) z ∧ Φ z μ1) : GE (tMeth C m (spP R) [] E ta t) ρ μ Φ := fun Z σ H Q k s mm c =>
  hs Z σ H _ k s fun x H0 x0 r0 => by
    cases r0 with
    | ins n h0 rs =>
      refine ⟨_, _, _, rfl, h0, rs.none hm, h Z σ H0 _ (k.ex x0) (s.mono x0.to) (mm.ex x0) fun vs H1 ds μ1 g n1 r1 => ?_⟩
      obtain ⟨z, hr, q⟩ := g
      have n01 := (Nxt.exs mm x0).tr n1
      exact ⟨Z, _, z, n01.ok k, .cons ((Rep.ins n h0 rs).mono (n1.to (mm.ex x0))) (by rw [List.append_nil]; exact r1), hr, fun v H2 x2 r2 => c v H2 z μ1 q (n01.tr (.exs n1.mem x2)) r2⟩
/-- C(..) whose arguments change what is owned -/
theorem geE_make {C : Addr} {Rm : List D → Mu → (D → Mu → Prop) → Prop} {E : XK} {t : TA} (h : GEA t ρ μ fun ds μ1 => ∃ fs : List (Str × D), (∀ p, Rm (.ptr p :: ds) [(p, .ins C [])] fun d μ' => d = .non ∧ μ' = [(p, .ins C fs)]) ∧ Φ (.ins C fs) μ1) : GE (tMake C (spM Rm) [] E t) ρ μ Φ := fun Z σ H Q k s m c =>
  h Z σ H _ k s m fun vs H1 ds μ1 f n1 r1 x dx hx hdx ne => by
    obtain ⟨fs, hr, q⟩ := f
    have k1 := n1.ok k
    have hdx' : (upd H1 dx (.own x)) x = none := by rw [upd_ne ne.symm]; exact hx
    have e1 : Ex H1 (upd H1 dx (.own x)) := Ex.new hdx
    have e2 : Ex (upd H1 dx (.own x)) (upd (upd H1 dx (.own x)) x (.ins C dx [])) := Ex.new hdx'
    have hz : ∀ b, (Z b ∨ b = x) → Z b ∨ H1 b = none := fun b z => z.imp id fun (e : b = x) => by rw [e]; exact hx
    refine ⟨fun b => Z b ∨ b = x, .ptr x :: ds, [(x, .ins C [])], _, (k1.new hdx).add rfl, .cons (.ptr x) ?_, Mem.nil.ownC hdx' (.ins upd_same .nil), hr x, fun v H' d μ' ⟨e, em⟩ n2 r2 => ?_⟩
    · rw [List.append_nil]
      exact (r1.zs hz).mono (e1.tr e2).to
    · subst e; subst em
      cases r2
      refine ⟨rfl, ?_⟩
      obtain ⟨_, dx', vs', hv, rs⟩ := n2.mem.ins (k := 0) rfl
      have xx : Ex H1 H' := fun a o ho => n2.ext a o (fun hh => by
        have : a = x := by simpa [dom] using hh
        rw [this, hx] at ho; cases ho) ((e1.tr e2) a o ho)
      exact c _ H' _ μ1 q (n1.tr (.exs n1.mem xx)) (.ins (k1.no hx) hv (rs.zs fun b z => .inl (.inl z)))
end
end Du
namespace Du
open PySem L2
section
variable {ρ : Rho} {μ : Mu} {ts us : TS} {N : Rho → Mu → Prop} {R : D → Mu → Prop}
theorem gs_goP3 {t : TA} {i j l : Nat} (h : GOA t ρ μ (fun μ' μ'' => μ' = μ'') fun ds μ1 D1 => ∃ d e f, ds = [d, e, f] ∧ GS us (((ρ.set i (some d)).set j (some e)).set l (some f)) μ1 (fun ρ' μ' => ∃ μ'', D1 μ' μ'' ∧ N ρ' μ'') (fun d μ' => ∃ μ'', D1 μ' μ'' ∧ R d μ'')) :
    GS (tSeq (tPar3 i j l t) us) ρ μ N R := fun Z σ H E k s m n r =>
  h Z H μ Z σ H _ grow_refl k s m fun vs Z1 H1 ds μ1 D1 f g r1 k1 m1 rv => by
    obtain ⟨d, e, e3, rfl, f⟩ := f
    cases rv with
    | cons ra rv => cases rv with
      | cons rb rv => cases rv with
        | cons rc rv =>
          cases rv
          exact ⟨_, _, _, rfl, gs_go (us := us) (E := E) g k1 m1 ((((s.byRep r1).set i ra).set j rb).set l rc) f n r⟩
theorem st_par3 {i j l : Nat} {ta : TA} {d e f : D} (h : EvA ta ρ [d, e, f]) : St (tPar3 i j l ta) ρ (.nx (((ρ.set i (some d)).set j (some e)).set l (some f))) := fun Z σ H E k s q =>
  h Z σ H _ k s fun vs H1 x1 r1 => by
    cases r1 with
    | cons ra r1 => cases r1 with
      | cons rb r1 => cases r1 with
        | cons rc r1 => cases r1; exact ⟨_, _, _, rfl, q _ H1 x1 ((((s.mono x1.to).set i ra).set j rb).set l rc)⟩
end
end Du
namespace Du
open PySem L2
/-! statements behind which more may be owned than before -/
structure Nw (Z : Addr → Prop) (H : Hp) (μ : Mu) (Z' : Addr → Prop) (H' : Hp) (μ' : Mu) : Prop where
  ext : Ext (dom μ) H H'
  nw : ∀ a, dom μ' a → dom μ a ∨ H a = none
  mem : Mem Z' H' μ'
  ok : okZ Z' H'
  ok0 : okZ Z H'
  zs : ∀ a, Z' a → Z a ∨ H a = none
  zk : ∀ a, Z a → Z' a ∨ (dom μ a ∧ ¬ dom μ' a)
theorem Nz.nw {Z Z' : Addr → Prop} {H H' : Hp} {μ μ' : Mu} (z : Nz Z H μ Z' H' μ') : Nw Z H μ Z' H' μ' := ⟨z.ext, fun a h => .inl (z.dm a h), z.mem, z.ok, z.ok0, fun a h => .inl (z.zs a h), z.zk⟩
theorem Nw.live {Z Z' : Addr → Prop} {H H' : Hp} {μ μ' : Mu} (z : Nw Z H μ Z' H' μ') (m : Mem Z H μ) {a : Addr} (h : H' a = none) : H a = none := by
  cases q : H a with
  | none => rfl
  | some o =>
    by_cases hd : dom μ a
    · obtain ⟨o', e, _⟩ := z.ok0 a (m.dz hd)
      rw [h] at e; cases e
    · have := z.ext a o hd q
      rw [h] at this; cases this
theorem Nw.tr {Z Z1 Z' : Addr → Prop} {H H1 H' : Hp} {μ μ1 μ' : Mu} (k : okZ Z H) (m : Mem Z H μ) (x : Nw Z H μ Z1 H1 μ1) (y : Nw Z1 H1 μ1 Z' H' μ') : Nw Z H μ Z' H' μ' := by
  have back : ∀ a, H1 a = none → H a = none := fun a h => x.live m h
  refine ⟨fun a o hn ho => y.ext a o (fun h => ?_) (x.ext a o hn ho), fun a h => ?_, y.mem, y.ok, fun a z => ?_, fun a h => ?_, fun a z => ?_⟩
  · rcases x.nw a h with h | h
    · exact hn h
    · rw [h] at ho; cases ho
  · rcases y.nw a h with h | h
    · exact x.nw a h
    · exact .inr (back a h)
  · rcases x.zk a z with h | ⟨h1, h2⟩
    · exact y.ok0 a h
    · obtain ⟨o, ho, hi⟩ := x.ok0 a z
      exact ⟨o, y.ext a o h2 ho, hi⟩
  · rcases y.zs a h with h | h
    · exact x.zs a h
    · exact .inr (back a h)
  · rcases x.zk a z with h | ⟨h1, h2⟩
    · rcases y.zk a h with h | ⟨h1, h2⟩
      · exact .inl h
      · rcases x.nw a h1 with h3 | h3
        · exact .inr ⟨h3, h2⟩
        · obtain ⟨o, ho, _⟩ := k a z
          rw [h3] at ho; cases ho
    · refine .inr ⟨h1, fun h => h2 ?_⟩
      rcases y.nw a h with h | h
      · exact h
      · obtain ⟨o, ho, _⟩ := x.ok0 a z
        rw [h] at ho; cases ho
theorem Nw.to {Z Z' : Addr → Prop} {H H' : Hp} {μ μ' : Mu} (n : Nw Z H μ Z' H' μ') (m : Mem Z H μ) : Ext Z H H' := n.ext.wk fun a h => m.dz h
theorem Nw.rep {Z Z' : Addr → Prop} {H H' : Hp} {μ μ' : Mu} (n : Nw Z H μ Z' H' μ') (m : Mem Z H μ) {v : V} {d : D} (r : Rep Z H v d) : Rep Z' H' v d :=
  ((r.zs (Z' := fun a => Z a ∨ Z' a) fun a h => h.elim .inl (n.zs a)).mono fun a o hn ho => n.ext a o (fun h => hn (.inl (m.dz h))) ho).zs fun a z => .inl (.inr z)
theorem Nw.reps {Z Z' : Addr → Prop} {H H' : Hp} {μ μ' : Mu} (n : Nw Z H μ Z' H' μ') (m : Mem Z H μ) {v : List V} {d : List D} (r : Reps Z H v d) : Reps Z' H' v d := r.byRep fun _ _ h => n.rep m h
theorem Nw.srep {Z Z' : Addr → Prop} {H H' : Hp} {μ μ' : Mu} {σ : L2.St} {ρ : Rho} (n : Nw Z H μ Z' H' μ') (m : Mem Z H μ) (s : SRep Z H σ ρ) : SRep Z' H' σ ρ := s.byRep fun _ _ h => n.rep m h
def GN (ts : TS) (ρ : Rho) (μ : Mu) (N : Rho → Mu → Prop) (R : D → Mu → Prop) : Prop := ∀ (Z : Addr → Prop) (σ : L2.St) (H : Hp) (E : Ends), okZ Z H → SRep Z H σ ρ → Mem Z H μ →
  (∀ σ' H' ρ' μ' Z', N ρ' μ' → Nw Z H μ Z' H' μ' → SRep Z' H' σ' ρ' → E.nx σ' H') → (∀ v H' d μ' Z', R d μ' → Nw Z H μ Z' H' μ' → Rep Z' H' v d → E.rt v H') → ts E σ H
section
variable {K : PySem.W.Frag} {ρ : Rho} {μ : Mu} {te ta : TE} {ts us : TS} {g : TG} {c : D} {Φ : D → Mu → Prop} {N N' : Rho → Mu → Prop} {R R' : D → Mu → Prop}
theorem gn_gs (h : GS ts ρ μ N R) : GN ts ρ μ N R := fun Z σ H E k s m n r => h Z σ H E k s m (fun σ' H' ρ' μ' Z' q z => n σ' H' ρ' μ' Z' q z.nw) fun v H' d μ' Z' q z => r v H' d μ' Z' q z.nw
theorem gn_seq (h : GN ts ρ μ (fun ρ' μ' => GN us ρ' μ' N R) R) : GN (tSeq ts us) ρ μ N R := fun Z σ H E k s m n r =>
  h Z σ H _ k s m (fun σ' H' ρ' μ' Z' f z s' => f Z' σ' H' E z.ok s' z.mem (fun σ2 H2 ρ2 μ2 Z2 q z2 s2 => n σ2 H2 ρ2 μ2 Z2 q (z.tr k m z2) s2) fun v H2 d μ2 Z2 q z2 r2 => r v H2 d μ2 Z2 q (z.tr k m z2) r2) r
/-- a statement of the older kind, then one of this kind -/
theorem gn_sq (h : GS ts ρ μ (fun ρ' μ' => GN us ρ' μ' N R) R) : GN (tSeq ts us) ρ μ N R := gn_seq (gn_gs h)
theorem GN.mono (h : GN ts ρ μ N R) (hn : ∀ ρ μ, N ρ μ → N' ρ μ) (hr : ∀ d μ, R d μ → R' d μ) : GN ts ρ μ N' R' := fun Z σ H E k s m n r => h Z σ H E k s m (fun σ' H' ρ' μ' Z' q => n σ' H' ρ' μ' Z' (hn _ _ q)) fun v H' d μ' Z' q => r v H' d μ' Z' (hr _ _ q)
theorem gn_mid (M : Rho → Mu → Prop) (h : GN ts ρ μ M R) (f : ∀ ρ' μ', M ρ' μ' → GN us ρ' μ' N R) : GN (tSeq ts us) ρ μ N R := gn_seq (h.mono f fun _ _ h => h)
theorem gn_if {t : TT} (h : GT t ρ μ fun b μ' => if b = true then GN ts ρ μ' N R else GN us ρ μ' N R) : GN (tIfS t ts us) ρ μ N R := fun Z σ H E k s m n r =>
  h Z σ H _ k s m fun b H1 μ1 f n1 => by
    have z1 := (n1.nz k).nw
    cases b with
    | true => exact iteT (f Z σ H1 E (n1.ok k) (s.mono (n1.to m)) n1.mem (fun σ2 H2 ρ2 μ2 Z2 q z2 s2 => n σ2 H2 ρ2 μ2 Z2 q (z1.tr k m z2) s2) fun v H2 d μ2 Z2 q z2 r2 => r v H2 d μ2 Z2 q (z1.tr k m z2) r2)
    | false => exact iteF (f Z σ H1 E (n1.ok k) (s.mono (n1.to m)) n1.mem (fun σ2 H2 ρ2 μ2 Z2 q z2 s2 => n σ2 H2 ρ2 μ2 Z2 q (z1.tr k m z2) s2) fun v H2 d μ2 Z2 q z2 r2 => r v H2 d μ2 Z2 q (z1.tr k m z2) r2)
theorem gn_lq {ρ' : Rho} (l : Lq ρ' ρ) (h : GN ts ρ' μ N R) : GN ts ρ μ N R := fun Z σ H E k s m n r => h Z σ H E k (s.lq l) m n r
theorem Nw.own {Z : Addr → Prop} {H1 : Hp} {a : Addr} {o : HO} (k1 : okZ Z H1) (m1 : Mem Z H1 μ) (ha : H1 a = none) (ho : isTup o = false) (hc : Cont (fun b => Z b ∨ b = a) (upd H1 a o) a c) : Nw Z H1 μ (fun b => Z b ∨ b = a) (upd H1 a o) ((a, c) :: μ) := by
  refine ⟨Ext.new ha, fun b h => ?_, m1.ownC ha hc, k1.add ho, k1.new ha, fun b h => h.imp id fun (e : b = a) => by rw [e]; exact ha, fun b h => .inl (.inl h)⟩
  rcases List.mem_cons.mp h with h | h
  · exact .inr (by rw [show b = a from h]; exact ha)
  · exact .inl h
/-- x = something new: it is owned from now on -/
theorem gn_own {i : Nat} (h : EvF te ρ c) (hs : ∀ a, ¬ dom μ a → GN us (ρ.set i (some (.ptr a))) ((a, c) :: μ) N R) : GN (tSeq (tAsg te (gName i)) us) ρ μ N R := fun Z σ H E k s m n r =>
  h Z σ H _ k s fun a H1 o x1 ha ho hc => by
    have k1 := k.ex x1
    have m1 := m.ex x1
    have z0 := ((Nxt.exs m x1).nz k).nw
    have z1 := z0.tr k m (Nw.own k1 m1 ha ho hc)
    refine hs a (fun h => k1.no ha (m1.dz h)) _ _ _ E z1.ok ((z1.srep m s).set i (.ptr a)) z1.mem (fun σ' H' ρ' μ' Z' q z s' => n σ' H' ρ' μ' Z' q (z1.tr k m z) s') fun v H' d μ' Z' q z r' => r v H' d μ' Z' q (z1.tr k m z) r'
/-- a walk, whatever is owned meanwhile -/
theorem walkN {J : It} {ds : List D} {Z : Addr → Prop} {H1 : Hp} (w1 : DW Z J H1 ds) : Walk J ds.length (fun H => ∃ Zi : Addr → Prop, (∀ a, Zi a → Z a ∨ H1 a = none) ∧ WG Zi H1 H) (fun i H x H' => ∀ Zi : Addr → Prop, (∀ a, Zi a → Z a ∨ H1 a = none) → WG Zi H1 H → WY Zi ds i H x H') :=
  ⟨fun i H hi ⟨Zi, hz, g⟩ => (w1 Zi hz).goes i H hi g, fun H ⟨Zi, hz, g⟩ => (w1 Zi hz).stops H g, fun i H x H' hi _ y Zi hz g => (w1 Zi hz).yields i H x H' hi g y⟩
theorem Nw.wg {Z Zi : Addr → Prop} {H1 Hc : Hp} {μi : Mu} (m1 : Mem Z H1 μ) (z : Nw Z H1 μ Zi Hc μi) : WG (fun a => Z a ∨ Zi a) H1 Hc := ⟨fun a o hn ho => z.ext a o (fun h => hn (.inl (m1.dz h))) ho, fun a h => h.elim (z.ok0 a) (z.ok a)⟩
theorem forN {J : It} {ds : List D} {Z : Addr → Prop} {H H1 : Hp} {μ1 : Mu} {σ : L2.St} {E : Ends} (n1 : Nw Z H μ Z H1 μ1) (k : okZ Z H) (m : Mem Z H μ) (s : SRep Z H σ ρ) (w1 : DW Z J H1 ds) (I : Nat → Rho → Mu → Prop) {ρ0 : Rho} (hl : Lq ρ0 ρ) (h0 : I 0 ρ0 μ1)
    (hb : ∀ i d ρi μi, ds[i]? = some d → I i ρi μi → ∃ ρ', GA g d ρi ρ' ∧ GN ts ρ' μi (fun ρ'' μ'' => ∃ ρ1, Lq ρ1 ρ'' ∧ I (i + 1) ρ1 μ'') R) (hn : ∀ ρ' μ', I ds.length ρ' μ' → N ρ' μ')
    (n : ∀ σ' H' ρ' μ' Z', N ρ' μ' → Nw Z H μ Z' H' μ' → SRep Z' H' σ' ρ' → E.nx σ' H') (r : ∀ v H' d μ' Z', R d μ' → Nw Z H μ Z' H' μ' → Rep Z' H' v d → E.rt v H') : tFor (fun _ H R => R J H) g ts E σ H1 := by
  have m1 := n1.mem
  have k1 := n1.ok
  have hzz : ∀ {Zi : Addr → Prop} {Hc : Hp} {μi : Mu}, Nw Z H1 μ1 Zi Hc μi → ∀ a, (Z a ∨ Zi a) → Z a ∨ H1 a = none := fun z a h => h.elim .inl (z.zs a)
  refine for_it (walkN w1) (fun i σ Hc => ∃ ρi μi Zi, I i ρi μi ∧ Nw Z H1 μ1 Zi Hc μi ∧ SRep Zi Hc σ ρi) ⟨ρ0, μ1, Z, h0, ((Nxt.rf m1).nz k1).nw, (n1.srep m s).lq hl⟩ (fun i σ Hc _ ⟨ρi, μi, Zi, _, z, _⟩ => ⟨_, hzz z, z.wg m1⟩) ?_ fun σ Hc ⟨ρi, μi, Zi, hI, z, si⟩ => n σ Hc ρi μi Zi (hn _ _ hI) (n1.tr k m z) si
  rintro i x σ Hc H' hi ⟨ρi, μi, Zi, hI, z, si⟩ y
  obtain ⟨y1, d, y2, y3⟩ := y _ (hzz z) (z.wg m1)
  obtain ⟨ρ', g1, g2⟩ := hb i d ρi μi y2 hI
  have z' : Nw Z H1 μ1 Zi H' μi := z.tr k1 m1 ((Nxt.exs z.mem y1).nz z.ok).nw
  refine g1 Zi σ H' x _ z'.ok (si.mono y1.to) (y3.zs fun a h => .inl (.inr h)) fun σ' s' => ?_
  refine g2 Zi σ' H' _ z'.ok s' z'.mem (fun σ2 H2 ρ2 μ2 Z2 q z2 s2 => ?_) fun v H2 d μ2 Z2 q z2 r2 => r v H2 d μ2 Z2 q (n1.tr k m (z'.tr k1 m1 z2)) r2
  obtain ⟨ρ1, l1, q⟩ := q
  exact ⟨ρ1, μ2, Z2, q, z'.tr k1 m1 z2, s2.lq l1⟩
theorem gn_for {wi : TI} {ds : List D} (I : Nat → Rho → Mu → Prop) (hi : EvI wi ρ ds) {ρ0 : Rho} (hl : Lq ρ0 ρ) (h0 : I 0 ρ0 μ)
    (hb : ∀ i d ρi μi, ds[i]? = some d → I i ρi μi → ∃ ρ', GA g d ρi ρ' ∧ GN ts ρ' μi (fun ρ'' μ'' => ∃ ρ1, Lq ρ1 ρ'' ∧ I (i + 1) ρ1 μ'') R) (hn : ∀ ρ' μ', I ds.length ρ' μ' → N ρ' μ') : GN (tFor wi g ts) ρ μ N R := fun Z σ H E k s m n r =>
  hi Z σ H _ k s fun J H1 x1 w1 => forN ((Nxt.exs m x1).nz k).nw k m s w1 I hl h0 hb hn n r
/-- an owned thing is data from now on -/
theorem Nw.frz {Z : Addr → Prop} {H : Hp} {a : Addr} {μ1 μ2 : Mu} (k : okZ Z H) (m : Mem Z H (μ1 ++ (a, c) :: μ2)) (ht : isTab c = false := by rfl) : Nw Z H (μ1 ++ (a, c) :: μ2) (fun b => Z b ∧ b ≠ a) H (μ1 ++ μ2) ∧ Rep (fun b => Z b ∧ b ≠ a) H (.ref a) c := by
  have hmem : (a, c) ∈ μ1 ++ (a, c) :: μ2 := List.mem_append_right _ List.mem_cons_self
  have nd0 := m.nd
  rw [List.map_append, List.map_cons] at nd0
  have nd : ¬ dom (μ1 ++ μ2) a := fun hd => by
    unfold dom at hd
    rw [List.map_append, List.mem_append] at hd
    rcases hd with hd | hd
    · exact (List.nodup_append.mp nd0).2.2 a hd a List.mem_cons_self rfl
    · exact (List.nodup_cons.mp (List.nodup_append.mp nd0).2.1).1 hd
  obtain ⟨za, hc⟩ := m.cs _ hmem
  have sub : ∀ p ∈ μ1 ++ μ2, p ∈ μ1 ++ (a, c) :: μ2 := fun p hp => by
    rcases List.mem_append.mp hp with h | h
    · exact List.mem_append_left _ h
    · exact List.mem_append_right _ (List.mem_cons_of_mem _ h)
  have subd : ∀ b, dom (μ1 ++ μ2) b → dom (μ1 ++ (a, c) :: μ2) b := fun b hb => by
    obtain ⟨p, hp, rfl⟩ := List.mem_map.mp hb
    exact List.mem_map.mpr ⟨p, sub p hp, rfl⟩
  refine ⟨⟨Ext.rf H, fun b h => .inl (subd b h), ⟨fun p hp => ?_, ?_⟩, fun b h => k b h.1, k, fun b h => .inl h.1, fun b h => ?_⟩, hc.rep ht (fun h => h.2 rfl) fun b h => h.1⟩
  · obtain ⟨z1, c1⟩ := m.cs p (sub p hp)
    exact ⟨⟨z1, fun e => nd (e ▸ List.mem_map.mpr ⟨p, hp, rfl⟩)⟩, c1.zs fun b h => h.1⟩
  · rw [List.map_append]
    obtain ⟨q1, q2, q3⟩ := List.nodup_append.mp nd0
    exact List.nodup_append.mpr ⟨q1, (List.nodup_cons.mp q2).2, fun x hx y hy => q3 x hx y (List.mem_cons_of_mem _ hy)⟩
  · by_cases e : b = a
    · subst e; exact .inr ⟨List.mem_map.mpr ⟨_, hmem, rfl⟩, nd⟩
    · exact .inl ⟨h, e⟩
theorem set_slot {σ : L2.St} {i : Nat} {v : V} (hs : σ[i]? = some (some v)) : σ.set i (some v) = σ := by
  apply List.ext_getElem?
  intro j
  rw [List.getElem?_set]
  by_cases hj : i = j
  · subst hj
    rw [if_pos rfl, hs, if_pos (List.getElem?_eq_some_iff.mp hs).1]
  · rw [if_neg hj]
theorem gn_freeze {i : Nat} {a : Addr} {μ1 μ2 : Mu} (hi : ρ[i]? = some (some (.ptr a))) (h : GN ts (ρ.set i (some c)) (μ1 ++ μ2) N R) (ht : isTab c = false := by rfl) : GN ts ρ (μ1 ++ (a, c) :: μ2) N R := fun Z σ H E k s m n r => by
  obtain ⟨z, ra⟩ := Nw.frz k m ht
  obtain ⟨v, hs, hr⟩ := s.2 i _ hi
  cases hr
  have s' := (z.srep m s).set i ra
  rw [set_slot hs] at s'
  exact h _ σ H E z.ok s' z.mem (fun σ' H' ρ' μ' Z' q z2 s2 => n σ' H' ρ' μ' Z' q (z.tr k m z2) s2) fun v H' d μ' Z' q z2 r2 => r v H' d μ' Z' q (z.tr k m z2) r2
/-- an owned thing is forgotten -/
theorem gn_forget {a : Addr} {μ1 μ2 : Mu} (h : GN ts ρ (μ1 ++ μ2) N R) (ht : isTab c = false := by rfl) : GN ts ρ (μ1 ++ (a, c) :: μ2) N R := fun Z σ H E k s m n r => by
  obtain ⟨z, _⟩ := Nw.frz k m ht
  exact h _ σ H E z.ok (z.srep m s) z.mem (fun σ' H' ρ' μ' Z' q z2 s2 => n σ' H' ρ' μ' Z' q (z.tr k m z2) s2) fun v H' d μ' Z' q z2 r2 => r v H' d μ' Z' q (z.tr k m z2) r2
theorem RepF.byRep {Z Z1 : Addr → Prop} {H H1 : Hp} (h : ∀ v d, Rep Z H v d → Rep Z1 H1 v d) : ∀ {vs : List (Str × V)} {ds : List (Str × D)}, RepF Z H vs ds → RepF Z1 H1 vs ds
  | _, _, .nil => .nil
  | _, _, .cons r rs => .cons (h _ _ r) (rs.byRep h)
theorem RepK.byRep {Z Z1 : Addr → Prop} {H H1 : Hp} (h : ∀ v d, Rep Z H v d → Rep Z1 H1 v d) : ∀ {vs : List (Key × V)} {ds : List (Key × D)}, RepK Z H vs ds → RepK Z1 H1 vs ds
  | _, _, .nil => .nil
  | _, _, .cons r rs => .cons (h _ _ r) (rs.byRep h)
theorem RepT.byRep {Z Z1 : Addr → Prop} {H H1 : Hp} (h : ∀ v d, Rep Z H v d → Rep Z1 H1 v d) : ∀ {vs : List (List Key × V)} {ds : List (List Key × D)}, RepT Z H vs ds → RepT Z1 H1 vs ds
  | _, _, .nil => .nil
  | _, _, .cons r rs => .cons (h _ _ r) (rs.byRep h)
theorem RepN.byRep {Z Z1 : Addr → Prop} {H H1 : Hp} (h : ∀ v d, Rep Z H v d → Rep Z1 H1 v d) : ∀ {vs : NEs} {ds : List (NestedKey × D)}, RepN Z H vs ds → RepN Z1 H1 vs ds
  | _, _, .nil => .nil
  | _, _, .cons k hk r rs => .cons (h _ _ k) hk (h _ _ r) (rs.byRep h)
theorem Cont.byRep {Z Z1 : Addr → Prop} {H H1 : Hp} {a : Addr} {d : D} (h : ∀ v d, Rep Z H v d → Rep Z1 H1 v d) (e : H1 a = H a) (hc : ∀ c o, ¬ Z c → H c = some o → ¬ Z1 c ∧ H1 c = some o) (k : Cont Z H a d) : Cont Z1 H1 a d := by
  cases k with
  | lst q r => exact .lst (e.trans q) (r.byRep h)
  | ins q r => exact .ins (e.trans q) (r.byRep h)
  | dK q r => exact .dK (e.trans q) (r.byRep h)
  | dT q r => exact .dT (e.trans q) (r.byRep h)
  | dN q r => exact .dN (e.trans q) (r.byRep h)
  | tbl h0 t r => exact .tbl (e.trans h0) t fun p v hv => let ⟨c, e1, n, e2⟩ := r p v hv; ⟨c, e1, hc c _ n e2⟩
/-! calls of defs that hand back what is new and owned -/
def spN (Rn : List D → Mu → (D → Mu → Prop) → Prop) : Sp := fun vs H Q _ => ∃ (Z : Addr → Prop) (ds : List D) (μ : Mu) (Φ : D → Mu → Prop), okZ Z H ∧ Reps Z H vs ds ∧ Mem Z H μ ∧ Rn ds μ Φ ∧ ∀ v H' d μ' Z', Φ d μ' → Nw Z H μ Z' H' μ' → Rep Z' H' v d → Q v H'
theorem Nw.frameL {Z Z' : Addr → Prop} {H H' : Hp} {μ ν μ' : Mu} (k : okZ Z H) (m : Mem Z H (ν ++ μ)) (n : Nw Z H μ Z' H' μ') : Nw Z H (ν ++ μ) Z' H' (ν ++ μ') := by
  have nd := m.nd
  rw [List.map_append] at nd
  have hd : ∀ a, dom ν a → ¬ dom μ a := fun a h1 h2 => (List.nodup_append.mp nd).2.2 a h1 a h2 rfl
  have hz : ∀ a, dom ν a → Z a := fun a h => m.dz (by unfold dom at h ⊢; rw [List.map_append]; exact List.mem_append_left _ h)
  have hz' : ∀ a, dom ν a → Z' a := fun a h => (n.zk a (hz a h)).resolve_right fun g => hd a h g.1
  have hn' : ∀ a, dom ν a → ¬ dom μ' a := fun a h1 h2 => by
    rcases n.nw a h2 with h | h
    · exact hd a h1 h
    · obtain ⟨o, ho, _⟩ := k a (hz a h1)
      rw [h] at ho; cases ho
  refine ⟨n.ext.wk fun a h => by unfold dom at h ⊢; rw [List.map_append]; exact List.mem_append_right _ h, fun a h => ?_, ⟨fun p hp => ?_, ?_⟩, n.ok, n.ok0, n.zs, fun a h => ?_⟩
  · unfold dom at h ⊢
    rw [List.map_append, List.mem_append] at h ⊢
    rcases h with h | h
    · exact .inl (.inl h)
    · exact (n.nw a h).imp .inr id
  · obtain ⟨p1, p2⟩ := p
    rcases List.mem_append.mp hp with h | h
    · obtain ⟨z1, c1⟩ := m.cs (p1, p2) (List.mem_append_left _ h)
      have hdn : dom ν p1 := List.mem_map.mpr ⟨_, h, rfl⟩
      refine ⟨hz' _ hdn, ?_⟩
      have mr := m.right
      dsimp only at c1 z1 ⊢
      have one : H' p1 = H p1 := by
        obtain ⟨o, ho, _⟩ := c1.is
        rw [ho]; exact n.ext _ _ (hd _ hdn) ho
      exact c1.byRep (fun v d r => n.rep mr r) one fun c o hz ho => ⟨fun z => (n.zs c z).elim hz fun e => (by rw [ho] at e; cases e), n.ext c o (fun d => hz (mr.dz d)) ho⟩
    · exact n.mem.cs _ h
  · rw [List.map_append]
    exact List.nodup_append.mpr ⟨(List.nodup_append.mp nd).1, n.mem.nd, fun x hx y hy e => hn' x hx (e ▸ hy)⟩
  · rcases n.zk a h with h | ⟨h1, h2⟩
    · exact .inl h
    · refine .inr ⟨by unfold dom at h1 ⊢; rw [List.map_append]; exact List.mem_append_right _ h1, fun h3 => ?_⟩
      unfold dom at h3
      rw [List.map_append, List.mem_append] at h3
      rcases h3 with h3 | h3
      · exact hd a h3 h1
      · exact h2 h3
/-- x = f(..) -/
theorem gn_call {i : Nat} {Rn : List D → Mu → (D → Mu → Prop) → Prop} {E : XK} {ta : TA} (h : GEA ta ρ μ fun ds μ1 => ∃ ν μa, μ1 = ν ++ μa ∧ Rn ds μa fun d μ' => GN us (ρ.set i (some d)) (ν ++ μ') N R) : GN (tSeq (tAsg (tCall (spN Rn) [] E ta) (gName i)) us) ρ μ N R := fun Z σ H E' k s m n r =>
  h Z σ H _ k s m fun vs H1 ds μ1 f n1 r1 => by
    obtain ⟨ν, μa, rfl, f⟩ := f
    have k1 := n1.ok k
    refine ⟨Z, ds, μa, _, k1, by rw [List.append_nil]; exact r1, n1.mem.right, f, fun v H' d μ' Z' q z rd => ?_⟩
    have z1 := (n1.nz k).nw.tr k m (z.frameL k1 n1.mem)
    exact q Z' _ H' E' z1.ok ((z1.srep m s).set i rd) z1.mem (fun σ' H2 ρ' μ2 Z2 q2 z2 s2 => n σ' H2 ρ' μ2 Z2 q2 (z1.tr k m z2) s2) fun v H2 d μ2 Z2 q2 z2 r2 => r v H2 d μ2 Z2 q2 (z1.tr k m z2) r2
/-- a def that hands back what is new -/
theorem eff_okN {P : Program} {w : World} {mg : Str → Option Value} {base : Heap} {x qual : Str} {stm : Stmt} {fa : Addr} {fd : FuncData} {N0 ps : List Str} {k : Nat} {Rn : List D → Mu → (D → Mu → Prop) → Prop} (F : Fun K x qual stm fa fd) (S : FnScope N0 ps (defScope stm)) (len : ∀ ds μ Φ, Rn ds μ Φ → ds.length = ps.length)
    (hb : ∀ (cdv : Value) (A : Around) (outer : List Env) (s : Shared) (H : Hp) (E : XK), Room k (A.deeper (PyProof.Rows.envOfC qual (defScope stm) s.heap.objs.size fa cdv)) →
      ∃ t, PSs (cxOf CX0 P w K mg base N0 qual (defScope stm) fa cdv A outer s H E).nox (defBody stm) t ∧ ∀ ds μ Φ, Rn ds μ Φ → GN t (rho0 N0 ds) μ (fun _ μ' => Φ .non μ') Φ) : FnOk P w K mg base CX0 (k + 1) fa fd ps (spN Rn) := by
  refine F.ok S (fun vs H Q E h => ?_) (fun cdv A outer s H vs Q E hr h => ?_)
  · obtain ⟨Z, ds, μ, Φ, _, r, _, hR, _⟩ := h
    exact r.len.trans (len ds μ Φ hR)
  · obtain ⟨Z, ds, μ, Φ, ok, r, m, hR, q⟩ := h
    obtain ⟨t, ht, hs⟩ := hb cdv A outer s H E hr
    refine ⟨t, ht, ?_⟩
    have s0 : SRep Z H (L2.start N0 vs) (rho0 N0 ds) := by
      unfold L2.start rho0
      rw [r.len]
      exact SRep.start r _
    exact hs ds μ Φ hR Z _ H _ ok s0 m (fun σ' H' ρ' μ' Z' p z s' => q _ H' _ μ' Z' p z .non) fun v H' d μ' Z' p z r' => q v H' d μ' Z' p z r'
/-- a def that owns more on its way, and hands back data -/
theorem eff_okM {P : Program} {w : World} {mg : Str → Option Value} {base : Heap} {x qual : Str} {stm : Stmt} {fa : Addr} {fd : FuncData} {N0 ps : List Str} {k : Nat} {Rn : List D → Mu → (D → Mu → Prop) → Prop} (F : Fun K x qual stm fa fd) (S : FnScope N0 ps (defScope stm)) (len : ∀ ds μ Φ, Rn ds μ Φ → ds.length = ps.length)
    (hb : ∀ (cdv : Value) (A : Around) (outer : List Env) (s : Shared) (H : Hp) (E : XK), Room k (A.deeper (PyProof.Rows.envOfC qual (defScope stm) s.heap.objs.size fa cdv)) →
      ∃ t, PSs (cxOf CX0 P w K mg base N0 qual (defScope stm) fa cdv A outer s H E).nox (defBody stm) t ∧ ∀ ds μ Φ, Rn ds μ Φ → GN t (rho0 N0 ds) μ (fun _ μ' => ∃ ν μ'', μ' = ν ++ μ'' ∧ μ''.map (·.1) = μ.map (·.1) ∧ Φ .non μ'') (fun d μ' => ∃ ν μ'', μ' = ν ++ μ'' ∧ μ''.map (·.1) = μ.map (·.1) ∧ Φ d μ'')) : FnOk P w K mg base CX0 (k + 1) fa fd ps (spM Rn) := by
  have fin : ∀ {Z Z' : Addr → Prop} {H H' : Hp} {μ μ' ν : Mu}, Mem Z H μ → μ'.map (·.1) = μ.map (·.1) → Nw Z H μ Z' H' (ν ++ μ') → Nxt Z H μ H' μ' ∧ ∀ a, Z a → Z' a := fun {Z Z' H H' μ μ' ν} m e z => by
    have zz : ∀ a, Z a → Z' a := fun a h => (z.zk a h).resolve_right fun h => h.2 (by have := h.1; unfold dom at this ⊢; rw [List.map_append, e]; exact List.mem_append_right _ this)
    refine ⟨⟨z.ext, e, ⟨fun p hp => ?_, by have := z.mem.right.nd; exact this⟩⟩, zz⟩
    obtain ⟨z1, c1⟩ := z.mem.cs p (List.mem_append_right _ hp)
    exact ⟨m.dz (by unfold dom; rw [← e]; exact List.mem_map.mpr ⟨p, hp, rfl⟩), c1.zs zz⟩
  refine F.ok S (fun vs H Q E h => ?_) (fun cdv A outer s H vs Q E hr h => ?_)
  · obtain ⟨Z, ds, μ, Φ, _, r, _, hR, _⟩ := h
    exact r.len.trans (len ds μ Φ hR)
  · obtain ⟨Z, ds, μ, Φ, ok, r, m, hR, q⟩ := h
    obtain ⟨t, ht, hs⟩ := hb cdv A outer s H E hr
    refine ⟨t, ht, ?_⟩
    have s0 : SRep Z H (L2.start N0 vs) (rho0 N0 ds) := by
      unfold L2.start rho0
      rw [r.len]
      exact SRep.start r _
    refine hs ds μ Φ hR Z _ H _ ok s0 m (fun σ' H' ρ' μ' Z' p z s' => ?_) fun v H' d μ' Z' p z r' => ?_
    · obtain ⟨ν, μ'', rfl, e, p⟩ := p
      exact q _ H' _ μ'' p (fin m e z).1 .non
    · obtain ⟨ν, μ'', rfl, e, p⟩ := p
      exact q _ H' _ μ'' p (fin m e z).1 (r'.zs fun a h => .inl ((fin m e z).2 a h))
end
end Du
namespace Du
open PySem L2
section
variable {ρ : Rho} {μ : Mu} {te td ty tk tv : TE} {tt : TT} {Φ : D → Mu → Prop} {N : Rho → Mu → Prop} {R : D → Mu → Prop}
theorem dcT_main {α : Type} {φ : α → D} {J : It} {g : TG} {vs : List Nat} {ds : List α} {kf : α → List Key} {vf : α → D} {Z : Addr → Prop} {σ : L2.St} {H1 : Hp} {Q : VK} (k1 : okZ Z H1) (s0 : SRep Z H1 σ ρ) (w1 : DW Z J H1 (ds.map φ)) (hz : ds.length ≤ 100000) (nd : (ds.map kf).Nodup)
    (hb : ∀ d ∈ ds, ∃ ρ', GW g vs (φ d) (wipeR ρ vs) ρ' ∧ Ev tk ρ' (tK (kf d)) ∧ Ev tv ρ' (vf d))
    (q : ∀ v H', Ex H1 H' → Rep Z H' v (.dT (ds.map fun d => (kf d, vf d))) → Q v H') : tDcT (fun _ H R => R J H) g tYes tk tv vs σ H1 Q := by
  intro Dd hD
  have hz' : ∀ a, (Z a ∨ a = Dd) → Z a ∨ H1 a = none := fun a z => z.imp id fun (e : a = Dd) => by rw [e]; exact hD
  have hll : (ds.map φ).length = ds.length := List.length_map ..
  have W := w1 (fun a => Z a ∨ a = Dd) hz'
  have s1 : SRep (fun a => Z a ∨ a = Dd) H1 σ ρ := s0.zs hz'
  let Pv : Nat → Hp → Prop := fun i Hc => Ext (fun a => Z a ∨ a = Dd) H1 Hc ∧ okZ (fun a => Z a ∨ a = Dd) Hc ∧ (∀ a o, Z a → H1 a = some o → Hc a = some o) ∧ ∃ acc, Hc Dd = some (.dT acc) ∧ RepT (fun a => Z a ∨ a = Dd) Hc acc ((ds.take i).map fun d => (kf d, vf d))
  refine ⟨fun i m Hc => m = ds.length - i ∧ i ≤ ds.length ∧ Pv i Hc, ⟨ds.length, by simp, Nat.zero_le _, Ext.new hD, k1.add rfl, fun a o z h => by rw [upd_ne (ne_of_none h hD)]; exact h, [], upd_same, by simpa using .nil⟩, ?_⟩
  rintro i m Hc ⟨rfl, hi, e1, e2, e3, acc, e4, e5⟩
  by_cases hlt : i < ds.length
  · refine .inr ⟨W.goes i Hc (hll ▸ hlt) ⟨e1, e2⟩, Pv (i + 1), fun Hn p => ⟨ds.length - (i + 1), by omega, rfl, hlt, p⟩, fun x H' y => ?_⟩
    obtain ⟨y1, d0, y20, y3⟩ := W.yields i Hc x H' (hll ▸ hlt) ⟨e1, e2⟩ y
    rw [List.getElem?_map] at y20
    obtain ⟨d, y2, rfl⟩ := Option.map_eq_some_iff.mp y20
    have hm : d ∈ ds := List.mem_of_getElem? y2
    obtain ⟨ρ', g1, g2, g3⟩ := hb d hm
    have x' : Ext (fun a => Z a ∨ a = Dd) H1 H' := e1.tr y1.to
    refine g1 _ (wipe σ vs) H' x _ (e2.ex y1) ((s1.wipe vs).mono x') y3 fun σ' s' w' => ⟨w'.trans (wipe_wipe σ vs), ?_⟩
    refine et_yes (ρ := ρ') _ σ' H' _ (e2.ex y1) s' fun H0 x0 => ?_
    rw [if_pos rfl]
    have y10 := y1.tr x0
    refine g2 _ σ' H0 _ (e2.ex y10) (s'.mono x0.to) fun v3 H3 x3 r3 => ?_
    have y13 := y10.tr x3
    refine g3 _ σ' H3 _ (e2.ex y13) (s'.mono (x0.tr x3).to) fun v H4 x4 r4 => ?_
    have y14 := y13.tr x4
    have et : ds.take (i + 1) = ds.take i ++ [d] := by rw [List.take_add_one, y2]; rfl
    cases r3.mono (x4.to (Z := fun a => Z a ∨ a = Dd)) with
    | tup n3 h3 rs3 =>
      have e5' := e5.mono (y14.to (Z := fun a => Z a ∨ a = Dd))
      have hnew : valV acc (kf d) = none := by
        have hk : kf d ∉ acc.map (·.1) := by
          rw [e5'.keys, List.map_map]
          intro hin
          obtain ⟨d', hd', ed⟩ := List.mem_map.mp hin
          have nd' : ((ds.take i).map kf ++ [kf d]).Nodup := by
            have h1 : ((ds.take (i + 1)).map kf).Nodup := by
              rw [List.map_take]; exact nd.sublist (List.take_sublist _ _)
            rw [et, List.map_append] at h1
            exact h1
          exact (List.nodup_append.mp nd').2.2 (kf d') (List.mem_map_of_mem hd') (kf d) (by simp) ed
        unfold valV
        rw [Option.map_eq_none_iff, List.find?_eq_none]
        intro e he
        simp only [decide_eq_true_eq]
        intro z
        exact hk (z ▸ List.mem_map_of_mem he)
      have hl : acc.length ≤ 100000 := by
        rw [e5'.len, List.length_map, List.length_take]; omega
      have xm : Ext (fun a => Z a ∨ a = Dd) H4 (upd H4 Dd (.dT (putK acc (kf d) v))) := (Ext.rf H4).mut (.inr rfl)
      refine ⟨acc, kf d, _, rfl, by rw [h3, repK_of rs3], y14.exact e4, Nat.lt_of_le_of_lt hl (by decide), (e1.tr y14.to).mut (.inr rfl), (e2.ex y14).upd rfl, fun a o z h => ?_, _, upd_same, ?_⟩
      · rw [upd_ne (ne_of_none h hD)]
        exact y14 a o (e3 a o z h)
      · rw [et, List.map_append]
        rw [putK_new v hnew] at xm ⊢
        exact (e5'.mono xm).app (.cons (r4.mono xm) .nil)
  · have e : i = ds.length := by omega
    subst e
    refine .inl ⟨hll ▸ W.stops Hc ⟨e1, e2⟩, ?_⟩
    rw [List.take_length] at e5
    have xx : Ex H1 Hc := fun a o h => by
      by_cases z : Z a
      · exact e3 a o z h
      · exact e1 a o (fun y => y.elim z (ne_of_none h hD)) h
    exact q _ Hc xx (.dT (k1.no hD) (.inl e4) (e5.zs fun a z => .inl (.inl z)))

theorem ev_dcX {α : Type} {φ : α → D} {wi : TI} {g : TG} {vs : List Nat} {ds : List α} {kf : α → List Key} {vf : α → D} (hL : LkI wi ρ (ds.map φ)) (hz : ds.length ≤ 100000) (nd : (ds.map kf).Nodup)
    (hb : ∀ d ∈ ds, ∃ ρ', GW g vs (φ d) (wipeR ρ vs) ρ' ∧ Ev tk ρ' (tK (kf d)) ∧ Ev tv ρ' (vf d)) : Ev (tLk (tDcT wi g tYes tk tv vs)) ρ (.dT (ds.map fun d => (kf d, vf d))) := fun Z σ H Q k s q => by
  obtain ⟨d, u, n, hu, hmu, hr, f⟩ := hL Z σ H k s
  rcases hr with h | ⟨o, h⟩
  · refine .inl ⟨d, u, h, hmu, fun od => ?_⟩
    have wl : ExtW Z H (upd H d (.frz od u)) := lockW hu h od
    have kl : okZ Z (upd H d (.frz od u)) := k.upd (by rfl)
    refine f _ od _ wl kl upd_same fun J w1 => ?_
    refine dcT_main (Q := fun v H' => H' d = some (.frz od u) ∧ Q v (upd H' d u)) kl (s.monoW wl) w1 hz nd hb fun v H' x' r' => ?_
    have hl : H' d = some (.frz od u) := x' d _ upd_same
    refine ⟨hl, q v _ (fun a o e => ?_) (r'.monoW (unlockW hu hl))⟩
    by_cases z : a = d
    · subst z; rw [h] at e; cases e; exact upd_same
    · rw [upd_ne z]; exact x' a o (by rw [upd_ne z]; exact e)
  · exact .inr (f H o _ (ExtW.rf H) k h fun J w1 => dcT_main k s w1 hz nd hb fun v H' x' r' => q v H' x' r')
/-! d[k] = v of an owned dict with texts as keys -/
theorem gs_kput (h : GE tv ρ μ fun v μ1 => GE td ρ μ1 fun d μ2 => GE ty ρ μ2 fun e μ3 => ∃ (a : Addr) (j : Nat) (kvs : List (Key × D)) (k : Str), d = .ptr a ∧ e = .str k ∧ μ3[j]? = some (a, .dK kvs) ∧ kvs.length < 100000 ∧ N ρ (μ3.set j (a, .dK (putG kvs (.inr k) v)))) : GS (sDPut td ty tv) ρ μ N R := fun Z σ H E k s m n r =>
  h Z σ H _ k s m fun v H1 dv μ1 g n1 r1 => g Z σ H1 _ (n1.ok k) (s.mono (n1.to m)) n1.mem fun x H2 d μ2 g n2 r2 => g Z σ H2 _ (n2.ok (n1.ok k)) ((s.mono (n1.to m)).mono (n2.to n1.mem)) n2.mem fun y H3 e μ3 g n3 r3 => by
    obtain ⟨a, j, kvs, kk, rfl, rfl, hj, hz, q⟩ := g
    cases r2; cases r3
    obtain ⟨za, es, he, rs⟩ := n3.mem.dKs hj
    have nn := (n1.tr n2).tr n3
    have r1' := (r1.mono (n2.to n1.mem)).mono (n3.to n2.mem)
    have n4 : Nxt Z H3 μ3 (upd H3 a (.dK (putK es (.inr kk) v))) (μ3.set j (a, .dK (putG kvs (.inr kk) dv))) := .putC n3.mem hj (.dK upd_same ((rs.put r1').mono ((Ext.rf H3).mut za)))
    exact ⟨a, _, rfl, .inl ⟨es, .inr kk, he, rfl, Nat.lt_of_lt_of_le (by rw [rs.len]; exact hz) (by decide), rfl⟩, n _ _ ρ _ Z q ((nn.tr n4).nz k) ((s.mono (nn.to m)).mono (n4.to n3.mem))⟩
end
end Du
namespace Du
open PySem L2
section
variable {K : PySem.W.Frag} {ρ : Rho} {μ : Mu} {te ta tb : TE} {ts us : TS} {c c1 c2 : D} {Φ : D → Mu → Prop} {N : Rho → Mu → Prop} {R : D → Mu → Prop}
/-- xs.pop() of an owned list -/
theorem ge_pop0 (h : GE te ρ μ fun d μ1 => ∃ (a : Addr) (k : Nat) (ds : List D) (z : D), d = .ptr a ∧ μ1[k]? = some (a, .lst (ds ++ [z])) ∧ Φ z (μ1.set k (a, .lst ds))) : GE (tBM0 K "list" rPop te) ρ μ Φ := fun Z σ H Q k s m q =>
  h Z σ H _ k s m fun x H1 d μ1 g n1 r1 => by
    obtain ⟨a, kk, ds, z, rfl, hk, f⟩ := g
    cases r1
    obtain ⟨za, vs, hv, rs⟩ := n1.mem.lst hk
    obtain ⟨ws, v, rfl, rw1, rv⟩ : ∃ ws v, vs = ws ++ [v] ∧ Reps Z H1 ws ds ∧ Rep Z H1 v z := by
      have hl := rs.len
      rw [List.length_append] at hl
      simp only [List.length_cons, List.length_nil] at hl
      have h1 := rs.take ds.length
      have h2 := rs.drop ds.length
      rw [List.take_left' rfl] at h1
      rw [List.drop_left' rfl] at h2
      cases hd : vs.drop ds.length with
      | nil => rw [hd] at h2; cases h2
      | cons v t =>
        rw [hd] at h2
        cases h2 with
        | cons r t' =>
          cases t'
          exact ⟨vs.take ds.length, v, by rw [← hd, List.take_append_drop], h1, r⟩
    have n2 : Nxt Z H1 μ1 (upd H1 a (.lst ws)) (μ1.set kk (a, .lst ds)) := .put n1.mem hk rw1
    refine ⟨.inl ⟨rfl, _, .inl (.inl hv)⟩, a, _, v, rfl, rfl, hv, by simp, ?_⟩
    rw [List.dropLast_concat]
    exact q v _ z _ f (n1.tr n2) (rv.mono (n2.to n1.mem))
theorem ef_listOf {xs : List D} (h : Ev te ρ (.lst xs)) : EvF (tCB (fun xs H Q => ∃ p ys, xs = [.ref p] ∧ (SqL K H p ys ∨ SqT K H p ys) ∧ ∀ l, H l = none → Q (.ref l) (upd H l (.lst ys))) (tCons te tNil)) ρ (.lst xs) := fun Z σ H Q k s q =>
  h Z σ H _ k s fun v H1 x1 r1 => by
    cases r1 with
    | lst n1 hv rs => exact ⟨_, _, rfl, .inl (.inl (.inl hv)), fun a ha => q a H1 _ x1 ha rfl (.lst upd_same ((rs.zs fun b z => z.imp id fun (e : b = a) => by rw [e]; exact ha).mono (Ext.new ha)))⟩
theorem ef_listOfT {xs : List D} (h : Ev te ρ (.tup xs)) : EvF (tCB (fun xs H Q => ∃ p ys, xs = [.ref p] ∧ (SqL K H p ys ∨ SqT K H p ys) ∧ ∀ l, H l = none → Q (.ref l) (upd H l (.lst ys))) (tCons te tNil)) ρ (.lst xs) := fun Z σ H Q k s q =>
  h Z σ H _ k s fun v H1 x1 r1 => by
    cases r1 with
    | tup n1 hv rs => exact ⟨_, _, rfl, .inr (.inl (.inl hv)), fun a ha => q a H1 _ x1 ha rfl (.lst upd_same ((rs.zs fun b z => z.imp id fun (e : b = a) => by rw [e]; exact ha).mono (Ext.new ha)))⟩
/-- x, y = two new things -/
theorem gn_own2 {i j : Nat} (h1 : EvF ta ρ c1) (h2 : EvF tb ρ c2) (hs : ∀ a b, a ≠ b → ¬ dom μ a → ¬ dom μ b → GN us ((ρ.set i (some (.ptr a))).set j (some (.ptr b))) ((b, c2) :: (a, c1) :: μ) N R) : GN (tSeq (tPar i j (tCons ta (tCons tb tNil))) us) ρ μ N R := fun Z σ H E k s m n r =>
  h1 Z σ H _ k s fun a H1 o x1 ha ho hc => by
    have z1 := ((Nxt.exs m x1).nz k).nw.tr k m (Nw.own (k.ex x1) (m.ex x1) ha ho hc)
    refine h2 _ σ _ _ z1.ok (z1.srep m s) fun b H2 o2 x2 hb ho2 hc2 => ⟨_, _, rfl, ?_⟩
    have k2 := z1.ok.ex x2
    have m2 := z1.mem.ex x2
    have z2 := z1.tr k m (((Nxt.exs z1.mem x2).nz z1.ok).nw.tr z1.ok z1.mem (Nw.own k2 m2 hb ho2 hc2))
    have hb1 : (upd H1 a o) b = none := x2.free hb
    have ne : b ≠ a := fun e => by rw [e, upd_same] at hb1; cases hb1
    have hb0 : H1 b = none := by rwa [upd_ne ne] at hb1
    refine hs a b ne.symm (fun h => (k.ex x1).no ha ((m.ex x1).dz h)) (fun h => (k.ex x1).no hb0 ((m.ex x1).dz h)) _ _ _ E z2.ok (((z2.srep m s).set i (.ptr a)).set j (.ptr b)) z2.mem (fun σ' H' ρ' μ' Z' q z s' => n σ' H' ρ' μ' Z' q (z2.tr k m z) s') fun v H' d μ' Z' q z r' => r v H' d μ' Z' q (z2.tr k m z) r'
end
end Du
namespace Du
open PySem L2 PySem.Spec PyProof.Rows LamX
/-- a table of code objects, all of them where A holds -/
def TabA (A : Addr → Prop) (H : Hp) (P : Addr) (q : Str) : Prop := ∃ ps : Array Value, H P = some (.tbl ps) ∧ TriplesOk ps.toList ∧ ∀ (pos : Pos) (cv : Value), codeAmong pos ps.toList = some cv → ∃ c, cv = .ref c ∧ A c ∧ H c = some (CodeO c q)
section
variable {X : Cx} {pins : List (Addr × Obj)} {σ : L2.St} {H : Hp} {s : Shared}
/-- a lambda is made: nothing changes but the table, and one code object may be new -/
theorem lam_makeA {A : Addr → Prop} {c P : Addr} {params : Arguments} {body : Expr} {scope : Scope} {pos : Pos} {E : Value → Shared → Prop} {Q : Value → Shared → Prop} (I : Inv X pins σ H s) (TB : TabB X.base X.mg c P) (hcode : X.env.code = .ref c)
    (hA : ∀ b, H b = none → A b) (hT : TabA A H P (X.env.qual ++ "<lambda>")) (hdef : defaultsOf params X.env = ([], [])) (hfree : ∀ y ∈ scope.names, y.2 = .free → ∃ c, X.env.cells.lookup y.1 = some c)
    (h : ∀ (f c' : Addr) (pm ctv : Value) (H1 : Hp) (s' : Shared), Inv X pins σ H1 s' → (∀ b o, b ≠ P → H b = some o → H1 b = some o) → TabA A H1 P (X.env.qual ++ "<lambda>") →
      s'.heap.get? f = some (PySem.W.kla_obj "<lambda>" (X.env.qual ++ "<lambda>") params body scope (cloFrom X.env.cells scope.names []) pm c' ctv) → H1 f = none → f ∉ frs X.stack → H1 c' = some (CodeO c' (X.env.qual ++ "<lambda>")) → A c' → Q (.ref f) s') :
    wpAny (model X.prog X.w) X.A (eval (.Lambda params body scope pos) X.env) Q E s := by
  obtain ⟨ps, hP, ht, ha⟩ := hT
  refine PySem.W.kla_eval hdef ?_
  have bP : s.heap.BuiltinsAt X.mg P := TB.bm.keeps I.bk
  have hP' : s.heap.get? P = some { cls := .none, data := .fields ps } := I.hok P _ hP
  have nofr : ∀ f, s.heap.objs.size ≤ f → f ∉ frs X.stack := fun f hf z => by
    rcases List.mem_cons.mp (I.stkSub _ z) with e | e
    · have h1 := I.lt
      rw [← e] at h1
      exact Nat.lt_irrefl _ (Nat.lt_of_lt_of_le h1 hf)
    · exact I.nofs hf e
  cases hc : codeAmong pos ps.toList with
  | none =>
    refine PySem.W.kla_makeFunction (mg := X.mg) (c := c) (P := P) (ps := ps) (closure_ok hfree) I.ok.glob (I.mod.glob.keeps I.bk) hcode (TB.code.keeps I.bk) hP' ht hc TB.gP bP fun c' ctv h' tk hx hge hlt hrec htb => ?_
    obtain ⟨c2, oc, vs, t, e2, hoc, hd, hv⟩ := hrec
    cases e2
    have hsz : s.heap.objs.size ≤ h'.objs.size := Nat.le_trans hge (Nat.le_of_lt hlt)
    have nC : H c' = none := I.hok.fresh hge
    have nP : P ≠ c' := ne_of_none hP nC
    have I1 := inv_table (t' := tk) (more := #[rawInt pos.line, rawInt pos.col, .ref c']) (h' := h'.push (PySem.W.kla_obj "<lambda>" (X.env.qual ++ "<lambda>") params body scope (cloFrom X.env.cells scope.names []) ((X.mg "__name__").getD .none) c' ctv)) I hP
      (fun b o hb e => Heap.get?_push_of_some _ (hx b o hb e)) (Heap.get?_push_of_some _ htb) hge ⟨oc, vs, t, Heap.get?_push_of_some _ hoc, hd, hv⟩
    have hE : ∀ b o, b ≠ P → H b = some o → upd (upd H P (.tbl (ps ++ #[rawInt pos.line, rawInt pos.col, .ref c']))) c' (CodeO c' (X.env.qual ++ "<lambda>")) b = some o := fun b o n e => by
      rw [upd_ne (ne_of_none e nC), upd_ne n]; exact e
    have eL : (ps ++ #[rawInt pos.line, rawInt pos.col, .ref c']).toList = ps.toList ++ [rawInt pos.line, rawInt pos.col, .ref c'] := by simp
    refine h h'.objs.size c' ((X.mg "__name__").getD .none) ctv _ _ I1 hE ⟨_, by rw [upd_ne nP, upd_same], by rw [eL]; exact PySem.TriplesOk_snoc _ _ _ _ ht, fun p' cv hcv => ?_⟩ (Heap.get?_push_size _ rfl) ?_ (nofr _ hsz) upd_same (hA _ nC)
    · rw [eL] at hcv
      rcases among_app _ ht hcv with z | z
      · obtain ⟨c0, e1, a0, e2⟩ := ha p' cv z
        exact ⟨c0, e1, a0, hE _ _ (fun e => by rw [e, hP] at e2; exact absurd (Option.some.inj e2).symm (codeO_ne _)) e2⟩
      · exact ⟨c', z, hA _ nC, upd_same⟩
    · have n1 : h'.objs.size ≠ c' := Nat.ne_of_gt hlt
      have n2 : h'.objs.size ≠ P := Nat.ne_of_gt (Nat.lt_of_lt_of_le (Heap.lt_size hP') hsz)
      rw [upd_ne n1, upd_ne n2]
      exact I.hok.fresh hsz
  | some cv =>
    obtain ⟨c', e, a0, hco⟩ := ha pos cv hc
    subst e
    refine PySem.W.kla_makeFunctionHit (mg := X.mg) (c := c) (P := P) (ps := ps) (closure_ok hfree) I.ok.glob (I.mod.glob.keeps I.bk) hcode (TB.code.keeps I.bk) hP' ht hc bP fun ctv h' tk hx hsz => ?_
    have I1 : Inv X pins σ H { s with heap := h'.push (PySem.W.kla_obj "<lambda>" (X.env.qual ++ "<lambda>") params body scope (cloFrom X.env.cells scope.names []) ((X.mg "__name__").getD .none) c' ctv), toks := tk } := I.kept fun b o e => Heap.get?_push_of_some _ (hx b o e)
    exact h h'.objs.size c' ((X.mg "__name__").getD .none) ctv H _ I1 (fun _ _ _ e => e) ⟨ps, hP, ht, ha⟩ (Heap.get?_push_size _ rfl) (I.hok.fresh hsz) (nofr _ hsz) hco a0
/-- x(lambda: body): the table at P is read at the place A, what the def makes of it is TT -/
def tLamA (P : Addr) (q : Str) (TT : (XK → Hp → VK → Prop) → Hp → VK → Prop) (t : XK → TE) : TE := fun σ H Q => ∃ A : Addr → Prop, (∀ b, H b = none → A b) ∧ TabA A H P q ∧ ∀ H1, (∀ b o, b ≠ P → H b = some o → H1 b = some o) → TabA A H1 P q → TT (fun E H' Q' => t E σ H' Q') H1 Q
theorem pe_lamA {TT : (XK → Hp → VK → Prop) → Hp → VK → Prop} {x a : Str} {g c P : Addr} {k : Nat} {pg : Arguments} {bg : List Stmt} {sg : Scope} {dV kV doc pm cdv ct oc : Value} {an od : Option Addr} {osl : Array (Option Value)} {Ng : List Str}
    {params : Arguments} {body : Expr} {scope : Scope} {t : XK → TE} {p lpos pos : Pos} (hg : Gl X x) (hm : X.mg x = some (.ref g)) (hk : PySem.W.keepIn X.K (.ref g) = true)
    (lk : X.K.lookup g = some ⟨oc, od, .func (PySem.W.fnOf x x pg bg sg dV kV doc pm an cdv ct), osl⟩) (hcg : PySem.W.codeIn X.K cdv x = true) (hb : L2.Binds X.K (PySem.W.fnOf x x pg bg sg dV kV doc pm an cdv ct) [a] []) (Sg : FnScope Ng [a] sg) (hNg : Ng[0]? = some a) (hva : Vis sg a)
    (hG : GivesTo X Ng x sg g cdv bg a (X.env.qual ++ "<lambda>") TT)
    (TB : TabB X.base X.mg c P) (hcode : X.env.code = .ref c) (hr : Room (k + 2) X.A) (L : LamS X.env.scope scope) (hdef : defaultsOf params X.env = ([], []))
    (hbind : ∀ (q : Str) (cl : List (Str × Addr)) (pm cv ctv : Value), bindArgs (PySem.W.kla_fn "<lambda>" q params body scope cl pm cv ctv) ⟨[], []⟩ = pure [])
    (hbody : ∀ (A : Around) (outer : List Env) (s : Shared) (H : Hp) (E : XK) (f c' : Addr), Room k (A.deeper (lamEnv X scope s.heap.objs.size f c')) → PE (lamCx X A outer s H E scope f c') body (t E))
    (hdb : (x == ("__debug__" : Str)) = false := by decide) (hd : (a == ("__debug__" : Str)) = false := by decide) (hcd : (a == ("__classdict__" : Str)) = false := by decide) :
    PE X (.Call (.Name x p) [.Lambda params body scope lpos] [] pos) (tLamA P (X.env.qual ++ "<lambda>") TT t) := by
  refine ⟨fun pins s σ H Q I h => ?_⟩
  obtain ⟨A, hA, hT, h⟩ := h
  refine wpAny_Call_Name_kw (ld_glob I hg hm ?_ hdb)
  refine PySem.W.callWith_K (h₀ := X.base) I.ok.mod.kin hk ?_ (by rfl) (by rfl)
  show wpAny _ _ (spliced ((false, eval (.Lambda params body scope lpos) X.env) :: backTo pos (starEach [] X.env))) _ _ s
  refine Calls.spliced_cons (lam_makeA I TB hcode hA hT hdef (L.has I.ok) fun f c' pm' ctv H1 s' I1 eN T1 hf hfn hfr hco _ => ?_)
  refine Calls.spliced_nil ⟨I1.kIn, ?_⟩
  have rc : codeAny (model X.prog X.w) X.A (.call (.ref g) ⟨[.ref f], []⟩) (CR C8.CX0 X.stack X.prog X.w H1 s' Q C8.E0) s' := by
    refine run_ofS (N := Ng) (ps := [a]) (us := [.ref f]) (vs := [.ref f]) lk hcg Sg hr I1.env0 (hb s' [.ref f] I1.kIn rfl) (.cons rfl .nil) rfl fun hr' => ?_
    obtain ⟨t', ht', hq'⟩ := hG f c' s' H1 Q (fun E H' Q' => t E σ H' Q') (fun W pn xe E p1 p2 tk hW => pe_act (i := 0) I1 L hf hfn hfr (hbind _ _ _ _ _) tk hW hr' (fun A outer s H hr2 => hbody A outer s H E f c' hr2) hNg hva hd hcd) hco (h H1 eN T1)
    exact ⟨t', ht'.nox, hq'⟩
  refine wpAny_call (codeAny_mono rc fun r s2 hq => ?_)
  cases r with
  | error e => exact (show False from hq).elim
  | ok fl =>
    cases fl with
    | ret u => exact I1.after hq
    | next => exact False.elim hq
    | brk => exact False.elim hq
    | cont => exact False.elim hq
end
section
variable {ρ : Rho} {μ : Mu} {Φ : D → Mu → Prop}
/-- behind a lambda's making all is as it was, but for the table -/
theorem lam_nxt {Z : Addr → Prop} {H H1 : Hp} {P : Addr} {q : Str} (k : okZ Z H) (m : Mem Z H μ) (hP : (P, .str q) ∈ μ) (e : ∀ b o, b ≠ P → H b = some o → H1 b = some o) (t : TabA (fun c => ¬ Z c) H1 P q) : Nxt Z H μ H1 μ := by
  have zP : Z P := (m.cs _ hP).1
  have x : Ext Z H H1 := fun b o n h => e b o (fun z => n (z ▸ zP)) h
  refine ⟨fun b o n h => e b o (fun z => n (z ▸ List.mem_map.mpr ⟨_, hP, rfl⟩)) h, rfl, fun p hp => ?_, m.nd⟩
  obtain ⟨z, c⟩ := m.cs p hp
  refine ⟨z, ?_⟩
  by_cases hb : p.1 = P
  · have hpe : p = (P, .str q) := by
      have nd := m.nd
      obtain ⟨i, hi⟩ := List.getElem?_of_mem hp
      obtain ⟨j, hj⟩ := List.getElem?_of_mem hP
      have h1 : (μ.map (·.1))[i]? = some P := by rw [List.getElem?_map, hi]; exact congrArg some hb
      have h2 : (μ.map (·.1))[j]? = some P := by rw [List.getElem?_map, hj]; rfl
      have hil := (List.getElem?_eq_some_iff.mp h1).1
      have : i = j := (List.getElem?_inj hil nd).mp (h1.trans h2.symm)
      subst this
      exact Option.some.inj (hi.symm.trans hj)
    subst hpe
    obtain ⟨ps, h1, h2, h3⟩ := t
    exact .tbl h1 h2 fun pos cv hc => let ⟨c, e1, n, e2⟩ := h3 pos cv hc; ⟨c, e1, n, e2⟩
  · exact c.ex x fun o h => e _ o hb h
theorem ge_lamA {P : Addr} {q : Str} {TT : (XK → Hp → VK → Prop) → Hp → VK → Prop} {t : XK → TE} (hP : (P, .str q) ∈ μ) (h : ∀ (Z : Addr → Prop) (σ : L2.St) (H : Hp) (Q : VK), okZ Z H → SRep Z H σ ρ → Mem Z H μ → (∀ v H' d μ', Φ d μ' → Nxt Z H μ H' μ' → Rep Z H' v d → Q v H') → TT (fun E H' Q' => t E σ H' Q') H Q) : GE (tLamA P q TT t) ρ μ Φ := fun Z σ H Q k s m c => by
  obtain ⟨z, ct⟩ := m.cs _ hP
  cases ct with
  | tbl h1 h2 h3 =>
    refine ⟨fun c => ¬ Z c, fun b hb => k.no hb, ⟨_, h1, h2, fun pos cv hc => h3 pos cv hc⟩, fun H1 e t1 => ?_⟩
    have nx := lam_nxt k m hP e t1
    exact h Z σ H1 Q (nx.ok k) (s.mono (nx.to m)) nx.mem fun v H' d μ' f n r => c v H' d μ' f (nx.tr n) r
end
end Du
namespace Du
open PySem L2 PySem.Spec PyProof.Rows
section
variable {X : Cx}
/-! errors whose __init__ calls the base's and stores no field, or some -/
/-- D.__init__(self, ..), D a class of the program that has ValueError's -/
def tDeI (K : PySem.W.Frag) (B : Addr) (to : TE) (ta : TA) : TE := fun σ H Q => to σ H fun x H1 => x = .ref B ∧ tVeI K ta σ H1 Q
theorem pe_deinit {B : Addr} {mc : Value} {o e : Expr} {es : List Expr} {to : TE} {ta : TA} {p2 pos : Pos} {pl : Sem Bool} (ho : PE X o to) (r : ClX.CRead X.K B mc) (fc : PySem.W.findCls X.K (.ref B) mc "__init__" = some (.val (.builtin "ValueError.__init__"))) (ha : PA X (e :: es) ta)
    (hc : eval (.Call (.Attribute o "__init__" p2) (e :: es) [] pos) X.env = (do
      let ov ← eval o X.env
      standAt p2.atName
      let (f, first) ← holding [ov] (getMethod ov "__init__" pl)
      callWith pos f first (backTo pos (starEach (e :: es) X.env)) (backToKw pos (keywordEach [] X.env))) := by rfl)
    (he : starEach (e :: es) X.env = (false, eval e X.env) :: starEach es X.env := by rfl) (hpl : (backTo pos (starEach es X.env)).any (·.1) = false := by rfl) :
    PE X (.Call (.Attribute o "__init__" p2) (e :: es) [] pos) (tDeI X.K B to ta) := by
  refine ⟨fun pins s σ H Q I h => ?_⟩
  refine PySem.W.methodCall_KW (pl := pl) (thn (ho.run pins s σ H _ I h) fun u s1 ⟨x, H1, I1, rx, ex, q⟩ => ?_) hc
  subst ex
  obtain rfl : u = Value.ref B := rx
  refine PySem.W.method_cls I1.kIn r.ga (PySem.W.cls_value I1.kIn r.rd fc rfl ?_)
  show wpAny _ _ (callWith pos (Value.builtin "ValueError.__init__") [] (backTo pos (starEach (e :: es) X.env)) []) _ _ _
  refine PyProof.Rows.callWith_method1 (thn (ha.run pos pins _ σ H1 _ (I1.tok _) q) fun us s2 ⟨vs, H2, I2, r1, a, C, ws, ev, hl, T, ea, q2⟩ => ?_) he hpl
  subst ev
  cases r1 with
  | @cons _ u0 _ ur ra rw' =>
    obtain rfl : u0 = Value.ref a := ra
    have hlen : ur.length ≤ sizeLine := by
      rw [← Paired.length rw', sizeLine_eq]
      omega
    exact oinit_ok T I2 ea hlen fun s' J => ⟨.non, H2, J, rfl, q2⟩
/-- an error that bears no field is made -/
theorem mk_endN {pins : List (Addr × Obj)} {σ : L2.St} {H1 H2 : Hp} {Q : XK} {hp hp2 h2 : Heap} {g1 g2 : Array GenState} {d1 d2 : Drawn} {t1 t2 : Nat} {os1 os2 : OsState} {a C : Addr} (T : Raises X (.ref C)) (I1 : Inv X pins σ H1 ⟨hp, g1, d1, t1, os1⟩)
    (ha : hp.objs.size ≤ a) (k : ∀ b o, hp.get? b = some o → hp2.get? b = some o) (un : Un (frs X.stack) [] (upd H1 a (exo a C none)) H2 hp2 h2) (hok : HOk X.prog X.w H2 h2) (ho : os2 = os1) (hb : AllBare g2)
    (ea : H2 a = some (exo a C none)) (q : Q (.ref C) none (del H2 a)) : MkP X pins σ Q (.ref a) ⟨h2, g2, d2, t2, os2⟩ := by
  obtain ⟨t0, hoe⟩ := exo_at hok ea
  have hn : H1 a = none := I1.hok.fresh ha
  obtain ⟨G, g1', g2'⟩ := restrict h2 fun b => decide (b ≠ a)
  have gk : ∀ b, b ≠ a → G.get? b = h2.get? b := fun b hb => g1' b (decide_eq_true hb)
  have ge : G.get? a = none := g2' a (by simp)
  have nha : ∀ {b : Addr} {o : Obj}, hp.get? b = some o → b ≠ a := fun {b o} z => Nat.ne_of_lt (Nat.lt_of_lt_of_le (Heap.lt_size z) ha)
  have up : ∀ {b : Addr}, b ≠ a → H1 b = none → upd H1 a (exo a C none) b = none := fun {b} hb n => by rw [upd_ne hb]; exact n
  have U : Un (frs X.stack) [] H1 (del H2 a) hp G := {
    keep := fun b o z n hf hx => by
      rw [gk b (nha z)]
      exact un.keep b o (k b o z) (up (nha z) n) hf hx
    slot := fun b o z n hf hx => by
      rw [gk b (nha z)]
      exact un.slot b o (k b o z) (up (nha z) n) hf hx
    free := fun b o z n hx => by
      rw [del_ne (nha z)]
      exact un.free b o (k b o z) (up (nha z) n) hx
    there := fun b o z hx => by
      rw [gk b (nha z)]
      exact un.there b o (k b o z) hx
    tups := fun b xs z => by
      rw [del_ne (ne_of_none z hn)]
      exact un.tups b xs (by rw [upd_ne (ne_of_none z hn)]; exact z)
    frzs := fun b o v z => by
      rw [del_ne (ne_of_none z hn)]
      exact un.frzs b o v (by rw [upd_ne (ne_of_none z hn)]; exact z)
    tbls := fun b ps z => by
      rw [del_ne (ne_of_none z hn)]
      exact un.tbls b ps (by rw [upd_ne (ne_of_none z hn)]; exact z) }
  have hok3 : HOk X.prog X.w (del H2 a) G := fun b o z => by
    have hba : b ≠ a := fun e => by
      rw [e, del_same] at z
      cases z
    rw [del_ne hba] at z
    have noa : ∀ {c : Addr}, H2 c = some (.own b) → c ≠ a := fun {c} hc => at_ne ea hc exo_own
    exact (hok b o z).stay (fun c v hc y => by
        have hca : c ≠ a := by
          rcases hc with hc | hc
          · rw [hc]
            exact hba
          · exact noa hc
        rw [gk c hca]
        exact y)
      (fun c hc => by rw [del_ne (noa hc)]; exact hc) (fun c xs hc => by rw [del_ne (at_ne ea hc exo_tup)]; exact hc)
  have J : Inv X pins σ (del H2 a) ⟨G, g2, d2, t2, os2⟩ := I1.call' (ch := []) ho U hok3 hb (fun b z => absurd z (by simp))
  refine ⟨a, _, _, ⟨G, g2, d2, t2, os2⟩, _, .ref C, none, rfl, J, fun b o z => ?_, ge, hoe, ⟨rfl, rfl⟩, rfl, rfl, del_same, rfl, hb, T, q⟩
  by_cases hba : b = a
  · rw [hba, ge] at z
    cases z
  · exact (gk b hba).symm.trans z
/-- C(), an error of the program without fields, its own __init__ keeping sp -/
def tMkN (C : Addr) (sp : Sp) : L2.St → Hp → XK → Prop := fun σ H Q => ∀ a, H a = none → sp [.ref a] (upd H a (exo a C none)) (fun v H2 => v = .non ∧ H2 a = some (exo a C none) ∧ Q (.ref C) none (del H2 a)) (fun _ _ _ => False)
theorem pmk_oexN {CX : CXT} {x : Str} {C fI : Addr} {k : Nat} {fd : FuncData} {ps : List Str} {sp : Sp} {p pos : Pos} (T : OexC X.K C) (iC : PySem.W.findIn X.K (.ref C) "__init__" = some (some (.ref fI))) (tI : PySem.W.typeIn X.K (.ref fI) = some (.type "function"))
    (F1 : FnOk X.prog X.w X.K X.mg X.base CX k fI fd ps sp) (hr : Room (k + 1) X.A) (hb : L2.Binds X.K fd ps []) (hx : Passes CX X (fun _ _ _ => False)) (hg : Gl X x) (hm : X.mg x = some (.ref C))
    (hdb : (x == ("__debug__" : Str)) = false := by decide) : PMk X (.Call (.Name x p) [] [] pos) (tMkN C sp) := by
  intro pins s σ H Q I h
  obtain ⟨nm, q, N, bs, bm, sn, sub, ab, col, dd, k0, k1, k2, k3, k5, hC, hbm⟩ := T.cls
  refine wpAny_Call_Name_kw (ld_glob I hg hm ?_ hdb)
  refine PySem.W.callWith_K0 I.kIn T.kC ?_
  show wpAny _ _ (call (.ref C) []) _ _ _
  obtain ⟨hp, g, dr, tk, os⟩ := s
  have hsz : hp.objs.size ≤ hp.objs.size + 1 := Nat.le_succ _
  have hn : H (hp.objs.size + 1) = none := I.hok.fresh hsz
  have hq := h (hp.objs.size + 1) hn
  have kk : ∀ b o, hp.get? b = some o → ((hp.push (PySem.W.kdv_tup [])).push (PySem.HandSPX.excO C hp.objs.size)).get? b = some o := fun b o e => Heap.get?_push_of_some _ (Heap.get?_push_of_some _ e)
  have hget : ((hp.push (PySem.W.kdv_tup [])).push (PySem.HandSPX.excO C hp.objs.size)).get? (hp.objs.size + 1) = some (PySem.HandSPX.excO C hp.objs.size) := by heap_get
  have I2 : Inv X pins σ (upd H (hp.objs.size + 1) (exo (hp.objs.size + 1) C none)) ⟨(hp.push (PySem.W.kdv_tup [])).push (PySem.HandSPX.excO C hp.objs.size), g, dr, tk, os⟩ :=
    I.laid (t' := tk) (a := hp.objs.size + 1) (o := exo (hp.objs.size + 1) C none) (h' := (hp.push (PySem.W.kdv_tup [])).push (PySem.HandSPX.excO C hp.objs.size)) kk hsz (exo_ok hget)
  have r2 : Vals [V.ref (hp.objs.size + 1)] [Value.ref (hp.objs.size + 1)] := .cons rfl .nil
  have hl : ([Value.ref (hp.objs.size + 1)] ++ ([] : List Value)).length = ps.length := by
    have e := r2.length
    rw [F1.len _ _ _ _ hq] at e
    exact e.symm
  refine wpAny_call (PySem.HandSPX.call_own F.excBase_ValueError (fun Y => PySem.HandSPX.refsVE_contains Y bm hbm) (I.kIn _ _ hC) (PySem.W.looks_findIn I.kIn iC) (fun self => PySem.W.bind_fn I.kIn self tI) (Nat.zero_le _)
    (codeAny_mono (F1.run _ X.stack _ _ ⟨[Value.ref (hp.objs.size + 1)], []⟩ [Value.ref (hp.objs.size + 1)] _ _ (fun _ _ _ => False) (hr.make C [] []) (I2.env0.make C [] []) (hb _ [Value.ref (hp.objs.size + 1)] I2.kIn hl) r2 hq) fun r s' hq' => ?_))
  cases r with
  | error er => exact hx pins σ _ _ er s' I2 hq'
  | ok fl =>
    cases fl with
    | ret u =>
      obtain ⟨v, H2, os2, bare2, un2, hok2, rv, ev, ea, q2⟩ := hq'
      subst ev
      obtain ⟨h2, g2, d2, t2, os'⟩ := s'
      exact ⟨rv, mk_endN (raises_own T.exC T.tyC) I hsz kk un2 hok2 os2 bare2 ea q2⟩
    | next => exact False.elim hq'
    | brk => exact False.elim hq'
    | cont => exact False.elim hq'
end
end Du
namespace Du
open PySem L2 PySem.Spec PyProof.Rows LamX
/-- try: ask() / except e: return True / behind it: return False -/
def TRef (K : PySem.W.Frag) (CS : Addr) : (XK → Hp → VK → Prop) → Hp → VK → Prop := fun tl H Q =>
  tl (fun cls _ H' => ∃ b, PySem.W.exmOne K cls (.ref CS) = some b ∧ (b = true → Q (.bl true) H') ∧ (b = false → False)) H fun _ H' => Q (.bl false) H'
theorem ref_gives {X : Cx} {Ng : List Str} {x a e q : Str} {sg : Scope} {g CS : Addr} {cdg : Value} {i j : Nat} {p1 p2 p3 p4 p5 p6 p7 p8 p9 p10 : Pos} (hge : sg.names.lookup e = some .globalImplicit) (hme : X.mg e = some (.ref CS)) (hde : (e == ("__debug__" : Str)) = false) (h0 : ∀ f : Addr, (L2.start Ng [V.ref f])[0]? = some (some (V.ref f))) :
    GivesTo X Ng x sg g cdg [.Try [.Expr (.Call (.Name a p1) [] [] p2) p3] [.ExceptHandler (some (.Name e p4)) none [.Return (some (.Constant (.bool true) i p5)) p6] p7] [] [] p8, .Return (some (.Constant (.bool false) j p9)) p10] a q (TRef X.K CS) := by
  intro f c' s H Q tl act hc h
  have hgl : Gl (cxOf C8.CX0 X.prog X.w X.K X.mg X.base Ng x sg g cdg X.A X.stack s H C8.E0).nox e := hge
  refine ⟨_, pss_cons (ps_try_only (X := (cxOf C8.CX0 X.prog X.w X.K X.mg X.base Ng x sg g cdg X.A X.stack s H C8.E0).nox) (c := .ref CS)
      (tb := fun W D σ H => ∃ Ech : XK, (∀ cls d σ' H', Ech cls d H' → W cls d σ' H') ∧ σ[0]? = some (some (.ref f)) ∧ H c' = some (CodeO c' q) ∧ tl Ech H fun _ H' => D.nx σ H')
      rfl rfl ⟨hgl, hde, .inl hme⟩ L2.takes0 (fun W pn xe tk _ => ?_) (fun a oe cls d pn _ _ => pss_one (ps_ret pe_bl))) (pss_one (ps_ret pe_bl)), ?_⟩
  · refine ⟨fun pins s' σ H' D I h' => ?_⟩
    obtain ⟨Ech, hW, h1, h2, h3⟩ := h'
    have hp := act W pn xe Ech p1 p2 tk hW
    have hq := pss_one (ps_expr (pos := p3) hp)
    exact hq.run pins s' σ H' D I ⟨h1, h2, h3⟩
  · exact ⟨fun cls _ H' => ∃ b, PySem.W.exmOne X.K cls (.ref CS) = some b ∧ (b = true → Q (.bl true) H') ∧ (b = false → False), fun cls d σ' H' ⟨b, e1, e2, e3⟩ => ⟨b, e1, fun hb a _ => e2 hb, fun hb => e3 hb⟩, h0 f, hc, h⟩
end Du
namespace Du
open PySem L2 PySem.Spec PyProof.Rows
/-! the keys of a dict whose keys are tuples of tuples, walked -/
def Itn (hf : NestedKey → Int) (d : Addr) (o : Obj) (es : NEs) : It :=
  ⟨fun i H => H d = some (NDO hf d es o) ∧ i < es.length, fun i H x H' => H' = H ∧ ∃ e, es[i]? = some e ∧ x = .ref e.2.1, fun i H => H d = some (NDO hf d es o) ∧ es.length ≤ i⟩
theorem NPr.at' {es : NEs} {xs : List (NestedKey × Addr × Value)} (r : NPr es xs) : ∀ {i : Nat} {e : NestedKey × Addr × V}, es[i]? = some e → ∃ x, xs[i]? = some x ∧ e.2.1 = x.2.1 := by
  unfold NPr at r
  induction r with
  | nil => intro i e h; simp at h
  | @cons e x es xs hx t ih =>
    intro i e' h
    cases i with
    | zero =>
      have h' : e = e' := by simpa using h
      subst h'; exact ⟨x, rfl, hx.2.1⟩
    | succ i => obtain ⟨y, h1, h2⟩ := ih (by simpa using h); exact ⟨y, by simpa using h1, h2⟩
section
variable {X : Cx} {pins : List (Addr × Obj)} {σ : L2.St} {H : Hp} {s : Shared} {d : Addr} {o : Obj} {hf : NestedKey → Int} {es : NEs}
theorem ndRaw (I : Inv X pins σ H s) (h : H d = some (NDO hf d es o)) : (d == sysModules) = false ∧ s.heap.get? d = some o ∧ o.ExactDict ∧ ∃ (ee : Array DictEntry) (ep : Nat), o.data = .dict ee ep ∧ ee.size = es.length ∧ ∀ (i : Nat) (e : NestedKey × Addr × V), es[i]? = some e → ∃ en : DictEntry, ee[i]? = some en ∧ en.key = .ref e.2.1 := by
  have ho := NDO.obj I.hok h
  obtain ⟨h1, h2, xs, h3, o', ee, ep, h4, h5, h6, h7, h8⟩ := NDO.inj I.hok h
  have e : o' = o := Option.some.inj (h4.symm.trans ho)
  subst e
  have hl : ee.size = xs.length := by have := congrArg List.length h7; simpa using this
  refine ⟨h1, ho, h5, ee, ep, h6, hl.trans h3.len.symm, fun i e he => ?_⟩
  obtain ⟨x, hx, e2⟩ := h3.at' he
  refine ⟨⟨hf x.1, .ref x.2.1, x.2.2⟩, ?_, by rw [e2]⟩
  rw [← Array.getElem?_toList, h7, List.getElem?_map, hx]; rfl
end
section
variable {P : Program} {w : World} {K : PySem.W.Frag} {tg : Expr} {d : Addr} {o : Obj} {ee : Array DictEntry} {ep : Nat} {hf : NestedKey → Int} {es : NEs}
theorem turn_keysN (it : Addr) (hod : o.data = .dict ee ep) : Turn P w K tg (Itn hf d o es) [it] it (fun i h => h.IsKeyIter it d i es.length ep) where
  mem := by simp
  obj := fun i h st b hb => by
    have e : b = it := by simpa using hb
    subst e
    obtain ⟨oi, e, c, dd⟩ := st
    exact ⟨oi, e, fun v z => by rw [dd] at z; cases z⟩
  keep := fun i h h' st k => st.at fun oi e => k it (by simp) oi e
  item := by
    intro X hP hw hK hc i pins s σ H E I hf' st hg
    subst hP hw hK
    obtain ⟨hd, hi⟩ := hg
    obtain ⟨f0, f1, f2, f3, f4, f5⟩ := hf' it (by simp)
    obtain ⟨hs, hgd, hx, es', ep', hdt, hsz, ent⟩ := ndRaw I hd
    obtain ⟨rfl, rfl⟩ := dict_ep hod hdt
    obtain ⟨en, hen, hkey⟩ := ent i es[i] (List.getElem?_eq_getElem hi)
    refine next_key_item st hgd hdt hsz hen fun h' st' sb => ?_
    have I1 : Inv X pins σ H { s with heap := h' } := I.turned (t' := s.toks) (fun b ob hb e => (sb.2 b hb).trans e) f0 f1 f3 f4 f5
    obtain ⟨oi, e, c, dd⟩ := id st'
    exact ⟨en.key, rfl, go_of (s := { s with heap := h' }) e c dd (by decide) ⟨.ref es[i].2.1, H, I1, hkey, ⟨rfl, _, List.getElem?_eq_getElem hi, rfl⟩, st', fun b hb => (hf' b hb).1⟩⟩
  done := by
    intro X hP hw hK hc i pins s σ H E I hf' st hg
    subst hP hw hK
    obtain ⟨hd, hi⟩ := hg
    obtain ⟨f0, f1, f2, f3, f4, f5⟩ := hf' it (by simp)
    obtain ⟨hs, hgd, hx, es', ep', hdt, hsz, ent⟩ := ndRaw I hd
    obtain ⟨rfl, rfl⟩ := dict_ep hod hdt
    exact next_key_end (I.ok.hd hc) st hgd hdt hsz hi fun h' eb => ⟨rfl, I.turned (t' := s.toks) (fun b ob hb e => eb b ob hb e) f0 f1 f3 f4 f5⟩
  self := fun A i s Q E st h => by
    refine wpAny_pyIter_slot st.typeIs F.slot_dict_keyiterator_iter (wpAny_call_entry F.slot_dict_keyiterator_iter st.typeIs F.entry_dict_keyiterator_iter ?_ (F.args_dict_keyiterator_iter_1 _))
    show wpAny _ _ (ret (.ref it)) _ _ s
    exact wpAny_pure ⟨_, rfl, "dict_keyiterator", _, st.typeIs, F.slot_dict_keyiterator_next.lookup, h⟩
end
def iKeysN (w : World) (td : TE) : TI := fun σ H R => td σ H fun x H1 => ∃ d o es, x = .ref d ∧ H1 d = some (NDO (fun k => k.hash w) d es o) ∧ R (Itn (fun k => k.hash w) d o es) H1
theorem pi_keysN {X : Cx} {w : World} {tg e : Expr} {td : TE} (he : PE X e td) : PI X tg e (iKeysN w td) := by
  refine ⟨fun pins s σ H R I h => ?_⟩
  refine thn (he.run pins s σ H _ I h) fun u s1 ⟨x, H1, I1, rx, d, o, es, ex, hd, q⟩ => ?_
  subst ex
  obtain rfl : u = Value.ref d := rx
  obtain ⟨hs, hgd, hx, ee, ep, hdt, hsz, ent⟩ := ndRaw I1 hd
  refine iter_keys hs hgd hx hdt (pi_one (tk := s1.toks) I1 _ (turn_keysN _ hdt) ⟨_, Heap.get?_push_size _ rfl, rfl, ?_⟩ q)
  rw [hsz] <;> rfl
section
variable {ρ : Rho} {w : World} {te : TE} {kvs : List (NestedKey × D)}
theorem RepN.getE {Z : Addr → Prop} {H : Hp} : ∀ {es : NEs} {ds : List (NestedKey × D)} {i : Nat} {e : NestedKey × Addr × V}, RepN Z H es ds → es[i]? = some e → ∃ d, ds[i]? = some (e.1, d) ∧ Rep Z H (.ref e.2.1) (nkD e.1)
  | _, _, _, _, .nil, h => by simp at h
  | _, _, 0, _, .cons (d := d) hk hd r t, h => by simp at h; subst h; exact ⟨d, rfl, hk⟩
  | _, _, i + 1, e, .cons hk hd r t, h => by
    obtain ⟨d, h1, h2⟩ := RepN.getE (i := i) (e := e) t (by simpa using h)
    exact ⟨d, by simpa using h1, h2⟩
theorem ei_keysN (h : Ev te ρ (.dN (hN w) kvs)) : EvI (iKeysN w te) ρ (kvs.map fun e => nkD e.1) := fun Z σ H R k s q =>
  h Z σ H _ k s fun x H1 x1 r1 => by
    cases r1 with
    | dN n h1 rs =>
      refine ⟨_, _, _, rfl, h1, q _ H1 x1 fun Z' hz => ?_⟩
      have nz : ¬ Z' _ := fun z => (hz _ z).elim n fun e => by rw [h1] at e; cases e
      rw [List.length_map, ← rs.len]
      refine Walk.mono (J := Itn _ _ _ _) ⟨fun _ _ hi q => ⟨q, hi⟩, fun _ q => ⟨q, Nat.le_refl _⟩, fun _ _ _ _ _ _ y => y⟩ (fun H g => g.1.exact nz h1) fun i Hc x H' hi g y => ?_
      obtain ⟨rfl, e, he, rfl⟩ := y
      obtain ⟨d, e1, e2⟩ := (rs.zs hz).getE he
      exact ⟨Ex.rf _, nkD e.1, by rw [List.getElem?_map, e1]; rfl, e2.mono g.1⟩
end
/-! dict(xs), xs a list of pairs whose first parts are unlike tuples of tuples -/
def rDictPN (K : PySem.W.Frag) (w : World) : List V → Hp → VK → Prop := fun xs H Q => ∃ (a : Addr) (ps : List Addr) (es : NEs), xs = [.ref a] ∧ SqL K H a (ps.map V.ref) ∧
  Paired (fun p e => SqT K H p [.ref e.2.1, e.2.2] ∧ NkV H e.1 (.ref e.2.1) ∧ e.1.depth ≤ 8) ps es ∧ (es.map (·.1)).Nodup ∧ ∀ p o, H p = none → Q (.ref p) (upd H p (NDO (fun k => k.hash w) p es o))
section
variable {X : Cx}
theorem pairsN_of {pins : List (Addr × Obj)} {σ : L2.St} {H : Hp} {s : Shared} (I : Inv X pins σ H s) : ∀ {ps : List Addr} {es : NEs}, Paired (fun p e => SqT X.K H p [.ref e.2.1, e.2.2] ∧ NkV H e.1 (.ref e.2.1) ∧ e.1.depth ≤ 8) ps es →
    ∃ xs : List (NestedKey × Addr × Value), NPr es xs ∧ xs.length = ps.length ∧ es.map (·.1) = xs.map (·.1) ∧ ∀ (j : Nat) (x : NestedKey × Addr × Value), xs[j]? = some x → ∃ p, ps[j]? = some p ∧ IsTup s.heap p #[.ref x.2.1, x.2.2] ∧ NkV H x.1 (.ref x.2.1) ∧ x.1.depth ≤ 8
  | _, _, .nil => ⟨[], .nil, rfl, rfl, fun j x e => by simp at e⟩
  | _, _, .cons (a := p) (b := e0) h t => by
    obtain ⟨xs, r, hl, hk, hp⟩ := pairsN_of I t
    obtain ⟨h1, h2, h3⟩ := h
    obtain ⟨its, rv, ht, _⟩ := I.tuple h1
    obtain ⟨u, y, ei, ru, ry⟩ := vals2 rv
    subst ei
    cases (show u = Value.ref e0.2.1 from ru)
    refine ⟨(e0.1, e0.2.1, y) :: xs, .cons ⟨rfl, rfl, ry⟩ r, by simp [hl], by simp [hk], fun j x e => ?_⟩
    cases j with
    | zero => cases e; exact ⟨p, rfl, ht, h2, h3⟩
    | succ j =>
      obtain ⟨q, e1, e2⟩ := hp j x (by simpa using e)
      exact ⟨q, by simpa using e1, e2⟩
theorem cr_dictPN (hc : X.calm = true) (hu : X.A.units + 20 < cLine) : CallR X (.type "dict") (rDictPN X.K X.w) := by
  intro pins s σ H xs us Q I r q
  obtain ⟨a, ps, es, rfl, hq, hp, nd, q⟩ := q
  obtain ⟨u, rfl, rx⟩ := vals1 r
  cases rx
  obtain ⟨its, rv, pl, hz⟩ := I.list hq
  have ei := refs_at rv
  subst ei
  rw [List.length_map] at hz
  obtain ⟨xs, rel, hl, hk, hpr⟩ := pairsN_of I hp
  have hlk : es.length = xs.length := rel.len
  have PA := PairArg.list (prog := X.prog) (w := X.w) a (ps.map Value.ref).toArray (fun j => (ps[j]?).getD 0) (xs.map fun x => (Value.ref x.2.1, x.2.2))
  refine call_dict_pairsH (knd := nestedKind X.prog X.w) (ps := xs) PA (I.ok.hd hc) (show X.A.in1.in1.units + 8 < cLine from ?_) ⟨pl, by simp [hl], fun j k v e => ?_⟩ ⟨by simp, fun i key v e => ?_⟩ (fun h' hs x hx => ?_) (by simp [hl]; exact hz) fun h' tk hd' k => ?_
  · show X.A.units + 2 + 8 < cLine
    omega
  · rw [List.getElem?_map] at e
    obtain ⟨x, e1, e2⟩ := Option.map_eq_some_iff.mp e
    cases e2
    obtain ⟨p, e3, e4, _⟩ := hpr j x e1
    refine ⟨by simp [e3], .inl ?_⟩
    simp only [e3, Option.getD_some]
    exact e4
  · have e' : (xs.map fun x => (Value.ref x.2.1, x.2.2))[i]? = some (key, v) := e
    rw [List.getElem?_map] at e'
    obtain ⟨x, e1, e2⟩ := Option.map_eq_some_iff.mp e'
    cases e2
    exact ⟨x.1, x.2.1, e1, rfl⟩
  · obtain ⟨j, hj⟩ := List.getElem?_of_mem hx
    obtain ⟨p, _, _, hb, hd8⟩ := hpr j x hj
    exact ⟨NestedIs.at (fun b ob vs n ho _ => hs _ ob (Nat.ne_of_lt (Heap.lt_size ho)) (by simp) ho) _ _ (hb.is I.hok rfl), hd8⟩
  · rw [stAll_nodup xs [] (by rw [List.nil_append, ← hk]; exact nd), List.nil_append] at hd'
    have hm : (s.heap.objs.size == sysModules) = false := beq_eq_false_iff_ne.mpr (Nat.ne_of_gt I.big)
    obtain ⟨o, es', ep, hq, h2, h3, h4, _, h5⟩ := hd'
    have nH : H s.heap.objs.size = none := I.hok.fresh (Nat.le_refl _)
    exact ⟨.ref s.heap.objs.size, upd H s.heap.objs.size (NDO (fun k => k.hash X.w) s.heap.objs.size es o), I.laid (t' := tk) (fun b o e => k b o (by simp) e) (Nat.le_refl _) (NDat.ok ⟨hm, by rw [hlk, hl]; exact hz, xs, rel, o, es', ep, hq, h2, h3, h4, h5⟩ hq), rfl, q _ _ nH⟩
theorem k_dictPN {K : PySem.W.Frag} {w : World} {k : Nat} (hK : X.K = K) (hw : X.w = w) (hc : X.calm = true) (hr : Room k X.A) : CallR X (.type "dict") (rDictPN K w) := hK ▸ hw ▸ cr_dictPN hc (by have := hu65 hr; omega)
end
theorem rl_dictPN {K : PySem.W.Frag} {w : World} {α : Type} {xs : List α} {kf : α → NestedKey} {vf : α → D} (nd : (xs.map kf).Nodup) (hk : ∀ x ∈ xs, (∃ ks, kf x = .tup ks) ∧ (kf x).depth ≤ 8) : RLD (rDictPN K w) [.lst (xs.map fun x => .tup [nkD (kf x), vf x])] (.dN (hN w) (xs.map fun x => (kf x, vf x))) := fun Z H vs Q k r q => by
  cases r with
  | cons r rn =>
    cases rn
    cases r with
    | lst n h rs =>
      have main : ∀ (xs : List α) (vs : List V), (∀ x ∈ xs, (∃ ks, kf x = .tup ks) ∧ (kf x).depth ≤ 8) → Reps Z H vs (xs.map fun x => .tup [nkD (kf x), vf x]) → ∃ (ps : List Addr) (es : NEs), vs = ps.map V.ref ∧ Paired (fun p e => SqT K H p [.ref e.2.1, e.2.2] ∧ NkV H e.1 (.ref e.2.1) ∧ e.1.depth ≤ 8) ps es ∧ es.map (·.1) = xs.map kf ∧ RepN Z H es (xs.map fun x => (kf x, vf x)) := fun xs => by
        induction xs with
        | nil => intro vs _ r; cases r; exact ⟨[], [], rfl, .nil, rfl, .nil⟩
        | cons x xs ih =>
          intro vs hk r
          cases r with
          | cons r rs =>
            obtain ⟨ps, es, e1, e2, e3, e4⟩ := ih _ (fun y hy => hk y (List.mem_cons_of_mem _ hy)) rs
            obtain ⟨⟨ks, hks⟩, hd⟩ := hk x List.mem_cons_self
            cases r with
            | tup n h r =>
              cases r with
              | cons ra r => cases r with
                | cons rb r =>
                  cases r
                  rename_i pp va vb
                  have hy : ∃ b, va = .ref b := by rw [hks] at ra; unfold nkD at ra; cases ra; exact ⟨_, rfl⟩
                  obtain ⟨b, rfl⟩ := hy
                  exact ⟨_ :: ps, (kf x, b, vb) :: es, by rw [e1]; rfl, .cons ⟨.inl (.inl h), nkV_of _ ra, hd⟩ e2, by simp [e3], .cons ra hd rb e4⟩
      obtain ⟨ps, es, e1, e2, e3, e4⟩ := main xs _ hk rs
      subst e1
      exact ⟨_, ps, es, rfl, .inl (.inl h), e2, by rw [e3]; exact nd, fun p o hp => q _ _ (Ex.new hp) (.dN (k.no hp) upd_same (e4.mono (Ext.new hp)))⟩
end Du
namespace Du
open PySem L2 PySem.Spec PyProof.Rows LamX
/-! defs that raise an error without fields -/
def spX (R : List D → Prop) (CU : Addr) : Sp := fun vs H _ E => ∃ (Z : Addr → Prop) (ds : List D), okZ Z H ∧ Reps Z H vs ds ∧ R ds ∧ ∀ H', Ex H H' → E (.ref CU) none H'
/-- the __init__ of such an error -/
def spIn (C : Addr) : Sp := fun vs H Q _ => ∃ a : Addr, vs = [.ref a] ∧ H a = some (exo a C none) ∧ Q .non H
section
variable (P : Program) (w : World) (K : PySem.W.Frag) (mg : Str → Option Value) (base : Heap) (k : Nat) (C : Addr)
structure MetX (m : Str) (sp : Sp) : Prop where
  ex : ∃ (f : Addr) (fd : FuncData) (ps : List Str), Cls K C ∧ Meth K C m f ∧ FnOk P w K mg base (L2.CX P w) k f fd ps sp ∧ L2.Binds K fd ps []
structure OBinX (op : Operator) (sp : Sp) : Prop where
  ex : ∃ g, PySem.W.selfFirst K C = true ∧ PySem.W.findIn K (.ref C) (PySem.dunder op.info.2) = some (some (.ref g)) ∧ PySem.W.isFn K (.ref g) = true ∧ FnR P w K mg base (L2.CX P w) k g sp
structure OCmpX (op : CmpOp) (sp : Sp) : Prop where
  ex : ∃ g, PySem.W.notFirst K C (.ref C) = true ∧ PySem.W.findIn K (.ref C) (cmpInfo op).2.1 = some (some (.ref g)) ∧ PySem.W.isFn K (.ref g) = true ∧ FnR P w K mg base (L2.CX P w) k g sp
/-- an error class without fields: its __init__ keeps spIn -/
structure ErrN (x : Str) : Prop where
  oex : OexC K C
  g : mg x = some (.ref C)
  ex : PySem.W.exmOne K (.ref C) (.ref C) = some true
  init : ∃ (f : Addr) (fd : FuncData), PySem.W.findIn K (.ref C) "__init__" = some (some (.ref f)) ∧ PySem.W.typeIn K (.ref f) = some (.type "function") ∧ FnOk P w K mg base L2.CX0 k f fd ["self"] (spIn C) ∧ L2.Binds K fd ["self"] []
end
section
variable {X : Cx} {E : XK} {k j : Nat} {C : Addr} {sp : Sp} {o e : Expr} {es : List Expr} {m x : Str} {p pos apos : Pos} {ta : TE} {t : TA} {pl : Sem Bool}
theorem pe_mtX (c : MetX X.prog X.w X.K X.mg X.base k C m sp) (hr : Room j X.A) (hk : k ≤ j) (hx : Passes (L2.CX X.prog X.w) X E) (he : PE X o ta) (ha : PA X (e :: es) t)
    (hst : starEach (e :: es) X.env = (false, eval e X.env) :: starEach es X.env := by rfl) (hpl : (backTo pos (starEach es X.env)).any (·.1) = false := by rfl)
    (ht : eval (.Call (.Attribute o m apos) (e :: es) [] pos) X.env = (do
      let ov ← eval o X.env
      standAt apos.atName
      let (f, first) ← holding [ov] (getMethod ov m pl)
      callWith pos f first (backTo pos (starEach (e :: es) X.env)) (backToKw pos (keywordEach [] X.env))) := by rfl) :
    PE X (.Call (.Attribute o m apos) (e :: es) [] pos) (tMeth C m sp [] E ta t) := by
  obtain ⟨f, fd, ps, hc, hm, F, b⟩ := c.ex
  exact pe_meth (pl := pl) he hc hm F (hr.mono hk) b .nil hx ha hst hpl ht
theorem k_binX {op : Operator} (c : OBinX X.prog X.w X.K X.mg X.base k C op sp) (hr : Room j X.A) (hk : k ≤ j) (hx : Passes (L2.CX X.prog X.w) X E) : OpR X (binaryOp op) (rBin C sp E) := by
  obtain ⟨g, h1, h2, h3, F⟩ := c.ex
  exact op_bin h1 h2 h3 F (hr.mono hk) hx
theorem k_cmpX {op : CmpOp} (c : OCmpX X.prog X.w X.K X.mg X.base k C op sp) (hop : ∀ a b, compareOp op a b = richCompare op a b) (hr : Room j X.A) (hk : k ≤ j) (hx : Passes (L2.CX X.prog X.w) X E) : OpR X (compareOp op) (rBin C sp E) := by
  obtain ⟨g, h1, h2, h3, F⟩ := c.ex
  exact op_cmp hop h1 h2 h3 F (hr.mono hk) hx
theorem pe_never : PE X e (fun _ _ _ => False) := ⟨fun _ _ _ _ _ _ h => h.elim⟩
theorem pmk_N (c : ErrN X.prog X.w X.K X.mg X.base k C x) (hr : Room j X.A) (hk : k + 1 ≤ j) (hg : Gl X x) (hdb : (x == ("__debug__" : Str)) = false := by decide) : PMk X (.Call (.Name x p) [] [] pos) (tMkN C (spIn C)) := by
  obtain ⟨f, fd, h1, h2, F, b⟩ := c.init
  exact pmk_oexN c.oex h1 h2 F (hr.mono hk) b pass0 hg c.g hdb
end
theorem takesX {P : Program} {w : World} {K : PySem.W.Frag} {mg : Str → Option Value} {base : Heap} {N : List Str} {qual : Str} {sc : Scope} {f : Addr} {cdv : Value} {A : Around} {outer : List Env} {s : Shared} {H : Hp} {E : XK} : Takes (cxOf (L2.CX P w) P w K mg base N qual sc f cdv A outer s H E) (fun cls d _ H => E cls d H) := takes_of rfl rfl rfl rfl
theorem passX {P : Program} {w : World} {K : PySem.W.Frag} {mg : Str → Option Value} {base : Heap} {N : List Str} {qual : Str} {sc : Scope} {f : Addr} {cdv : Value} {A : Around} {outer : List Env} {s : Shared} {H : Hp} {E : XK} : Passes (L2.CX P w) (cxOf (L2.CX P w) P w K mg base N qual sc f cdv A outer s H E) E := passes_call takesX fun _ _ _ _ h => h
theorem passLam {X : Cx} {A : Around} {outer : List Env} {s : Shared} {H : Hp} {E : XK} {scope : Scope} {f c' : Addr} : Passes (L2.CX X.prog X.w) (lamCx X A outer s H E scope f c') E := passes_call (takes_of (X := lamCx X A outer s H E scope f c') (E := E) rfl rfl rfl rfl) fun _ _ _ _ h => h
section
theorem lam_bin {X : Cx} {A : Around} {outer : List Env} {s : Shared} {H : Hp} {E : XK} {scope : Scope} {f c' : Addr} {a b : Expr} {ta tb : TE} {pos : Pos} {k j : Nat} {C : Addr} {sp : Sp} {op : Operator} (o : OBinX X.prog X.w X.K X.mg X.base k C op sp) (hr : Room j (A.deeper (LamX.lamEnv X scope s.heap.objs.size f c'))) (hk : k ≤ j)
   (ha : PE (LamX.lamCx X A outer s H E scope f c') a ta) (hb : PE (LamX.lamCx X A outer s H E scope f c') b tb) : PE (LamX.lamCx X A outer s H E scope f c') (.BinOp a op b pos) (tOp (rBin C sp E) ta tb) :=
  pe_op (k_binX (X := LamX.lamCx X A outer s H E scope f c') o hr hk (passLam (X := X))) ha hb
theorem lam_cmp {X : Cx} {A : Around} {outer : List Env} {s : Shared} {H : Hp} {E : XK} {scope : Scope} {f c' : Addr} {a b : Expr} {ta tb : TE} {pos : Pos} {k j : Nat} {C : Addr} {sp : Sp} {op : CmpOp} (o : OCmpX X.prog X.w X.K X.mg X.base k C op sp) (hop : ∀ a b, compareOp op a b = richCompare op a b) (hr : Room j (A.deeper (LamX.lamEnv X scope s.heap.objs.size f c'))) (hk : k ≤ j)
   (ha : PE (LamX.lamCx X A outer s H E scope f c') a ta) (hb : PE (LamX.lamCx X A outer s H E scope f c') b tb) (hm : behindInMarks op b = false) : PE (LamX.lamCx X A outer s H E scope f c') (.Compare a [op] [b] pos) (tOp (rBin C sp E) ta tb) :=
  pe_cmpR (k_cmpX (X := LamX.lamCx X A outer s H E scope f c') o hop hr hk (passLam (X := X))) ha hb hm
end
/-! in data -/
def RaE (te : TE) (ρ : Rho) (CU : Addr) (E : XK) : Prop := ∀ (Z : Addr → Prop) (σ : L2.St) (H : Hp) (Q : VK), okZ Z H → SRep Z H σ ρ → (∀ H', Ex H H' → E (.ref CU) none H') → te σ H Q
def RaS (ts : TS) (ρ : Rho) (CU : Addr) (E : XK) : Prop := ∀ (Z : Addr → Prop) (σ : L2.St) (H : Hp) (D : Ends), okZ Z H → SRep Z H σ ρ → (∀ H', Ex H H' → E (.ref CU) none H') → ts D σ H
section
variable {ρ : Rho} {CU C : Addr} {E : XK} {te ta tb : TE} {ts us : TS} {R : List D → Prop} {d e : D}
theorem ra_seq (h : RaS ts ρ CU E) : RaS (tSeq ts us) ρ CU E := fun Z σ H D k s q => h Z σ H _ k s q
theorem ra_drop (h : RaE te ρ CU E) : RaS (tDrop te) ρ CU E := fun Z σ H D k s q => h Z σ H _ k s q
theorem ra_ret (h : RaE te ρ CU E) : RaS (tRet te) ρ CU E := fun Z σ H D k s q => h Z σ H _ k s q
theorem ra_andV (h : RaE ta ρ CU E) : RaE (tAndV ta tb) ρ CU E := fun Z σ H D k s q => h Z σ H _ k s q
theorem ra_if {c : TT} (h : EvT c ρ true) (g : RaS ts ρ CU E) : RaS (tIfS c ts us) ρ CU E := fun Z σ H D k s q =>
  h Z σ H _ k s fun H1 x1 => iteT (g Z σ H1 D (k.ex x1) (s.mono x1.to) fun H' x' => q H' (x1.tr x'))
theorem ra_raise : RaS (fun _ σ H => tMkN CU (spIn CU) σ H fun cls d H' => E cls d H') ρ CU E := fun Z σ H D k s q a ha =>
  ⟨a, rfl, upd_same, rfl, upd_same, q _ fun b o hb => by
    have ne : b ≠ a := ne_of_none hb ha
    rw [del_ne ne, upd_ne ne]; exact hb⟩
theorem ra_meth {m : Str} {t : TA} {ds : List D} {fs : List (Str × D)} (hs : Ev ta ρ (.ins C fs)) (hm : fs.lookup m = none) (ha : EvA t ρ ds) (hr : R (.ins C fs :: ds)) : RaE (tMeth C m (spX R CU) [] E ta t) ρ CU E := fun Z σ H Q k s q =>
  hs Z σ H _ k s fun x H0 x0 r0 => by
    cases r0 with
    | ins n h rs => exact ⟨_, _, _, rfl, h, rs.none hm, ha Z σ H0 _ (k.ex x0) (s.mono x0.to) fun vs H1 x1 r1 => ⟨Z, _, (k.ex x0).ex x1, .cons (.ins n (x1.exact h) (rs.mono x1.to)) (by rw [List.append_nil]; exact r1), hr, fun H2 x2 => q H2 ((x0.tr x1).tr x2)⟩⟩
theorem ra_op {fs gs : List (Str × D)} (ha : Ev ta ρ (.ins C fs)) (hb : Ev tb ρ (.ins C gs)) (hr : R [.ins C fs, .ins C gs]) : RaE (tOp (rBin C (spX R CU) E) ta tb) ρ CU E := fun Z σ H Q k s q =>
  ha Z σ H _ k s fun x H1 x1 r1 => hb Z σ H1 _ (k.ex x1) (s.mono x1.to) fun y H2 x2 r2 => by
    have r1' := r1.mono (x2.to (Z := Z))
    have r1'' := r1'
    have r2' := r2
    cases r1' with
    | ins n1 h1 f1 => cases r2 with
      | ins n2 h2 f2 => exact ⟨_, _, _, _, _, _, rfl, rfl, h1, h2, Z, _, (k.ex x1).ex x2, .cons r1'' (.cons r2' .nil), hr, fun H3 x3 => q H3 ((x1.tr x2).tr x3)⟩
theorem raise_ok {P : Program} {w : World} {K : PySem.W.Frag} {mg : Str → Option Value} {base : Heap} {x qual : Str} {stm : Stmt} {fa : Addr} {fd : FuncData} {N ps : List Str} {k : Nat} (F : Fun K x qual stm fa fd) (S : FnScope N ps (defScope stm)) (len : ∀ ds, R ds → ds.length = ps.length)
    (hb : ∀ (cdv : Value) (A : Around) (outer : List Env) (s : Shared) (H : Hp) (E : XK), Room k (A.deeper (PyProof.Rows.envOfC qual (defScope stm) s.heap.objs.size fa cdv)) →
      ∃ t, PSs (cxOf (L2.CX P w) P w K mg base N qual (defScope stm) fa cdv A outer s H E) (defBody stm) t ∧ ∀ ds, R ds → RaS t (rho0 N ds) CU E) : FnOk P w K mg base (L2.CX P w) (k + 1) fa fd ps (spX R CU) := by
  refine F.okX S (fun vs H Q E h => ?_) (fun cdv A outer s H vs Q E hr h => ?_)
  · obtain ⟨Z, ds, _, r, hR, _⟩ := h
    exact r.len.trans (len ds hR)
  · obtain ⟨Z, ds, ok, r, hR, q⟩ := h
    obtain ⟨t, ht, hs⟩ := hb cdv A outer s H E hr
    refine ⟨t, ht, ?_⟩
    have s0 : SRep Z H (L2.start N vs) (rho0 N ds) := by
      unfold L2.start rho0
      rw [r.len]
      exact SRep.start r _
    exact hs ds hR Z _ H _ ok s0 q
end
theorem fnRX {P : Program} {w : World} {K : PySem.W.Frag} {mg : Str → Option Value} {base : Heap} {k : Nat} {f : Addr} {fd : FuncData} {ps : List Str} {sp : Sp} (F : FnOk P w K mg base (L2.CX P w) k f fd ps sp) (b : L2.Binds K fd ps []) : FnR P w K mg base (L2.CX P w) k f sp := by
  have := F.raw b .nil
  simpa only [List.append_nil] using this
/-- .. refused: what a def with one try makes of a lambda that raises -/
theorem ge_ref {K : PySem.W.Frag} {ρ : Rho} {μ : Mu} {Φ : D → Mu → Prop} {Pt CU : Addr} {q : Str} {t : XK → TE} (hP : (Pt, .str q) ∈ μ) (hex : PySem.W.exmOne K (.ref CU) (.ref CU) = some true) (ht : ∀ E, RaE (t E) ρ CU E) (f : Φ (.bl true) μ) : GE (tLamA Pt q (TRef K CU) t) ρ μ Φ :=
  ge_lamA hP fun Z σ H Q k s m c => ht _ Z σ H _ k s fun H' x => ⟨true, hex, fun _ => c _ H' (.bl true) μ f (.exs m x) (.bl true), fun h => by cases h⟩
/-! a def that makes lambdas: its code object is known -/
structure FunC (K : PySem.W.Frag) (x qual : Str) (st : Stmt) (f : Addr) (fd : FuncData) (c : Addr) : Prop where
  ex : ∃ (oc : Value) (od : Option Addr) (kV doc pm : Value) (an : Option Addr) (ct : Value) (osl : Array (Option Value)),
    fd = PySem.W.fnOf x qual (defArgs st) (defBody st) (defScope st) .none kV doc pm an (.ref c) ct ∧ K.lookup f = some ⟨oc, od, .func fd, osl⟩ ∧ PySem.W.codeIn K (.ref c) qual = true
theorem eff_okC {P : Program} {w : World} {K : PySem.W.Frag} {mg : Str → Option Value} {base : Heap} {x qual : Str} {stm : Stmt} {fa c : Addr} {fd : FuncData} {N0 ps : List Str} {k : Nat} {R : List D → Mu → (D → Mu → Prop) → Prop} (F : FunC K x qual stm fa fd c) (S : FnScope N0 ps (defScope stm)) (len : ∀ ds μ Φ, R ds μ Φ → ds.length = ps.length)
    (hb : ∀ (A : Around) (outer : List Env) (s : Shared) (H : Hp) (E : XK), Room k (A.deeper (PyProof.Rows.envOfC qual (defScope stm) s.heap.objs.size fa (.ref c))) →
      ∃ t, PSs (cxOf CX0 P w K mg base N0 qual (defScope stm) fa (.ref c) A outer s H E).nox (defBody stm) t ∧ ∀ ds μ Φ, R ds μ Φ → GS t (rho0 N0 ds) μ (fun _ μ' => μ'.map (·.1) = μ.map (·.1) ∧ Φ .non μ') (fun d μ' => μ'.map (·.1) = μ.map (·.1) ∧ Φ d μ')) : FnOk P w K mg base CX0 (k + 1) fa fd ps (spM R) := by
  have fin : ∀ {Z Z' : Addr → Prop} {H H' : Hp} {μ μ' : Mu}, Mem Z H μ → μ'.map (·.1) = μ.map (·.1) → Nz Z H μ Z' H' μ' → Nxt Z H μ H' μ' ∧ ∀ a, Z a → Z' a := fun m e z => by
    have zz : ∀ a, _ → _ := fun a h => (z.zk a h).resolve_right fun h => h.2 (by have := h.1; unfold dom at this ⊢; rw [e]; exact this)
    exact ⟨⟨z.ext, e, ⟨fun p hp => by
      obtain ⟨z1, c1⟩ := z.mem.cs p hp
      exact ⟨z.zs _ z1, c1.zs zz⟩, z.mem.nd⟩⟩, zz⟩
  obtain ⟨oc, od, kV, doc, pm, an, ct, osl, rfl, lk, hcd⟩ := F.ex
  refine fn_of lk hcd S (fun vs H Q E h => ?_) (fun A outer s H vs Q E hr h => ?_)
  · obtain ⟨Z, ds, μ, Φ, _, r, _, hR, _⟩ := h
    exact r.len.trans (len ds μ Φ hR)
  · obtain ⟨Z, ds, μ, Φ, ok, r, m, hR, q⟩ := h
    obtain ⟨t, ht, hs⟩ := hb A outer s H E hr
    refine ⟨t, ht.nox, ?_⟩
    have s0 : SRep Z H (L2.start N0 vs) (rho0 N0 ds) := by
      unfold L2.start rho0
      rw [r.len]
      exact SRep.start r _
    refine hs ds μ Φ hR Z _ H _ ok s0 m (fun σ' H' ρ' μ' Z' ⟨e, p⟩ z s' => ?_) fun v H' d μ' Z' ⟨e, p⟩ z r' => ?_
    · exact q _ H' _ μ' p (fin m e z).1 .non
    · exact q _ H' _ μ' p (fin m e z).1 (r'.zs fun a h => .inl ((fin m e z).2 a h))
end Du
namespace Du
open PySem L2 PySem.Spec PyProof.Rows LamX
/-! several clauses 'except x as n' -/
def asEnds (i : Nat) (D : Ends) : Ends := { nx := fun σ' H' => D.nx (σ'.set i none) H', rt := D.rt, bk := fun σ' H' => D.bk (σ'.set i none) H', ct := fun σ' H' => D.ct (σ'.set i none) H' }
def wManyAs (K : PySem.W.Frag) (i : Nat) (Wout : WX) (D : Ends) : List (Value × (Addr → Value → Option Addr → TS)) → WX
  | [] => Wout
  | (c, ts) :: r => fun cls d σ H => ∃ b, PySem.W.exmOne K cls c = some b ∧ (b = true → i < σ.length → ∀ a, H a = none → ts a cls d (asEnds i D) (σ.set i (some (.ref a))) H) ∧ (b = false → wManyAs K i Wout D r cls d σ H)
inductive HdsAs (X : Cx) (n : Str) : List ExceptHandler → List (Value × (Addr → Value → Option Addr → TS)) → Prop
  | nil : HdsAs X n [] []
  | cons {x : Str} {c : Value} {ts : Addr → Value → Option Addr → TS} {b₀ : Stmt} {suite : List Stmt} {np pos' : Pos} {hds : List ExceptHandler} {l : List (Value × (Addr → Value → Option Addr → TS))} (hc : Names X x c)
      (hsu : ∀ (a : Addr) (oe : Obj) (cls : Value) (d : Option Addr) (pn : List (Addr × Obj)), Zc cls d oe → (∃ vs, oe.data = .fields vs) → PSs (X.suite a ((a, oe) :: pn)) (b₀ :: suite) (ts a cls d)) (r : HdsAs X n hds l) :
      HdsAs X n (.ExceptHandler (some (.Name x np)) (some n) (b₀ :: suite) pos' :: hds) ((c, ts) :: l)
section
variable {X : Cx} {n : Str} {i : Nat} {body : List Stmt} {h₀ : ExceptHandler} {hds : List ExceptHandler} {l : List (Value × (Addr → Value → Option Addr → TS))} {pos : Pos} {tb : WX → TS} {Wout : WX}
theorem ps_try_manyAs (hs : X.stack = X.env :: X.outer) (hf : X.env.frame = some X.env.locals) (hN : X.N.Nodup) (hi : X.N[i]? = some n) (hln : X.env.kindOf n = some .local) (tk : Takes X Wout)
    (hb : ∀ (W : WX) (pn : List (Addr × Obj)) (xe : Value → Shared → Prop), Takes (X.tr pn xe) W → PassesOwn (model X.prog X.w) X.A X.env xe → PSs (X.tr pn xe) body (tb W))
    (hh : HdsAs X n (h₀ :: hds) l) : PS X (.Try body (h₀ :: hds) [] [] pos) (fun D σ H => tb (wManyAs X.K i Wout D l) D σ H) := by
  refine ⟨fun pins s σ H D I h => ?_⟩
  have ok := I.ok
  have hfr : X.A.frames = some (X.env :: X.outer) := by rw [ok.frames, hs]
  have hloc : Loc X.env.scope n := .inl hln
  refine wpAny_Try_except ?_
  refine wpAny_mono ((hb (wManyAs X.K i Wout D l) (X.pn ++ pins) (fun e s₁ => wpAny (model X.prog X.w) X.A (noteFrame e X.env) (fun _ s₂ => wpAny (model X.prog X.w) X.A (setFlight e none) (fun _ s₃ =>
    wpAny (model X.prog X.w) X.A (handleBy e X.env (h₀ :: hds)) (SP X pins D) X.xe s₃) X.xe s₂) X.xe s₁) (fun u s' xx => ?_) PassesOwn.looking).run [] s σ H D (I.toTry _) h) (fun f s1 hsp => ?_) (fun e s1 he => he)
  · obtain ⟨a, B, sI, pins', σ', H', cls, d, rfl, J', nb, up, sky, na, os, ag, w⟩ := xx
    have J : Inv X pins σ' H' sI := J'.ofTry ok
    have sky' : Sky B (X.env :: X.outer) a (Zc cls d) X.env.locals s'.heap := by rw [← hs]; exact sky
    show wpAny (model X.prog X.w) X.A (noteFrame (.ref a) X.env) _ _ _
    refine Sky.land Zc.steady hfr hf sky' fun h3 fl3 up3 => ?_
    have J3 : Inv X pins σ' H' { s' with heap := h3 } := J.landed nb fl3.1 (up.trans up3) os ag
    obtain ⟨oe3, vs3, he3, hz3, hd3⟩ := fl3.there
    have notFr : ∀ {h : Heap} {o : Obj} {vs : Array Value}, h.FunFrames B (X.env :: X.outer) → h.get? a = some o → o.data = .fields vs → a ∉ frs (X.env :: X.outer) := fun {h o vs} ff e dd hm => by
      obtain ⟨_, o', e', hnf⟩ := ff.mem hm
      rw [e] at e'; cases e'
      exact hnf _ dd
    have nfr := notFr fl3.2.2.1 he3 hd3
    have nL : a ≠ X.env.locals := fun z => nfr (List.mem_filterMap.mpr ⟨X.env, List.mem_cons_self, by rw [hf, z]⟩)
    have nF : a ∉ X.fs := fun hm => by
      obtain ⟨e, he, q⟩ := List.mem_filterMap.mp hm
      exact nfr (List.mem_filterMap.mpr ⟨e, List.mem_cons_of_mem _ he, q⟩)
    have S3 := J3.suite he3 hd3 na nL nF
    have go : ∀ {hds' : List ExceptHandler} {l' : List (Value × (Addr → Value → Option Addr → TS))}, HdsAs X n hds' l' → wManyAs X.K i Wout D l' cls d σ' H' →
        wpAny (model X.prog X.w) X.A (handleBy (.ref a) X.env hds') (SP X pins D) X.xe { s' with heap := h3 } := by
      intro hds' l' hk
      induction hk with
      | nil =>
        intro w
        refine wpAny_handleBy_nil ?_
        obtain ⟨k1, k2, k3, oe, vs, T, oT, ts', he, hz, hd, h1, hr⟩ := id fl3
        unfold PySem.passOn
        refine wpAny_bind (wpAny_field he hd h1 ?_)
        rw [if_neg (show ¬ ((Value.ref T == Value.none) = true) from by simp)]
        have fin : wpAny (model X.prog X.w) X.A (setFlight (.ref a) X.env.frame) (fun _ s4 => wpAny (model X.prog X.w) X.A (throw (.ref a) : Sem Flow) (SP X pins D) X.xe s4) X.xe { s' with heap := h3 } := by
          rw [hf]
          refine HandSPX.setFlight_upZ fl3 fun h4 hh4 up4 => wpAny_throw (tk _ _ ?_)
          exact ⟨a, B, sI, pins, σ', H', cls, d, rfl, J, nb, (up.trans up3).trans up4, .inr (.inr (by rw [hs]; exact hh4)), na, os, ag, w⟩
        first
          | exact wpAny_bind (wpAny_pure (wpAny_bind fin))
          | exact wpAny_bind fin
      | @cons x c ts b₀ suite np pos' hds2 l2 hc hsu r ih =>
        intro w
        obtain ⟨b, hb1, hyes, hno⟩ := w
        refine wpAny_handleBy_cons (codeAny_handlers_test ?_) (by intro q; cases q)
        have LT : PySem.W.Looks (model X.prog X.w) h3 (typeOf (.ref a)) cls := fun A Q E s k q => wpAny_typeOf_ref (k _ _ he3) (by rw [hz3.1]; exact q)
        have LM := PySem.W.exm_one (M := model X.prog X.w) (J3.kIn) LT hb1
        have test : ∀ {Q : Value → Shared → Prop} {E : Value → Shared → Prop}, Q c { s' with heap := h3 } → wpAny (model X.prog X.w) (X.A.mark (some (.ref a))) (eval (.Name x np) X.env) Q E { s' with heap := h3 } := fun {Q E} q => by
          obtain ⟨hg, hdbg, hm | ⟨hm, hv, hnn⟩⟩ := hc
          · exact ld_glob (X := X.suite a ((a, oe3) :: (X.pn ++ pins))) S3 hg hm q hdbg
          · exact ld_blt (X := X.suite a ((a, oe3) :: (X.pn ++ pins))) S3 hg hm hv q hnn hdbg
        refine test (LM.here ?_)
        cases b with
        | true =>
          refine codeAny_handlers_suite_as ?_
          refine HandSPX.lands_againZ fl3 fun h4 fl4 up4 => ?_
          have J4 : Inv X pins σ' H' { s' with heap := h4 } := J.landed nb fl4.1 ((up.trans up3).trans up4) os ag
          obtain ⟨oe4, vs4, he4, hz4, hd4⟩ := fl4.there
          have S4 := J4.suite he4 hd4 na nL nF
          refine store_ok (X := X.suite a ((a, oe4) :: (X.pn ++ pins))) (v := .ref a) S4 hN hi hloc rfl (fun s5 S5 => ?_) (.inr hln)
          refine wpAny_mono ((hsu a oe4 cls d (X.pn ++ pins) hz4 ⟨_, hd4⟩).run [] s5 _ H' _ S5 (hyes rfl (by rw [J.len]; exact (List.getElem?_eq_some_iff.mp hi).1) a na)) (fun f s6 hsp => ?_) (fun _ _ z => False.elim z)
          have end_ : ∀ {σ6 : L2.St} {H6 : Hp} {Q : Shared → Prop}, Inv (X.suite a ((a, oe4) :: (X.pn ++ pins))) [] σ6 H6 s6 → (∀ s7, Inv X pins (σ6.set i none) H6 s7 → Q s7) →
              wpAny (model X.prog X.w) X.A (do bindName X.env n .none; unbindBehindTheSuite X.env n pos') (fun _ s7 => Q s7) X.xe s6 := fun {σ6 H6 Q} S6 hq => gone_ok (S6.unsuite ok) hN hi hln hq
          cases f with
          | next =>
            obtain ⟨σ6, H6, S6, q6⟩ := hsp
            exact end_ S6 fun s7 J7 => ⟨_, _, J7, q6⟩
          | brk =>
            obtain ⟨σ6, H6, S6, q6⟩ := hsp
            exact end_ S6 fun s7 J7 => ⟨_, _, J7, q6⟩
          | cont =>
            obtain ⟨σ6, H6, S6, q6⟩ := hsp
            exact end_ S6 fun s7 J7 => ⟨_, _, J7, q6⟩
          | ret u =>
            obtain ⟨v6, σ6, H6, S6, r6, q6⟩ := hsp
            exact end_ S6 fun s7 J7 => ⟨_, _, _, J7, r6, q6⟩
        | false =>
          show wpAny _ X.A (handleBy (.ref a) X.env hds2) _ _ _
          exact ih (hno rfl)
    exact go hh w
  · cases f with
    | next =>
      obtain ⟨σ', H', J', q⟩ := hsp
      exact wpAny_execs_nil ⟨σ', H', J'.ofTry ok, q⟩
    | brk =>
      obtain ⟨σ', H', J', q⟩ := hsp
      exact ⟨σ', H', J'.ofTry ok, q⟩
    | cont =>
      obtain ⟨σ', H', J', q⟩ := hsp
      exact ⟨σ', H', J'.ofTry ok, q⟩
    | ret u =>
      obtain ⟨v, σ', H', J', r, q⟩ := hsp
      exact ⟨v, σ', H', J'.ofTry ok, r, q⟩
end
end Du
namespace Du
open PySem L2 PySem.Spec PyProof.Rows LamX
/-! errors that bear one field -/
def spInF (C : Addr) (f : Str) : Sp := fun vs H Q _ => ∃ (a : Addr) (v : V), vs = [.ref a, v] ∧ H a = some (exo a C none) ∧ ∀ dx, H dx = none → dx ≠ a → Q .non (upd (upd H dx (exd dx [(f, v)])) a (exo a C (some dx)))
section
variable (P : Program) (w : World) (K : PySem.W.Frag) (mg : Str → Option Value) (base : Heap) (k : Nat) (C : Addr)
structure ErrF (x f : Str) : Prop where
  oex : OexC K C
  g : mg x = some (.ref C)
  xf : XfC K C
  no : PySem.W.findIn K (.ref C) f = some none
  init : ∃ (fa : Addr) (fd : FuncData) (ps : List Str), PySem.W.findIn K (.ref C) "__init__" = some (some (.ref fa)) ∧ PySem.W.typeIn K (.ref fa) = some (.type "function") ∧ FnOk P w K mg base L2.CX0 k fa fd ps (spInF C f) ∧ L2.Binds K fd ps []
structure CalX (x : Str) (sp : Sp) : Prop where
  ex : ∃ (f : Addr) (fd : FuncData) (ps : List Str), FnOk P w K mg base (L2.CX P w) k f fd ps sp ∧ mg x = some (.ref f) ∧ PySem.W.keepIn K (.ref f) = true ∧ L2.Binds K fd ps []
structure OSmX (m : Str) (sp : Sp) : Prop where
  ex : ∃ mc p g, ClX.CRead K C mc ∧ SMet K C mc m p g ∧ FnR P w K mg base (L2.CX P w) k g sp
end
section
variable {X : Cx} {E : XK} {k j : Nat} {C : Addr} {sp : Sp} {o e : Expr} {es : List Expr} {m x f : Str} {p pos apos : Pos} {te : TE} {ta : TE} {t : TA} {pl : Sem Bool}
theorem pmk_F (c : ErrF X.prog X.w X.K X.mg X.base k C x f) (hr : Room j X.A) (hk : k + 1 ≤ j) (hg : Gl X x) (ha : PA X [e] t) (hdb : (x == ("__debug__" : Str)) = false := by decide)
    (he : starEach [e] X.env = (false, eval e X.env) :: starEach [] X.env := by rfl) : PMk X (.Call (.Name x p) [e] [] pos) (tMkO C (spInF C f) [] t) := by
  obtain ⟨fa, fd, ps, h1, h2, F, b⟩ := c.init
  exact pmk_oex c.oex h1 h2 F (hr.mono hk) b .nil pass0 hg c.g ha hdb he rfl
theorem pe_cX (c : CalX X.prog X.w X.K X.mg X.base k x sp) (hr : Room j X.A) (hk : k ≤ j) (hx : Passes (L2.CX X.prog X.w) X E) (hg : Gl X x) (ha : PA X (e :: es) t)
    (hdb : (x == ("__debug__" : Str)) = false := by decide) (he : starEach (e :: es) X.env = (false, eval e X.env) :: starEach es X.env := by rfl) (hpl : (backTo pos (starEach es X.env)).any (·.1) = false := by rfl) :
    PE X (.Call (.Name x p) (e :: es) [] pos) (tCall sp [] E t) := by
  obtain ⟨f, fd, ps, F, hm, kp, b⟩ := c.ex
  exact pe_call F (hr.mono hk) hg hm kp b .nil hx ha hdb he hpl
theorem k_smX (c : OSmX X.prog X.w X.K X.mg X.base k C m sp) (hr : Room j X.A) (hk : k ≤ j) (hx : Passes (L2.CX X.prog X.w) X E) (he : PE X o ta) (ha : PA X (e :: es) t)
    (hst : starEach (e :: es) X.env = (false, eval e X.env) :: starEach es X.env := by rfl) (hpl : (backTo pos (starEach es X.env)).any (·.1) = false := by rfl)
    (ht : eval (.Call (.Attribute o m apos) (e :: es) [] pos) X.env = (do
      let ov ← eval o X.env
      standAt apos.atName
      let (f, first) ← holding [ov] (getMethod ov m pl)
      callWith pos f first (backTo pos (starEach (e :: es) X.env)) (backToKw pos (keywordEach [] X.env))) := by rfl) :
    PE X (.Call (.Attribute o m apos) (e :: es) [] pos) (tSMeth C sp E ta t) := by
  obtain ⟨mc, p, g, r, s, F⟩ := c.ex
  exact pe_smeth (pl := pl) he r s F (hr.mono hk) hx ha hst hpl ht
end
section
variable {X : Cx} {A : Around} {outer : List Env} {s : Shared} {H : Hp} {E : XK} {scope : Scope} {fz c' : Addr} {k j : Nat} {C : Addr} {sp : Sp} {o e : Expr} {es : List Expr} {m : Str} {pos apos : Pos} {ta : TE} {t : TA} {pl : Sem Bool}
theorem lam_mt (c : MetX X.prog X.w X.K X.mg X.base k C m sp) (hr : Room j (A.deeper (LamX.lamEnv X scope s.heap.objs.size fz c'))) (hk : k ≤ j) (he : PE (LamX.lamCx X A outer s H E scope fz c') o ta) (ha : PA (LamX.lamCx X A outer s H E scope fz c') (e :: es) t)
    (hst : starEach (e :: es) (LamX.lamCx X A outer s H E scope fz c').env = (false, eval e (LamX.lamCx X A outer s H E scope fz c').env) :: starEach es (LamX.lamCx X A outer s H E scope fz c').env := by rfl) (hpl : (backTo pos (starEach es (LamX.lamCx X A outer s H E scope fz c').env)).any (·.1) = false := by rfl)
    (ht : eval (.Call (.Attribute o m apos) (e :: es) [] pos) (LamX.lamCx X A outer s H E scope fz c').env = (do
      let ov ← eval o (LamX.lamCx X A outer s H E scope fz c').env
      standAt apos.atName
      let (f, first) ← holding [ov] (getMethod ov m pl)
      callWith pos f first (backTo pos (starEach (e :: es) (LamX.lamCx X A outer s H E scope fz c').env)) (backToKw pos (keywordEach [] (LamX.lamCx X A outer s H E scope fz c').env))) := by rfl) :
    PE (LamX.lamCx X A outer s H E scope fz c') (.Call (.Attribute o m apos) (e :: es) [] pos) (tMeth C m sp [] E ta t) :=
  pe_mtX (X := LamX.lamCx X A outer s H E scope fz c') (pl := pl) c hr hk (passLam (X := X)) he ha hst hpl ht
theorem lam_sm (c : OSmX X.prog X.w X.K X.mg X.base k C m sp) (hr : Room j (A.deeper (LamX.lamEnv X scope s.heap.objs.size fz c'))) (hk : k ≤ j) (he : PE (LamX.lamCx X A outer s H E scope fz c') o ta) (ha : PA (LamX.lamCx X A outer s H E scope fz c') (e :: es) t)
    (hst : starEach (e :: es) (LamX.lamCx X A outer s H E scope fz c').env = (false, eval e (LamX.lamCx X A outer s H E scope fz c').env) :: starEach es (LamX.lamCx X A outer s H E scope fz c').env := by rfl) (hpl : (backTo pos (starEach es (LamX.lamCx X A outer s H E scope fz c').env)).any (·.1) = false := by rfl)
    (ht : eval (.Call (.Attribute o m apos) (e :: es) [] pos) (LamX.lamCx X A outer s H E scope fz c').env = (do
      let ov ← eval o (LamX.lamCx X A outer s H E scope fz c').env
      standAt apos.atName
      let (f, first) ← holding [ov] (getMethod ov m pl)
      callWith pos f first (backTo pos (starEach (e :: es) (LamX.lamCx X A outer s H E scope fz c').env)) (backToKw pos (keywordEach [] (LamX.lamCx X A outer s H E scope fz c').env))) := by rfl) :
    PE (LamX.lamCx X A outer s H E scope fz c') (.Call (.Attribute o m apos) (e :: es) [] pos) (tSMeth C sp E ta t) :=
  k_smX (X := LamX.lamCx X A outer s H E scope fz c') (pl := pl) c hr hk (passLam (X := X)) he ha hst hpl ht
end
/-! in data: told, or an error that bears one datum -/
abbrev ErK := Addr → Str → D → Mu → Prop
def XGo (E : XK) (Ψ : ErK) (Z : Addr → Prop) (H : Hp) (μ : Mu) : Prop := ∀ (Z' : Addr → Prop) (H' : Hp) (dx : Addr) (v : V) (C : Addr) (f : Str) (d : D) (μ' : Mu), Ψ C f d μ' → Nz Z H μ Z' H' μ' → H' dx = some (.xd [(f, v)]) → Rep Z' H' v d → E (.ref C) (some dx) H'
theorem XGo.tr {E : XK} {Ψ : ErK} {Z Z1 : Addr → Prop} {H H1 : Hp} {μ μ1 : Mu} (x : XGo E Ψ Z H μ) (n : Nz Z H μ Z1 H1 μ1) : XGo E Ψ Z1 H1 μ1 := fun Z' H' dx v C f d μ' h n' => x Z' H' dx v C f d μ' h (n.tr n')
theorem XGo.imp {E : XK} {Ψ Ψ' : ErK} {Z : Addr → Prop} {H : Hp} {μ : Mu} (x : XGo E Ψ Z H μ) (h : ∀ C f d μ', Ψ' C f d μ' → Ψ C f d μ') : XGo E Ψ' Z H μ := fun Z' H' dx v C f d μ' hh => x Z' H' dx v C f d μ' (h _ _ _ _ hh)
def GEX (te : TE) (ρ : Rho) (μ : Mu) (Φ : D → Mu → Prop) (Ψ : ErK) (E : XK) : Prop := ∀ (Z : Addr → Prop) (σ : L2.St) (H : Hp) (Q : VK), okZ Z H → SRep Z H σ ρ → Mem Z H μ → (∀ v H' d μ', Φ d μ' → Nxt Z H μ H' μ' → Rep Z H' v d → Q v H') → XGo E Ψ Z H μ → te σ H Q
def GSX (ts : TS) (ρ : Rho) (μ : Mu) (N : Rho → Mu → Prop) (R : D → Mu → Prop) (Ψ : ErK) (E : XK) : Prop := ∀ (Z : Addr → Prop) (σ : L2.St) (H : Hp) (D : Ends), okZ Z H → SRep Z H σ ρ → Mem Z H μ →
  (∀ σ' H' ρ' μ' Z', N ρ' μ' → Nz Z H μ Z' H' μ' → SRep Z' H' σ' ρ' → D.nx σ' H') → (∀ v H' d μ' Z', R d μ' → Nz Z H μ Z' H' μ' → Rep Z' H' v d → D.rt v H') → XGo E Ψ Z H μ → ts D σ H
/-- what a def answers: a datum, or an error with a datum -/
def spF (R : List D → D → Prop) (Rx : List D → Addr → Str → D → Prop) : Sp := fun vs H Q E => ∃ (Z : Addr → Prop) (ds : List D), okZ Z H ∧ Reps Z H vs ds ∧
  ((∃ d, R ds d ∧ ∀ v H', Ex H H' → Rep Z H' v d → Q v H') ∨ ∃ C f d, Rx ds C f d ∧ ∀ H' dx v, Ex H H' → H' dx = some (.xd [(f, v)]) → Rep Z H' v d → E (.ref C) (some dx) H')
def spXF (Rx : List D → Addr → Str → D → Prop) : Sp := fun vs H Q E => ∃ (Z : Addr → Prop) (ds : List D), okZ Z H ∧ Reps Z H vs ds ∧ ∃ C f d, Rx ds C f d ∧ ∀ H' dx v, Ex H H' → H' dx = some (.xd [(f, v)]) → Rep Z H' v d → E (.ref C) (some dx) H'
section
variable {ρ : Rho} {μ : Mu} {Φ : D → Mu → Prop} {Ψ : ErK} {E : XK} {te ta tb : TE} {ts us : TS} {N : Rho → Mu → Prop} {R : D → Mu → Prop} {C : Addr} {f : Str}
theorem gex_ge (h : GE te ρ μ Φ) : GEX te ρ μ Φ Ψ E := fun Z σ H Q k s m c _ => h Z σ H Q k s m c
theorem GEX.mono {Φ' : D → Mu → Prop} (h : GEX te ρ μ Φ Ψ E) (hp : ∀ d μ, Φ d μ → Φ' d μ) : GEX te ρ μ Φ' Ψ E := fun Z σ H Q k s m c x => h Z σ H Q k s m (fun v H' d μ' q => c v H' d μ' (hp _ _ q)) x
theorem gsx_gs (h : GS ts ρ μ N R) : GSX ts ρ μ N R Ψ E := fun Z σ H D k s m n r _ => h Z σ H D k s m n r
theorem gsx_seq (h : GSX ts ρ μ (fun ρ' μ' => GSX us ρ' μ' N R Ψ E) R Ψ E) : GSX (tSeq ts us) ρ μ N R Ψ E := fun Z σ H D k s m n r x =>
  h Z σ H _ k s m (fun σ' H' ρ' μ' Z' g z s' => g Z' σ' H' D z.ok s' z.mem (fun σ2 H2 ρ2 μ2 Z2 q z2 s2 => n σ2 H2 ρ2 μ2 Z2 q (z.tr z2) s2) (fun v H2 d μ2 Z2 q z2 r2 => r v H2 d μ2 Z2 q (z.tr z2) r2) (x.tr z)) r x
theorem gsx_ret (h : GEX te ρ μ R Ψ E) : GSX (tRet te) ρ μ N R Ψ E := fun Z σ H D k s m n r x => h Z σ H _ k s m (fun v H' d μ' q nx rp => r v H' d μ' Z q (nx.nz k) rp) x
theorem gsx_drop (h : GEX te ρ μ (fun d μ' => N ρ μ') Ψ E) : GSX (tDrop te) ρ μ N R Ψ E := fun Z σ H D k s m n r x =>
  h Z σ H _ k s m (fun v H' d μ' q nx rp => n _ H' _ μ' Z q (nx.nz k) (s.mono (nx.to m))) x
theorem gsx_asg {i : Nat} (h : GEX te ρ μ (fun d μ' => N (ρ.set i (some d)) μ') Ψ E) : GSX (tAsg te (gName i)) ρ μ N R Ψ E := fun Z σ H D k s m n r x =>
  h Z σ H _ k s m (fun v H' d μ' q nx rp => n _ H' _ μ' Z q (nx.nz k) ((s.mono (nx.to m)).set i rp)) x
theorem gsx_if {c : TT} (h : GT c ρ μ fun b μ' => if b = true then GSX ts ρ μ' N R Ψ E else GSX us ρ μ' N R Ψ E) : GSX (tIfS c ts us) ρ μ N R Ψ E := fun Z σ H D k s m n r x =>
  h Z σ H _ k s m fun b H1 μ1 g n1 => by
    have z1 := n1.nz k
    cases b with
    | true => exact iteT (g Z σ H1 D (n1.ok k) (s.mono (n1.to m)) n1.mem (fun σ2 H2 ρ2 μ2 Z2 q z2 s2 => n σ2 H2 ρ2 μ2 Z2 q (z1.tr z2) s2) (fun v H2 d μ2 Z2 q z2 r2 => r v H2 d μ2 Z2 q (z1.tr z2) r2) (x.tr z1))
    | false => exact iteF (g Z σ H1 D (n1.ok k) (s.mono (n1.to m)) n1.mem (fun σ2 H2 ρ2 μ2 Z2 q z2 s2 => n σ2 H2 ρ2 μ2 Z2 q (z1.tr z2) s2) (fun v H2 d μ2 Z2 q z2 r2 => r v H2 d μ2 Z2 q (z1.tr z2) r2) (x.tr z1))
theorem gsx_lq {ρ' : Rho} (l : Lq ρ' ρ) (h : GSX ts ρ' μ N R Ψ E) : GSX ts ρ μ N R Ψ E := fun Z σ H D k s m n r x => h Z σ H D k (s.lq l) m n r x
/-- raise C(e) -/
theorem gsx_raise (h : GE te ρ μ fun d μ1 => Ψ C f d μ1) : GSX (fun _ σ H => tMkO C (spInF C f) [] (tCons te tNil) σ H fun cls d H' => E cls d H') ρ μ N R Ψ E := fun Z σ H D k s m n r x =>
  h Z σ H _ k s m fun v H1 d μ1 q n1 r1 => ⟨by simp, fun a ha => ⟨a, v, rfl, upd_same, fun dx hdx ne => ⟨rfl, dx, [(f, v)], upd_same, by rw [upd_ne ne]; exact upd_same, by rw [upd_ne ne] at hdx; exact hdx, by
    rw [upd_ne ne] at hdx
    have ex : Ex H1 (upd (del (upd (upd (upd H1 a (exo a C none)) dx (exd dx [(f, v)])) a (exo a C (some dx))) a) dx (.xd [(f, v)])) := fun b o hb => by
      have n1 : b ≠ dx := ne_of_none hb hdx
      have n2 : b ≠ a := ne_of_none hb ha
      rw [upd_ne n1, del_ne n2, upd_ne n2, upd_ne n1, upd_ne n2]; exact hb
    exact x Z _ dx v C f d μ1 q ((n1.tr (.exs n1.mem ex)).nz k) upd_same (r1.mono ex.to)⟩⟩⟩
theorem gex_op {r : R2} (h : GEX ta ρ μ (fun d μ1 => GEX tb ρ μ1 (fun e μ2 => ∃ z, R2D r d e z ∧ Φ z μ2) Ψ E) Ψ E) : GEX (tOp r ta tb) ρ μ Φ Ψ E := fun Z σ H Q k s m c x =>
  h Z σ H _ k s m (fun v H1 d μ1 g n1 r1 => g Z σ H1 _ (n1.ok k) (s.mono (n1.to m)) n1.mem (fun v2 H2 e μ2 ⟨z, hz, q⟩ n2 r2 => hz Z H2 v v2 Q ((n1.tr n2).ok k) (r1.mono (n2.to n1.mem)) r2 fun v3 H3 x3 r3 => c v3 H3 z μ2 q ((n1.tr n2).tr (.exs n2.mem x3)) r3) (x.tr (n1.nz k))) x
section
variable {R0 : List D → D → Prop} {Rx : List D → Addr → Str → D → Prop} {t : TA}
theorem spF_go {Z : Addr → Prop} {H H1 : Hp} {μ1 : Mu} {vs : List V} {ds : List D} {Q : VK} (k : okZ Z H) (n1 : Nxt Z H μ H1 μ1) (r1 : Reps Z H1 vs ds) (g : (∃ z, R0 ds z ∧ Φ z μ1) ∨ ∃ C f d, Rx ds C f d ∧ Ψ C f d μ1) (c : ∀ v H' d μ', Φ d μ' → Nxt Z H μ H' μ' → Rep Z H' v d → Q v H') (x : XGo E Ψ Z H μ) : spF R0 Rx vs H1 Q E := by
  refine ⟨Z, ds, n1.ok k, r1, ?_⟩
  rcases g with ⟨z, hr, q⟩ | ⟨C, f, d, hr, q⟩
  · exact .inl ⟨z, hr, fun v H2 x2 r2 => c v H2 z μ1 q (n1.tr (.exs n1.mem x2)) r2⟩
  · exact .inr ⟨C, f, d, hr, fun H' dx v x2 h2 r2 => x Z H' dx v C f d μ1 q ((n1.tr (.exs n1.mem x2)).nz k) h2 r2⟩
theorem gex_call (h : GEA t ρ μ fun ds μ1 => (∃ z, R0 ds z ∧ Φ z μ1) ∨ ∃ C f d, Rx ds C f d ∧ Ψ C f d μ1) : GEX (tCall (spF R0 Rx) [] E t) ρ μ Φ Ψ E := fun Z σ H Q k s m c x =>
  h Z σ H _ k s m fun vs H1 ds μ1 g n1 r1 => spF_go k n1 (by rw [List.append_nil]; exact r1) g c x
theorem gex_sm (hs : Ev te ρ (.ptr C)) (h : GEA t ρ μ fun ds μ1 => (∃ z, R0 ds z ∧ Φ z μ1) ∨ ∃ C f d, Rx ds C f d ∧ Ψ C f d μ1) : GEX (tSMeth C (spF R0 Rx) E te t) ρ μ Φ Ψ E := fun Z σ H Q k s m c x =>
  hs Z σ H _ k s fun v H0 x0 r0 => by
    have n0 := Nxt.exs m x0
    cases r0
    exact ⟨rfl, h Z σ H0 _ (n0.ok k) (s.mono (n0.to m)) n0.mem fun vs H1 ds μ1 g n1 r1 => spF_go k (n0.tr n1) r1 g c x⟩
theorem gex_meth {m' : Str} {fs : List (Str × D)} (hs : Ev te ρ (.ins C fs)) (hm : fs.lookup m' = none) (h : GEA t ρ μ fun ds μ1 => (∃ z, R0 (.ins C fs :: ds) z ∧ Φ z μ1) ∨ ∃ C' f d, Rx (.ins C fs :: ds) C' f d ∧ Ψ C' f d μ1) : GEX (tMeth C m' (spF R0 Rx) [] E te t) ρ μ Φ Ψ E := fun Z σ H Q k s m c x =>
  hs Z σ H _ k s fun v H0 x0 r0 => by
    have n0 := Nxt.exs m x0
    cases r0 with
    | ins n h0 rs =>
      exact ⟨_, _, _, rfl, h0, rs.none hm, h Z σ H0 _ (n0.ok k) (s.mono (n0.to m)) n0.mem fun vs H1 ds μ1 g n1 r1 => spF_go k (n0.tr n1) (.cons (.ins n ((n1.to n0.mem).exact n h0) (rs.mono (n1.to n0.mem))) (by rw [List.append_nil]; exact r1)) g c x⟩
end
/-- a loop, some turn of which may raise -/
theorem gsx_for {wi : TI} {g : TG} {ds : List D} (I : Nat → Rho → Mu → Prop) (hi : EvI wi ρ ds) {ρ0 : Rho} (hl : Lq ρ0 ρ) (h0 : I 0 ρ0 μ)
    (hb : ∀ i d ρi μi, ds[i]? = some d → I i ρi μi → ∃ ρ', GA g d ρi ρ' ∧ GSX ts ρ' μi (fun ρ'' μ'' => ∃ ρ1, Lq ρ1 ρ'' ∧ I (i + 1) ρ1 μ'') R Ψ E) (hn : ∀ ρ' μ', I ds.length ρ' μ' → N ρ' μ') : GSX (tFor wi g ts) ρ μ N R Ψ E := fun Z σ H D k s m n r x =>
  hi Z σ H _ k s fun J H1 x1 w1 => by
    have m1 := m.ex x1
    have k1 := k.ex x1
    have xx : XGo E Ψ Z H1 μ := x.tr ((Nxt.exs m x1).nz k)
    refine for_it (w1 Z fun a z => .inl z) (fun i σ Hc => ∃ ρi μi Zi, I i ρi μi ∧ Nz Z H1 μ Zi Hc μi ∧ SRep Zi Hc σ ρi) ⟨ρ0, μ, Z, h0, (Nxt.rf m1).nz k1, (s.mono x1.to).lq hl⟩ (fun i σ Hc _ ⟨ρi, μi, Zi, _, z, _⟩ => ⟨z.to m1, z.ok0⟩) ?_ fun σ Hc ⟨ρi, μi, Zi, hI, z, si⟩ => n σ Hc ρi μi Zi (hn _ _ hI) (((Nxt.exs m x1).nz k).tr z) si
    rintro i x σ Hc H' hi ⟨ρi, μi, Zi, hI, z, si⟩ ⟨y1, d, y2, y3⟩
    obtain ⟨ρ', g1, g2⟩ := hb i d ρi μi y2 hI
    have z' : Nz Z H1 μ Zi H' μi := z.tr ((Nxt.exs z.mem y1).nz z.ok)
    refine g1 Zi σ H' x _ z'.ok (si.mono y1.to) (y3.zs fun a h => .inl (z.zs a h)) fun σ' s' => ?_
    refine g2 Zi σ' H' _ z'.ok s' z'.mem (fun σ2 H2 ρ2 μ2 Z2 q z2 s2 => ?_) (fun v H2 d μ2 Z2 q z2 r2 => r v H2 d μ2 Z2 q (((Nxt.exs m x1).nz k).tr (z'.tr z2)) r2) (xx.tr z')
    obtain ⟨ρ1, l1, q⟩ := q
    exact ⟨ρ1, μ2, Z2, q, z'.tr z2, s2.lq l1⟩
theorem gsx_own {i : Nat} {t : TA} (h : GEA t ρ μ fun ds μ1 => ds.length ≤ 100000 ∧ ∀ a, ¬ dom μ1 a → GSX us (ρ.set i (some (.ptr a))) ((a, .lst ds) :: μ1) (fun ρ' μ' => ∃ μ'', DropA a μ' μ'' ∧ N ρ' μ'') (fun d μ' => ∃ μ'', DropA a μ' μ'' ∧ R d μ'') (fun C f d μ' => ∃ μ'', DropA a μ' μ'' ∧ Ψ C f d μ'') E) : GSX (tSeq (tAsg (tLst t) (gName i)) us) ρ μ N R Ψ E := fun Z σ H D k s m n r x =>
  h Z σ H _ k s m fun vs H1 ds μ1 g n1 r1 => ⟨Nat.le_trans (by rw [r1.len]; exact g.1) (by decide), fun a ha => by
    have k1 := n1.ok k
    have nz : ¬ Z a := k1.no ha
    have hz : ∀ b, (Z b ∨ b = a) → Z b ∨ H1 b = none := fun b z => z.imp id fun (e : b = a) => by rw [e]; exact ha
    refine g.2 a (fun h => nz (n1.mem.dz h)) (fun b => Z b ∨ b = a) _ _ D (k1.add rfl) ((((s.mono (n1.to m)).zs hz).mono (Ext.new ha)).set i (.ptr a)) (n1.mem.own ha r1) (fun σ' H' ρ' μ' Z' q z s' => ?_) (fun v H' d μ' Z' q z r' => ?_) fun Z' H' dx v C f d μ' q z hx r' => ?_
    · obtain ⟨μ'', hd, q⟩ := q
      exact n σ' H' ρ' μ'' _ q ((n1.nz k).tr (Nz.own ha nz n1.mem z hd)) (s'.zs fun b h => .inl h.1)
    · obtain ⟨μ'', hd, q⟩ := q
      exact r v H' d μ'' _ q ((n1.nz k).tr (Nz.own ha nz n1.mem z hd)) (r'.zs fun b h => .inl h.1)
    · obtain ⟨μ'', hd, q⟩ := q
      exact x _ H' dx v C f d μ'' q ((n1.nz k).tr (Nz.own ha nz n1.mem z hd)) hx (r'.zs fun b h => .inl h.1)⟩
end
/-! defs -/
section
variable {P : Program} {w : World} {K : PySem.W.Frag} {mg : Str → Option Value} {base : Heap} {x qual : Str} {stm : Stmt} {fa : Addr} {fd : FuncData} {N ps : List Str} {k : Nat} {R : List D → D → Prop} {Rx : List D → Addr → Str → D → Prop}
theorem raiseF_ok (F : Fun K x qual stm fa fd) (S : FnScope N ps (defScope stm)) (len : ∀ ds C f d, Rx ds C f d → ds.length = ps.length)
    (hb : ∀ (cdv : Value) (A : Around) (outer : List Env) (s : Shared) (H : Hp) (E : XK), Room k (A.deeper (PyProof.Rows.envOfC qual (defScope stm) s.heap.objs.size fa cdv)) →
      ∃ t, PSs (cxOf (L2.CX P w) P w K mg base N qual (defScope stm) fa cdv A outer s H E) (defBody stm) t ∧ ∀ ds C f d, Rx ds C f d → GSX t (rho0 N ds) [] (fun _ _ => False) (fun _ _ => False) (fun C' f' d' _ => C' = C ∧ f' = f ∧ d' = d) E) : FnOk P w K mg base (L2.CX P w) (k + 1) fa fd ps (spXF Rx) := by
  refine F.okX S (fun vs H Q E h => ?_) (fun cdv A outer s H vs Q E hr h => ?_)
  · obtain ⟨Z, ds, _, r, C, f, d, hR, _⟩ := h
    exact r.len.trans (len ds C f d hR)
  · obtain ⟨Z, ds, ok, r, C, f, d, hR, q⟩ := h
    obtain ⟨t, ht, hs⟩ := hb cdv A outer s H E hr
    refine ⟨t, ht, ?_⟩
    have s0 : SRep Z H (L2.start N vs) (rho0 N ds) := by
      unfold L2.start rho0
      rw [r.len]
      exact SRep.start r _
    refine hs ds C f d hR Z _ H _ ok s0 .nil (fun _ _ _ _ _ h => h.elim) (fun _ _ _ _ _ h => h.elim) fun Z' H' dx v C' f' d' μ' e z hx r' => ?_
    obtain ⟨rfl, rfl, rfl⟩ := e
    exact q H' dx v (fun a o ho => z.ext a o (by simp [dom]) ho) hx (r'.zs fun a h => .inl ((z.zk a h).resolve_right fun h => by simp [dom] at h))
theorem okBoth (F0 : FnOk P w K mg base CX0 k fa fd ps (spP R)) (F1 : FnOk P w K mg base (L2.CX P w) k fa fd ps (spXF Rx)) : FnOk P w K mg base (L2.CX P w) k fa fd ps (spF R Rx) := by
  have sp0 : ∀ {vs : List V} {H : Hp} {Q : VK} {E : XK}, spF R Rx vs H Q E → spP R vs H Q E ∨ spXF Rx vs H Q E := by
    rintro vs H Q E ⟨Z, ds, ok, r, ⟨d, hR, q⟩ | ⟨C, f, d, hR, q⟩⟩
    · exact .inl ⟨Z, ds, d, ok, r, hR, q⟩
    · exact .inr ⟨Z, ds, ok, r, C, f, d, hR, q⟩
  refine ⟨fun vs H Q E h => ?_, fun A outer s H args us vs Q E hr he hb hv hs => ?_⟩
  · rcases sp0 h with h | h
    · exact F0.len _ _ _ _ h
    · exact F1.len _ _ _ _ h
  · rcases sp0 hs with h | h
    · refine codeAny_mono (F0.run A outer s H args us vs Q E hr he hb hv h) fun r s' z => ?_
      cases r with
      | error e => exact False.elim z
      | ok fl => cases fl <;> exact z
    · exact F1.run A outer s H args us vs Q E hr he hb hv h
end
/-! f(lambda: ..), where f hands back what was borne by the error -/
def HsT (K : PySem.W.Frag) : List (Addr × Str × Str) → Value → Option Addr → Hp → VK → Prop
  | [], _, _, _, _ => False
  | (C, f, tag) :: l, cls, d, H, Q => ∃ b, PySem.W.exmOne K cls (.ref C) = some b ∧ (b = true → cls = .ref C ∧ ∃ dd fs v, d = some dd ∧ H dd = some (.xd fs) ∧ fs.lookup f = some v ∧ ∀ p, H p = none → Q (.ref p) (upd H p (.tup [.str tag, v]))) ∧ (b = false → HsT K l cls d H Q)
def TTr (K : PySem.W.Frag) (l : List (Addr × Str × Str)) (told : Str) (z : Int) : (XK → Hp → VK → Prop) → Hp → VK → Prop := fun tl H Q =>
  tl (fun cls d H' => HsT K l cls d H' Q) H fun _ H' => [V.str told, V.int z].length ≤ sizeLine ∧ ∀ p, H' p = none → Q (.ref p) (upd H' p (.tup [.str told, .int z]))
def tsC (i : Nat) (c : Addr × Str × Str) : Addr → Value → Option Addr → TS := fun a cls d => tRet (tTup (tCons (tC (.str c.2.2)) (tCons (tXf a cls d c.1 c.2.1 (tVar i)) tNil)))
theorem hsT_many {K : PySem.W.Frag} {i : Nat} {Wout : WX} {D : Ends} {cls : Value} {d : Option Addr} {σ : L2.St} {H : Hp} : ∀ {l : List (Addr × Str × Str)}, HsT K l cls d H D.rt → wManyAs K i Wout D (l.map fun c => (.ref c.1, tsC i c)) cls d σ H
  | [], h => h.elim
  | (C, f, tag) :: l, ⟨b, h1, h2, h3⟩ => ⟨b, h1, fun hb hi a ha => by
      obtain ⟨ec, dd, fs, v, ed, hd, hl, q⟩ := h2 hb
      exact ⟨.ref a, by rw [List.getElem?_set_self hi], rfl, ec, dd, fs, v, ed, hd, hl, by simp [sizeLine_eq], q⟩, fun hb => hsT_many (h3 hb)⟩
theorem tried_gives {X : Cx} {Ng : List Str} {x a n q : Str} {sg : Scope} {g : Addr} {cdg : Value} {i : Nat} {z : Int} {told : Str} {l : List (Addr × Str × Str)} {h₀ : ExceptHandler} {hds : List ExceptHandler} {st2 : Stmt} {p1 p2 p3 p8 : Pos}
    (hN : Ng.Nodup) (hi : Ng[i]? = some n) (hln : sg.names.lookup n = some .local) (h0 : ∀ f : Addr, (L2.start Ng [V.ref f])[0]? = some (some (V.ref f)))
    (hh : ∀ (s : Shared) (H : Hp), HdsAs (cxOf C8.CX0 X.prog X.w X.K X.mg X.base Ng x sg g cdg X.A X.stack s H C8.E0).nox n (h₀ :: hds) (l.map fun c => (.ref c.1, tsC i c)))
    (h2 : ∀ (s : Shared) (H : Hp), PSs (cxOf C8.CX0 X.prog X.w X.K X.mg X.base Ng x sg g cdg X.A X.stack s H C8.E0).nox [st2] (tRet (tTup (tCons (tC (.str told)) (tCons (tC (.int z)) tNil))))) :
    GivesTo X Ng x sg g cdg [.Try [.Expr (.Call (.Name a p1) [] [] p2) p3] (h₀ :: hds) [] [] p8, st2] a q (TTr X.K l told z) := by
  intro f c' s H Q tl act hc h
  refine ⟨_, pss_cons (ps_try_manyAs (X := (cxOf C8.CX0 X.prog X.w X.K X.mg X.base Ng x sg g cdg X.A X.stack s H C8.E0).nox) (i := i) (n := n)
      (tb := fun W D σ H => ∃ Ech : XK, (∀ cls d σ' H', Ech cls d H' → W cls d σ' H') ∧ σ[0]? = some (some (.ref f)) ∧ H c' = some (CodeO c' q) ∧ tl Ech H fun _ H' => D.nx σ H')
      rfl rfl hN hi hln L2.takes0 (fun W pn xe tk _ => ?_) (hh s H)) (h2 s H), ?_⟩
  · refine ⟨fun pins s' σ H' D I h' => ?_⟩
    obtain ⟨Ech, hW, h1, h2, h3⟩ := h'
    have hp := act W pn xe Ech p1 p2 tk hW
    have hq := pss_one (ps_expr (pos := p3) hp)
    exact hq.run pins s' σ H' D I ⟨h1, h2, h3⟩
  · refine ⟨fun cls d H' => HsT X.K l cls d H' Q, fun cls d σ' H' hs => ?_, h0 f, hc, ?_⟩
    · exact hsT_many hs
    · exact h
/-- the clause that takes errors of the class C is this one -/
def Hits (K : PySem.W.Frag) : List (Addr × Str × Str) → Addr → Str → Str → Prop
  | [], _, _, _ => False
  | (C', f', tag') :: l, C, f, tag => (C' = C ∧ f' = f ∧ tag' = tag ∧ PySem.W.exmOne K (.ref C) (.ref C) = some true) ∨ (PySem.W.exmOne K (.ref C) (.ref C') = some false ∧ Hits K l C f tag)
theorem hsT_of {K : PySem.W.Frag} {C dd : Addr} {f tag : Str} {v : V} {H : Hp} {Q : VK} (hd : H dd = some (.xd [(f, v)])) (q : ∀ p, H p = none → Q (.ref p) (upd H p (.tup [.str tag, v]))) : ∀ {l : List (Addr × Str × Str)}, Hits K l C f tag → HsT K l (.ref C) (some dd) H Q
  | [], h => h.elim
  | (C', f', tag') :: l, h => by
    rcases h with ⟨rfl, rfl, rfl, h⟩ | ⟨h1, h2⟩
    · exact ⟨true, h, fun _ => ⟨rfl, dd, _, v, rfl, hd, by simp [List.lookup], q⟩, (fun h => nomatch h)⟩
    · exact ⟨false, h1, (fun h => nomatch h), fun _ => hsT_of hd q h2⟩
theorem Nz.nxt {Z Z' : Addr → Prop} {H H' : Hp} {μ μ' : Mu} (e : μ'.map (·.1) = μ.map (·.1)) (z : Nz Z H μ Z' H' μ') : Nxt Z H μ H' μ' ∧ ∀ a, Z a → Z' a := by
  have zz : ∀ a, Z a → Z' a := fun a h => (z.zk a h).resolve_right fun h => h.2 (by have := h.1; unfold dom at this ⊢; rw [e]; exact this)
  exact ⟨⟨z.ext, e, ⟨fun p hp => by
    obtain ⟨z1, c1⟩ := z.mem.cs p hp
    exact ⟨z.zs _ z1, c1.zs zz⟩, z.mem.nd⟩⟩, zz⟩
theorem ge_tried {K : PySem.W.Frag} {ρ : Rho} {μ : Mu} {Φ : D → Mu → Prop} {Pt : Addr} {q told : Str} {z : Int} {l : List (Addr × Str × Str)} {t : XK → TE} (hP : (Pt, .str q) ∈ μ)
    (ht : ∀ E, GEX (t E) ρ μ (fun _ μ' => Φ (.tup [.str told, .int z]) μ') (fun C f d μ' => ∃ tag, Hits K l C f tag ∧ μ'.map (·.1) = μ.map (·.1) ∧ Φ (.tup [.str tag, d]) μ') E) : GE (tLamA Pt q (TTr K l told z) t) ρ μ Φ :=
  ge_lamA hP fun Z σ H Q k s m c => by
    refine ht _ Z σ H _ k s m (fun v H' d μ' φ nx r => ⟨by simp [sizeLine_eq], fun p hp => ?_⟩) fun Z' H' dx v C f d μ' ⟨tag, hh, e, φ⟩ nz hx r => hsT_of hx (fun p hp => ?_) hh
    · exact c _ _ _ μ' φ (nx.tr (.exs nx.mem (Ex.new hp))) (.tup ((nx.ok k).no hp) upd_same (.cons (.str _) (.cons (.int _) .nil)))
    · obtain ⟨nx, zz⟩ := nz.nxt e
      exact c _ _ _ μ' φ (nx.tr (.exs nx.mem (Ex.new hp))) (.tup ((nx.ok k).no hp) upd_same (.cons (.str _) (.cons ((r.zs fun a h => .inl (zz a h)).mono (Ext.new hp)) .nil)))
end Du
namespace Du
open PySem L2 PySem.Spec PyProof.Rows LamX
/-! == of plain things or of dicts by texts; {} as a datum -/
def rOr (r1 r2 : R2) : R2 := fun x y H Q => r1 x y H Q ∨ r2 x y H Q
section
variable {X : Cx}
theorem op_or {op : Value → Value → Sem Value} {r1 r2 : R2} (h1 : OpR X op r1) (h2 : OpR X op r2) : OpR X op (rOr r1 r2) := by
  intro pins s σ H x y v u Q I rx ry h
  rcases h with h | h
  · exact h1 pins s σ H x y v u Q I rx ry h
  · exact h2 pins s σ H x y v u Q I rx ry h
theorem k_eqDK {K : PySem.W.Frag} {k : Nat} (hK : X.K = K) (hr : Room k X.A) : OpR X (compareOp .Eq) (rOr (rEqD K) (rEqKV K)) := op_or (k_eq hK hr) (op_eqKV hK hr (by have := hr.un; omega))
end
theorem rd_orL {r1 r2 : R2} {d e z : D} (h : R2D r1 d e z) : R2D (rOr r1 r2) d e z := fun Z H x y Q k a b q => .inl (h Z H x y Q k a b q)
theorem rd_orR {r1 r2 : R2} {d e z : D} (h : R2D r2 d e z) : R2D (rOr r1 r2) d e z := fun Z H x y Q k a b q => .inr (h Z H x y Q k a b q)
theorem rd_eqK0 {K : PySem.W.Frag} : R2D (rEqKV K) (.dK []) (.dK []) (.bl true) := fun Z H x y Q k a b q => by
  cases a with
  | dK n h r => cases b with
    | dK n' h' r' =>
      cases r; cases r'
      exact ⟨_, _, [], [], fun _ => true, rfl, rfl, h, h', (fun p hp => by cases hp), q _ H (Ex.rf H) (.bl true)⟩
theorem ev_dK0 {ρ : Rho} : Ev tDNewK ρ (.dK []) := fun Z σ H Q k s q => fun p hp => q _ _ (Ex.new hp) (.dK (k.no hp) (.inl upd_same) .nil)
/-! f(lambda: ..) by its name -/
end Du
namespace Du
open PySem L2
def top (i : Nat) : Stmt := PySem.Challenge.pw_deedmeanings_k06_says_refused.main.body.getD i (.Pass ⟨0, 0, 0, 0⟩)
/-- what the top leaves unbound -/
structure Bn (mg : Str → Option Value) : Prop where
  len : mg "len" = none
  sorted : mg "sorted" = none
  set : mg "set" = none
  str : mg "str" = none
  int : mg "int" = none
  tuple : mg "tuple" = none
  list : mg "list" = none
  any : mg "any" = none
  all : mg "all" = none
  isinstance : mg "isinstance" = none
  range : mg "range" = none
  zip : mg "zip" = none
  bool : mg "bool" = none
  dict : mg "dict" = none
  enumerate : mg "enumerate" = none
  repr : mg "repr" = none
/-! the sets of some names -/
def choices : List Str → List (List Str)
  | [] => [[]]
  | n :: ns => [[]] ++ (choices ns).map (n :: ·) ++ (choices ns).drop 1
theorem choices_len : ∀ ns : List Str, (choices ns).length = 2 ^ ns.length
  | [] => rfl
  | n :: ns => by
    have ih := choices_len ns
    have hp : 0 < 2 ^ ns.length := Nat.pow_pos (by decide)
    simp only [choices, List.length_append, List.length_map, List.length_drop, List.length_cons, List.length_nil, ih, Nat.pow_succ]
    omega
theorem choices_pos (ns : List Str) : 0 < (choices ns).length := by rw [choices_len]; exact Nat.pow_pos (by decide)
theorem choices_le {ns : List Str} (h : ns.length ≤ 12) : (choices ns).length ≤ 4096 := by rw [choices_len]; exact Nat.pow_le_pow_right (n := 2) (by decide) h
theorem choices_sub : ∀ {ns r : List Str}, r ∈ choices ns → r.Sublist ns
  | [], r, h => by simp [choices] at h; subst h; exact .slnil
  | n :: ns, r, h => by
    simp only [choices, List.mem_append, List.mem_singleton, List.mem_map] at h
    rcases h with (rfl | ⟨q, hq, rfl⟩) | h
    · exact List.nil_sublist _
    · exact (choices_sub hq).cons_cons n
    · exact (choices_sub (List.mem_of_mem_drop h)).cons n
theorem choices_mem_len {ns r : List Str} (h : r ∈ choices ns) : r.length ≤ ns.length := (choices_sub h).length_le
abbrev lS (ss : List Str) : D := .lst (ss.map D.str)
abbrev lR (rs : List (List Str)) : D := .lst (rs.map tS)
def RChoices (ds : List D) (d : D) : Prop := ∃ ns : List Str, (ds = [lS ns] ∨ ds = [tS ns]) ∧ ns.length ≤ 12 ∧ d = lR (choices ns)
section
variable {P : Program} {w : World} {K : PySem.W.Frag} {mg : Str → Option Value} {base : Heap}
abbrev s_choices_of : Stmt := top 6
abbrev n_choices_of : List Str := ["names", "found", "name", "some"]
theorem sc_choices_of : FnScope n_choices_of ["names"] (defScope s_choices_of) := ⟨rfl, rfl, rfl, by decide +kernel, rfl, by decide +kernel, by decide +kernel⟩

theorem ok_choices_of {f : Addr} {fd : FuncData} (F : Fun K "choices_of" "choices_of" s_choices_of f fd) (T : Bn mg) : FnOk P w K mg base CX0 1 f fd ["names"] (spP RChoices) := by
  refine pure_ok F sc_choices_of (fun ds d h => ?_) (fun cdv A outer s H E hr => ?_)
  · obtain ⟨ns, rfl | rfl, _⟩ := h <;> rfl
  · refine ⟨_, (pss_cons (ps_set (i := 1) sc_choices_of.nd rfl (by first | exact Or.inl rfl | exact Or.inr rfl) (pe_lst (pa_cons (pe_tup pa_nil) pa_nil))) (pss_cons (ps_for PassesOwn.never rfl (k_seq (K := K) rfl (k_rev (K := K) rfl (pv 0))) (pg_name (i := 2) sc_choices_of.nd rfl (by first | exact Or.inl rfl | exact Or.inr rfl)) (pss_one (ps_set (i := 1) sc_choices_of.nd rfl (by first | exact Or.inl rfl | exact Or.inr rfl) (pe_op (k_addU (K := K) rfl) (pe_op (k_addU (K := K) rfl) (pe_lst (pa_cons (pe_tup pa_nil) pa_nil)) (pe_lc (own := [("some", 3)]) rfl sc_choices_of.nd (k_seq (K := K) rfl (pv 1)) (blkOk_by (own := [("some", 3)]) (N := n_choices_of) (sc := defScope s_choices_of) (by decide +kernel)) (fun _ _ _ _ _ => (pg_name (i := 3) sc_choices_of.nd rfl (by first | exact Or.inl rfl | exact Or.inr rfl))) (fun _ _ _ _ _ => pts_nil) (fun _ _ _ _ _ => (pe_tup (pa_cons (pv 2) (k_star (K := K) rfl (pv 3) pa_nil)))))) (pe_slice (k_sl (K := K) rfl) (pv 1) (po_some pe_int) po_none))))) (pss_one (ps_ret (pv 1))))), ?_⟩
    intro ds d h
    obtain ⟨ns, hds, hn, rfl⟩ := h
    obtain ⟨d0, rfl, hI⟩ : ∃ d0, ds = [d0] ∧ EvI (iSeq K (tRev K (tVar 0))) [some d0, some (lR [[]]), none, none] (ns.map D.str).reverse := by
      rcases hds with rfl | rfl
      · exact ⟨_, rfl, ei_seqL (ev_revL (ev_var rfl))⟩
      · exact ⟨_, rfl, ei_seqT (ev_revT (ev_var rfl))⟩
    · refine .inl (st_seq (st_asg (d := lR [[]]) (ev_lst (ev_cons (ev_tup ev_nil (by decide)) ev_nil) (by decide)) ga_name) (st_seq
        (st_for (fun i => [some d0, some (lR (choices (ns.drop (ns.length - i)))), none, none]) hI ?_ ?_) (st_ret (ev_var ?_))))
      · simp only [Nat.sub_zero, List.drop_length]; exact Lq.rf _
      · intro i d hd
        have hi : i < ns.length := by
          have := (List.getElem?_eq_some_iff.mp hd).1
          simpa using this
        have hj : ns.length - (i + 1) < ns.length := by omega
        have hx : d = .str ns[ns.length - (i + 1)] := by
          have : (ns.map D.str).reverse[i]? = some (D.str ns[ns.length - (i + 1)]) := by
            rw [List.getElem?_reverse (by simpa using hi), List.length_map, List.getElem?_map, show ns.length - 1 - i = ns.length - (i + 1) from by omega, List.getElem?_eq_getElem hj]; rfl
          rw [this] at hd; exact (Option.some.inj hd).symm
        have hdr : ns.drop (ns.length - (i + 1)) = ns[ns.length - (i + 1)] :: ns.drop (ns.length - i) := by
          rw [List.drop_eq_getElem_cons hj, show ns.length - (i + 1) + 1 = ns.length - i from by omega]
        generalize ns[ns.length - (i + 1)] = n at hx hdr
        subst hx
        have hl : (ns.drop (ns.length - i)).length ≤ 12 := by rw [List.length_drop]; omega
        rw [hdr]
        generalize ns.drop (ns.length - i) = rest at hl
        have hc := choices_le hl
        refine ⟨_, _, ga_name, st_asg (d := lR (choices (n :: rest))) ?_ ga_name, ?_⟩
        · have e : lR (choices (n :: rest)) = .lst (([.tup []] ++ (choices rest).map fun r => .tup (.str n :: (r.map D.str ++ []))) ++ ((choices rest).map tS).drop 1) := by
            simp [choices, lR, tS, List.map_drop]
          rw [e]
          refine ev_op (ev_op (ev_lst (ev_cons (ev_tup ev_nil (by decide)) ev_nil) (by decide)) (ev_lc1 (φ := tS) (ei_seqL (ev_var rfl)) (by omega) fun r hr => ⟨_, gw_name (by simp), ev_tup (ev_cons (ev_var rfl) (ev_starT (ev_var rfl) ev_nil)) ?_⟩) (rd_addL ?_)) (ev_cut1 (n := 1) (ev_var rfl) (eo_some ev_int) eo_none ?_) (rd_addL ?_)
          · have := choices_mem_len hr; simp; omega
          · simp; omega
          · have := choices_pos rest; simp; omega
          · simp; omega
        · exact .keep (.keep (.skip (.skip .nil)))
      · simp
end
end Du
namespace Du
open PySem L2
section
variable {P : Program} {w : World} {K : PySem.W.Frag} {mg : Str → Option Value} {base : Heap}
abbrev s_law_draw : Stmt := top 24
abbrev n_law_draw : List Str := ["_law_spring_here", "_law_many", "_law_mixed", "_law_cell", "_law_digit"]
theorem sc_law_draw : FnScope n_law_draw ["_law_spring_here", "_law_many"] (defScope s_law_draw) := ⟨rfl, rfl, rfl, by decide +kernel, rfl, by decide +kernel, by decide +kernel⟩

def spr (a c : Addr) (cs : List Int) (r n m : Int) : Mu := [(a, .lst [.ptr c, .int r, .int n, .int m]), (c, .lst (cs.map D.int))]
def SprOk (r n m : Int) (N : Nat) : Prop := 0 ≤ r ∧ 0 ≤ n ∧ n ≤ N ∧ 0 ≤ m ∧ m < 2147483647
def SpS (a c : Addr) (N : Nat) (μ : Mu) : Prop := ∃ (cs : List Int) (r n m : Int), μ = spr a c cs r n m ∧ SprOk r n m N
theorem SpS.up {a c : Addr} {N M : Nat} {μ : Mu} (h : SpS a c N μ) (hn : N ≤ M) : SpS a c M μ := by
  obtain ⟨cs, r, n, m, e, h1, h2, h3, h4, h5⟩ := h
  exact ⟨cs, r, n, m, e, h1, h2, by omega, h4, h5⟩
theorem SpS.fst {a c : Addr} {N : Nat} {μ : Mu} (h : SpS a c N μ) : μ.map (·.1) = [a, c] := by
  obtain ⟨cs, r, n, m, rfl, _⟩ := h; rfl
def RDraw (ds : List D) (μ : Mu) (Φ : D → Mu → Prop) : Prop := ∃ (a c : Addr) (N k : Nat), ds = [.ptr a, .int k] ∧ SpS a c N μ ∧ N < 100000 ∧ 0 < k ∧ k < 100000 ∧
  ∀ (μ' : Mu) (d : Nat), SpS a c (N + 1) μ' → d < k → Φ (.int d) μ'
theorem rd_pow {i j : Int} (h : CPow i j) : R2D (rI CPow fun i j => .int (i ^ j.toNat)) (.int i) (.int j) (.int (i ^ j.toNat)) := fun Z H x y Q k r1 r2 q => by
  cases r1; cases r2; exact ⟨i, j, rfl, rfl, h, q _ H (Ex.rf H) (.int _)⟩
theorem rd_fdiv {i j : Int} (h : CDiv i j) : R2D (rI CDiv fun i j => .int (i / j)) (.int i) (.int j) (.int (i / j)) := fun Z H x y Q k r1 r2 q => by
  cases r1; cases r2; exact ⟨i, j, rfl, rfl, h, q _ H (Ex.rf H) (.int _)⟩
theorem rd_gt {i j : Int} : R2D (rI0 fun i j => .bl (decide (j < i))) (.int i) (.int j) (.bl (decide (j < i))) := rd_I0 (z := fun i j => .bl (decide (j < i))) fun _ _ => .bl _
theorem rd_ge {i j : Int} : R2D (rI0 fun i j => .bl (decide (j ≤ i))) (.int i) (.int j) (.bl (decide (j ≤ i))) := rd_I0 (z := fun i j => .bl (decide (j ≤ i))) fun _ _ => .bl _
theorem okE_ints (cs : List Int) : okE (.lst (cs.map D.int)) := (okN_lst (n := 0) fun d hd => by obtain ⟨i, _, rfl⟩ := List.mem_map.mp hd; exact okN_int).e (by decide)
theorem ge_rd {ρ : Rho} {K : PySem.W.Frag} {a c : Addr} {cs : List Int} {r n m : Int} {Φ : D → Mu → Prop} (j : Nat) {z : D} (h0 : ρ[0]? = some (some (.ptr a))) (hz : [D.ptr c, .int r, .int n, .int m][j]? = some z) (q : Φ z (spr a c cs r n m)) : GE (tOp (rIx K) (tVar 0) (tC (.int (j : Int)))) ρ (spr a c cs r n m) Φ :=
  ge_ixO (ge_ev (ev_var h0) (ge_ev ev_int ⟨a, 0, _, j, z, rfl, rfl, rfl, hz, q⟩))
theorem gs_wr {ρ : Rho} {a c : Addr} {te : TE} {μ : Mu} {N : Rho → Mu → Prop} {R : D → Mu → Prop} (j : Nat) (h0 : ρ[0]? = some (some (.ptr a))) (hj : j < 4) (h : GE te ρ μ fun v μ1 => ∃ cs r n m, μ1 = spr a c cs r n m ∧ N ρ [(a, .lst ([D.ptr c, .int r, .int n, .int m].set j v)), (c, .lst (cs.map D.int))]) : GS (tAsg te (gSub (tVar 0) (tC (.int (j : Int))) rSetL)) ρ μ N R :=
  gs_setO (h.mono fun v μ1 ⟨cs, r, n, m, e, q⟩ => by subst e; exact ge_ev (ev_var h0) (ge_ev ev_int ⟨a, 0, _, j, rfl, rfl, rfl, hj, q⟩))
theorem ok_law_draw {f : Addr} {fd : FuncData} (F : Fun K "_law_draw" "_law_draw" s_law_draw f fd) (T : Bn mg) : FnOk P w K mg base CX0 1 f fd ["_law_spring_here", "_law_many"] (spM RDraw) := by
  refine eff_ok F sc_law_draw (fun ds μ Φ h => ?_) (fun cdv A outer s H E hr => ?_)
  · obtain ⟨a, c, N, k, rfl, _⟩ := h; rfl
  · refine ⟨_, (pss_cons (ps_asg (pe_op (k_addU (K := K) rfl) (pe_ix (k_ix (K := K) rfl) (pv 0) pe_int (fun _ _ => rfl)) pe_int) (pg_sub (pv 0) pe_int set_list)) (pss_cons (ps_if (PW.pt (pw_and (pt_cmpR (k_eq (K := K) rfl hr) (pe_ix (k_ix (K := K) rfl) (pv 0) pe_int (fun _ _ => rfl)) pe_int (nomark _)) (pw_and1 (pt_cmpR (k_ne (K := K) rfl hr) (pe_ix (k_ix (K := K) rfl) (pv 0) pe_int (fun _ _ => rfl)) (pe_lst pa_nil) (nomark _))))) (pss_cons (ps_set (i := 3) sc_law_draw.nd rfl (by first | exact Or.inl rfl | exact Or.inr rfl) (k_bm (K := K) rfl PySem.F.plainAttrs_list PySem.F.slot_list_pop PySem.F.type_list_pop mt_popAt (pe_ix (k_ix (K := K) rfl) (pv 0) pe_int (fun _ _ => rfl)) (pa_cons pe_int pa_nil))) (pss_cons (ps_asg (pe_op op_mod (pe_callTy call_int1 (by rfl) T.int (by decide +kernel) (pa_cons (pe_op (k_addU (K := K) rfl) (pe_op (k_addU (K := K) rfl) (pe_op op_mulU (pe_ix (k_ix (K := K) rfl) (pv 0) pe_int (fun _ _ => rfl)) pe_int) (pv 3)) pe_int) pa_nil)) pe_int) (pg_sub (pv 0) pe_int set_list)) (pss_one (ps_if (pt_cmpR op_ge (pv 3) (pe_op op_pow pe_int pe_int) (nomark _)) (pss_one (ps_asg (pv 3) (pg_sub (pv 0) pe_int set_list))) pss_nil)))) pss_nil) (pss_cons (ps_if (pt_cmpR op_gt (pe_ix (k_ix (K := K) rfl) (pv 0) pe_int (fun _ _ => rfl)) pe_int (nomark _)) (pss_cons (ps_set (i := 4) sc_law_draw.nd rfl (by first | exact Or.inl rfl | exact Or.inr rfl) (pe_op op_mod (pe_callTy call_int1 (by rfl) T.int (by decide +kernel) (pa_cons (pe_ix (k_ix (K := K) rfl) (pv 0) pe_int (fun _ _ => rfl)) pa_nil)) (pv 1))) (pss_cons (ps_asg (pe_op op_fdiv (pe_ix (k_ix (K := K) rfl) (pv 0) pe_int (fun _ _ => rfl)) (pv 1)) (pg_sub (pv 0) pe_int set_list)) (pss_one (ps_ret (pv 4))))) pss_nil) (pss_cons (ps_set (i := 2) sc_law_draw.nd rfl (by first | exact Or.inl rfl | exact Or.inr rfl) (pe_op op_mod (pe_callTy call_int1 (by rfl) T.int (by decide +kernel) (pa_cons (pe_op op_pow (pe_op (k_addU (K := K) rfl) (pe_op (k_addU (K := K) rfl) (pe_ix (k_ix (K := K) rfl) (pv 0) pe_int (fun _ _ => rfl)) (pe_op op_mulU pe_int (pe_ix (k_ix (K := K) rfl) (pv 0) pe_int (fun _ _ => rfl)))) pe_int) pe_int) pa_nil)) pe_int)) (pss_cons (ps_set (i := 2) sc_law_draw.nd rfl (by first | exact Or.inl rfl | exact Or.inr rfl) (pe_op (k_addU (K := K) rfl) (pe_op (k_addU (K := K) rfl) (pe_op op_mulU (pv 2) pe_int) (pe_op op_mulU (pe_op op_mulU pe_int (pe_ix (k_ix (K := K) rfl) (pv 0) pe_int (fun _ _ => rfl))) (pe_ix (k_ix (K := K) rfl) (pv 0) pe_int (fun _ _ => rfl)))) pe_int)) (pss_one (ps_ret (pe_op op_mod (pe_op op_mod (pe_callTy call_int1 (by rfl) T.int (by decide +kernel) (pa_cons (pe_op op_pow (pv 2) pe_int) pa_nil)) pe_int) (pv 1))))))))), ?_⟩
    intro ds μ Φ h
    obtain ⟨a, c, N, k, rfl, ⟨cs, r, n, m, rfl, ⟨hr0, hn0, hnN, hm0, hm1⟩⟩, hN, hk0, hk1, q0⟩ := h
    have q : ∀ (cs' : List Int) (r' n' m' : Int) (d : Nat), SprOk r' n' m' (N + 1) → d < k → Φ (.int d) (spr a c cs' r' n' m') := fun cs' r' n' m' d ok hd => q0 _ d ⟨cs', r', n', m', rfl, ok⟩ hd
    refine gs_seq (gs_wr (a := a) (c := c) 2 rfl (by decide) (ge_op (ge_rd 2 rfl rfl (ge_ev ev_int ⟨_, rd_addI, cs, r, n, m, rfl, ?_⟩))))
    refine gs_mid (fun ρ' μ' => ∃ o3 cs' r' m', ρ' = [some (.ptr a), some (.int k), none, o3, none] ∧ μ' = spr a c cs' r' (n + 1) m' ∧ 0 ≤ r' ∧ 0 ≤ m' ∧ m' < 2147483647) (gs_if ?_) ?_
    · refine gt_and (gt_test (ge_op (ge_rd 1 rfl rfl (ge_ev ev_int ⟨_, rd_eq ok_int ok_int, _, rfl, ?_⟩))))
      rw [eqD_int]
      by_cases h : r = 0
      · rw [if_pos (by simpa using h)]
        refine gt_test (ge_opO (ge_rd 0 rfl rfl (ge_ev (ev_lst ev_nil (by decide)) ⟨c, 1, _, _, rfl, rfl, rd_ne (okE_ints cs) (okE_ints []), rfl, _, rfl, ?_⟩)))
        rw [eqD_lst0]
        cases cs with
        | nil => exact gs_next ⟨none, [], r, m, rfl, rfl, hr0, hm0, hm1⟩
        | cons x cs =>
          rw [if_pos (by rfl)]
          refine gs_seq (gs_asg (ge_popO (ge_rd 0 rfl rfl ⟨c, 1, _, rfl, rfl, gea_ev (ev_cons ev_int ev_nil) ⟨_, 0, _, rfl, rfl, by decide, rfl, ?_⟩⟩)))
          refine gs_seq (gs_wr (a := a) (c := c) 3 rfl (by decide) (ge_op (ge_cb (gea_cons (ge_op (ge_op (ge_op (ge_rd (cs := cs) 3 rfl rfl (ge_ev ev_int ⟨_, rd_mulI (.inr ⟨by decide, by decide⟩), ge_ev (ev_var rfl) ⟨_, rd_addI, ge_ev ev_int ⟨_, rd_addI, gea_nil ⟨_, rl_intI, ge_ev ev_int ⟨_, rd_mod (by decide), cs, r, n + 1, m, rfl, ?_⟩⟩⟩⟩⟩)))))))))
          have hmm := Int.emod_nonneg (m * 4099 + x + 13) (show (2147483647 : Int) ≠ 0 by decide)
          have hml := Int.emod_lt_of_pos (m * 4099 + x + 13) (show (0 : Int) < 2147483647 by decide)
          refine gs_if (gt_test (ge_ev (ev_op (ev_var rfl) (ev_op ev_int ev_int (rd_pow ⟨by decide, by decide, by decide⟩)) rd_ge) ⟨_, rfl, ?_⟩))
          by_cases hx : (10 : Int) ^ 18 ≤ x
          · rw [if_pos (by simpa using hx)]
            refine gs_wr (a := a) (c := c) 1 rfl (by decide) (ge_ev (ev_var rfl) ⟨cs, r, n + 1, _, rfl, some (.int x), cs, x, _, rfl, rfl, ?_, hmm, hml⟩)
            have : (0 : Int) ≤ 10 ^ 18 := by decide
            omega
          · rw [if_neg (by simpa using hx)]
            exact gs_next ⟨some (.int x), cs, r, _, rfl, rfl, hr0, hmm, hml⟩
      · rw [if_neg (by simpa using h)]
        exact gs_next ⟨none, cs, r, m, rfl, rfl, hr0, hm0, hm1⟩
    · rintro ρ' μ' ⟨o3, cs', r', m', rfl, rfl, hr', hm0', hm1'⟩
      have okf : ∀ r'', 0 ≤ r'' → SprOk r'' (n + 1) m' (N + 1) := fun r'' h => ⟨h, by omega, by omega, hm0', hm1'⟩
      refine gs_mid (fun ρ' μ' => ρ' = [some (.ptr a), some (.int k), none, o3, none] ∧ μ' = spr a c cs' r' (n + 1) m') (gs_if (gt_test (ge_op (ge_rd 1 rfl rfl (ge_ev ev_int ⟨_, rd_gt, _, rfl, ?_⟩))))) ?_
      · by_cases h : 0 < r'
        · rw [if_pos (by simpa using h)]
          refine gs_seq (gs_asg (ge_op (ge_cb (gea_cons (ge_rd 1 rfl rfl (gea_nil ⟨_, rl_intI, ge_ev (ev_var rfl) ⟨_, rd_mod (by omega), ?_⟩⟩))))))
          refine gs_seq (gs_wr (a := a) (c := c) 1 rfl (by decide) (ge_op (ge_rd 1 rfl rfl (ge_ev (ev_var rfl) ⟨_, rd_fdiv ⟨by omega, by omega⟩, cs', r', n + 1, m', rfl, ?_⟩))))
          have e : r' % (k : Int) = ((r'.toNat % k : Nat) : Int) := by rw [Int.natCast_emod, Int.toNat_of_nonneg hr']
          have qq := q cs' (r' / k) (n + 1) m' (r'.toNat % k) (okf _ (Int.ediv_nonneg hr' (by omega))) (Nat.mod_lt _ hk0)
          rw [← e] at qq
          exact gs_ret (ge_ev (ev_var rfl) ⟨rfl, qq⟩)
        · rw [if_neg (by simpa using h)]
          exact gs_next ⟨rfl, rfl⟩
      · rintro ρ' μ' ⟨rfl, rfl⟩
        have hp : CPow (m' + 7919 * (n + 1) + 104729) 5 := ⟨by decide, by decide, by omega⟩
        refine gs_seq (gs_asg (ge_op (ge_cb (gea_cons (ge_op (ge_op (ge_op (ge_rd 3 rfl rfl (ge_op (ge_ev ev_int (ge_rd 2 rfl rfl ⟨_, rd_mulI (.inl ⟨by decide, by decide⟩), _, rd_addI, ge_ev ev_int ⟨_, rd_addI, ge_ev ev_int ⟨_, rd_pow hp, gea_nil ⟨_, rl_intI, ge_ev ev_int ⟨_, rd_mod (by decide), ?_⟩⟩⟩⟩⟩)))))))))))
        generalize hX : (m' + 7919 * (n + 1) + 104729) ^ (5 : Int).toNat % 2147483629 = X
        have hX0 : 0 ≤ X := by rw [← hX]; exact Int.emod_nonneg _ (by decide)
        have hX1 : X < 2147483629 := by rw [← hX]; exact Int.emod_lt_of_pos _ (by decide)
        have hnn : 0 ≤ (n + 1) * (n + 1) ∧ (n + 1) * (n + 1) ≤ 100001 * 100001 := ⟨Int.mul_nonneg (by omega) (by omega), Int.mul_le_mul (by omega) (by omega) (by omega) (by omega)⟩
        have hmul : 40503 * (n + 1) * (n + 1) = 40503 * ((n + 1) * (n + 1)) := Int.mul_assoc _ _ _
        refine gs_seq (gs_asg (ge_op (ge_op (ge_ev (ev_op (ev_var rfl) ev_int (rd_mulI (.inr ⟨by decide, by decide⟩))) (ge_op (ge_op (ge_ev ev_int (ge_rd 2 rfl rfl ⟨_, rd_mulI (.inl ⟨by decide, by decide⟩), ge_rd 2 rfl rfl ⟨_, rd_mulI (.inr ⟨by omega, by omega⟩), _, rd_addI, ge_ev ev_int ⟨_, rd_addI, ?_⟩⟩⟩))))))))
        have hp3 : CPow (X * 48271 + 40503 * (n + 1) * (n + 1) + 29) 3 := ⟨by decide, by decide, by omega⟩
        refine gs_ret (ge_ev (ev_op (ev_op (ev_cb (ev_cons (ev_op (ev_var rfl) ev_int (rd_pow hp3)) ev_nil) rl_intI) ev_int (rd_mod (by decide))) (ev_var rfl) (rd_mod (by omega))) ⟨rfl, ?_⟩)
        generalize (X * 48271 + 40503 * (n + 1) * (n + 1) + 29) ^ (3 : Int).toNat % 1000000007 = Y
        have hk' : (0 : Int) < k := by omega
        have e1 := Int.emod_nonneg Y (show (k : Int) ≠ 0 by omega)
        have e2 := Int.emod_lt_of_pos Y hk'
        have e : Y % (k : Int) = (((Y % (k : Int)).toNat : Nat) : Int) := (Int.toNat_of_nonneg e1).symm
        rw [e]
        exact q cs' r' (n + 1) m' _ (okf _ hr') (by omega)
end
end Du
namespace Du
open PySem L2
/-! the class Say in data -/
def SayD (C : Addr) (ns : List Str) (ps : List (List Str)) : D := .ins C [("names", tS ns), ("points", .tup (ps.map tS))]
structure Tx (K : PySem.W.Frag) (mg : Str → Option Value) (C : Addr) : Prop extends Bn mg where
  g_Say : mg "Say" = some (.ref C)
  cl : Cls K C
  nN : NoAttr K C "names"
  nP : NoAttr K C "points"
  g_LETTERS : ∃ t, mg "LETTERS" = some (.str "abcdefghijklmnopqrstuvwxyz" t)
  g_LONGEST : ∃ t, mg "LONGEST" = some (.int 8 t)
  ic : PySem.W.findIn K (.ref C) "__class__" = some (some (.builtin "object.__class__"))
  isg : PySem.W.specialIn K (.builtin "object.__class__") "__get__" = some (some (.builtin "getset_descriptor.__get__"))
  itk : PySem.W.takesIn K (.builtin "object.__class__") = some true
  imr : PySem.W.mroIn K C (.type "object") = some true
abbrev okS (ns : List Str) : Prop := ∀ s ∈ ns, PyData.strOk s = true
theorem okE_tS {ns : List Str} (h : okS ns) : okN 1 (tS ns) := okN_tup (n := 0) fun d hd => by obtain ⟨s, hs, rfl⟩ := List.mem_map.mp hd; exact okN_str (h s hs)
theorem okE_lS {ns : List Str} (h : okS ns) : okN 1 (lS ns) := okN_lst (n := 0) fun d hd => by obtain ⟨s, hs, rfl⟩ := List.mem_map.mp hd; exact okN_str (h s hs)
theorem okE_lR {ps : List (List Str)} (h : ∀ p ∈ ps, okS p) : okN 2 (lR ps) := okN_lst (n := 1) fun d hd => by obtain ⟨s, hs, rfl⟩ := List.mem_map.mp hd; exact okE_tS (h s hs)
theorem okE_tR {ps : List (List Str)} (h : ∀ p ∈ ps, okS p) : okN 2 (.tup (ps.map tS)) := okN_tup (n := 1) fun d hd => by obtain ⟨s, hs, rfl⟩ := List.mem_map.mp hd; exact okE_tS (h s hs)
section
variable {P : Program} {w : World} {K : PySem.W.Frag} {mg : Str → Option Value} {base : Heap} {C : Addr}
/-! set_to -/
def setTo (row : List Str) (name : Str) (b : Bool) : List Str := srt (row.filter (fun o => !decide (o = name)) ++ if b then [name] else [])
def RSetTo (ds : List D) (d : D) : Prop := ∃ (row : List Str) (name : Str) (b : Bool), ds = [tS row, .str name, .bl b] ∧ row.length ≤ 20 ∧ okS row ∧ PyData.strOk name = true ∧ d = tS (setTo row name b)
abbrev s_set_to : Stmt := top 14
abbrev n_set_to : List Str := ["row", "name", "truth", "every", "one"]
theorem sc_set_to : FnScope n_set_to ["row", "name", "truth"] (defScope s_set_to) := ⟨rfl, rfl, rfl, by decide +kernel, rfl, by decide +kernel, by decide +kernel⟩

theorem ok_set_to {f : Addr} {fd : FuncData} (F : Fun K "set_to" "set_to" s_set_to f fd) (T : Bn mg) : FnOk P w K mg base CX0 1 f fd ["row", "name", "truth"] (spP RSetTo) := by
  refine pure_ok F sc_set_to (fun ds d h => ?_) (fun cdv A outer s H E hr => ?_)
  · obtain ⟨row, name, b, rfl, _⟩ := h; rfl
  · refine ⟨_, (pss_cons (ps_set (i := 3) sc_set_to.nd rfl (by first | exact Or.inl rfl | exact Or.inr rfl) (pe_op (k_addU (K := K) rfl) (pe_lc (own := [("one", 4)]) rfl sc_set_to.nd (k_seq (K := K) rfl (pv 0)) (blkOk_by (own := [("one", 4)]) (N := n_set_to) (sc := defScope s_set_to) (by decide +kernel)) (fun _ _ _ _ _ => (pg_name (i := 4) sc_set_to.nd rfl (by first | exact Or.inl rfl | exact Or.inr rfl))) (fun _ _ _ _ _ => pts_one (pt_cmpR (k_ne (K := K) rfl hr) (pv 4) (pv 1) (nomark _))) (fun _ _ _ _ _ => (pv 4))) (pe_op op_mulU (pe_lst (pa_cons (pv 1) pa_nil)) (pe_callTy call_int1 (by rfl) T.int (by decide +kernel) (pa_cons (pv 2) pa_nil))))) (pss_one (ps_ret (k_tupleOf (K := K) rfl (by rfl) T.tuple (pe_callB (k_sortedS (K := K) rfl) (by rfl) T.sorted (by decide +kernel) (pa_cons (pe_lc (own := [("one", 4)]) rfl sc_set_to.nd (k_seq (K := K) rfl (pv 3)) (blkOk_by (own := [("one", 4)]) (N := n_set_to) (sc := defScope s_set_to) (by decide +kernel)) (fun _ _ _ _ _ => (pg_name (i := 4) sc_set_to.nd rfl (by first | exact Or.inl rfl | exact Or.inr rfl))) (fun _ _ _ _ _ => pts_nil) (fun _ _ _ _ _ => (pe_callTy SkE.call_str_str (by rfl) T.str (by decide +kernel) (pa_cons (pv 4) pa_nil)))) pa_nil)))))), ?_⟩
    intro ds d h
    obtain ⟨row, name, b, rfl, hl, ho, hn, rfl⟩ := h
    have hfl := List.length_filter_le (fun o => !decide (o = name)) row
    have e : lS (row.filter (fun o => !decide (o = name)) ++ if b then [name] else []) = .lst ((row.filter fun o => !eqD (.str o) (.str name)).map D.str ++ (List.replicate (if b then 1 else 0) [D.str name]).flatten) := by
      have e1 : (fun o : Str => !eqD (.str o) (.str name)) = fun o => !decide (o = name) := by funext o; rw [eqD_str]
      rw [e1]
      cases b <;> simp [lS]
    refine .inl (st_seq (st_asg (d := lS (row.filter (fun o => !decide (o = name)) ++ if b then [name] else [])) (e ▸ ev_op (ev_lc (φ := D.str) (ei_seqT (ev_var rfl)) (by omega) fun r hr => ⟨_, gw_name (by simp), et_test (ev_op (ev_var rfl) (ev_var rfl) (rd_ne (ok_str (ho r hr)) (ok_str hn))), fun _ => ev_var rfl⟩)
      (ev_op (ev_lst (ev_cons (ev_var rfl) ev_nil) (by simp)) (ev_cb (ev_cons (ev_var rfl) ev_nil) rl_intB) (rd_rep (by cases b <;> decide) (by cases b <;> simp))) (rd_addL ?_)) ga_name)
      (st_ret (ev_then (ev_cb (ev_cons (ev_lc1 (φ := D.str) (fe := D.str) (ei_seqL (ev_var rfl)) ?_ fun r hr => ⟨_, gw_name (by simp), ev_cb (ev_cons (ev_var rfl) ev_nil) rl_str⟩) ev_nil) (rl_sorted ?_)) r1_tupL)))
    · have := List.length_filter_le (fun o => !eqD (.str o) (.str name)) row
      cases b <;> simp <;> omega
    · cases b <;> simp <;> omega
    · cases b <;> simp <;> omega
/-! Say.__init__ -/
def RInit (C : Addr) (ds : List D) (μ : Mu) (Φ : D → Mu → Prop) : Prop := ∃ (p : Addr) (ns : List Str) (ps : List (List Str)), ds = [.ptr p, lS ns, lR ps] ∧ μ = [(p, .ins C [])] ∧ Φ .non [(p, SayD C ns ps)]
abbrev s_Say_init : Stmt := inClass (top 21) 0
abbrev n_Say_init : List Str := ["self", "names", "points"]
theorem sc_Say_init : FnScope n_Say_init ["self", "names", "points"] (defScope s_Say_init) := ⟨rfl, rfl, rfl, by decide +kernel, rfl, by decide +kernel, by decide +kernel⟩

theorem ok_Say_init {f : Addr} {fd : FuncData} (F : Fun K "__init__" "Say.__init__" s_Say_init f fd) (T : Tx K mg C) : FnOk P w K mg base CX0 1 f fd ["self", "names", "points"] (spM (RInit C)) := by
  refine eff_ok F sc_Say_init (fun ds μ Φ h => ?_) (fun cdv A outer s H E hr => ?_)
  · obtain ⟨p, ns, ps, rfl, _⟩ := h; rfl
  · refine ⟨_, (pss_cons (ps_fld (pv 0) (k_tupleOf (K := K) rfl (by rfl) T.tuple (pv 1)) rfl) (pss_one (ps_fld (pv 0) (k_tupleOf (K := K) rfl (by rfl) T.tuple (pv 2)) rfl))), ?_⟩
    intro ds μ Φ h
    obtain ⟨p, ns, ps, rfl, rfl, q⟩ := h
    refine gs_seq (gs_fld (ge_ev (ev_then (ev_var rfl) r1_tupL) (ge_ev (ev_var rfl) ⟨p, 0, C, [], rfl, rfl, T.cl, T.nN, by decide, ?_⟩)))
    refine gs_fld (ge_ev (ev_then (ev_var rfl) r1_tupL) (ge_ev (ev_var rfl) ⟨p, 0, C, _, rfl, rfl, T.cl, T.nP, by simp [putD], rfl, ?_⟩))
    have e : putD "points" (.tup (ps.map tS)) [("names", tS ns)] = [(("names" : Str), tS ns), (("points" : Str), D.tup (ps.map tS))] := by
      unfold putD; rw [if_neg (by decide +kernel)]; rfl
    show Φ .non [(p, .ins C (putD "points" (.tup (ps.map tS)) [("names", tS ns)]))]
    rw [e]; exact q
end
end Du
namespace Du
open PySem L2
/-! the sets of some names, plainly -/
theorem choices_cons (ns : List Str) : choices ns = [] :: (choices ns).drop 1 := by
  cases ns with
  | nil => rfl
  | cons n ns => simp [choices]
theorem mem_choices {r : List Str} : ∀ {ns : List Str}, r ∈ choices ns ↔ r.Sublist ns
  | [] => by simp [choices]
  | n :: ns => by
    refine ⟨choices_sub, fun h => ?_⟩
    simp only [choices, List.mem_append, List.mem_singleton, List.mem_map]
    cases h with
    | cons _ h =>
      have := mem_choices.mpr h
      rw [choices_cons] at this
      rcases List.mem_cons.mp this with h | h
      · exact .inl (.inl h)
      · exact .inr h
    | cons_cons _ h => exact .inl (.inr ⟨_, mem_choices.mpr h, rfl⟩)
theorem choices_nodup : ∀ {ns : List Str}, ns.Nodup → (choices ns).Nodup
  | [], _ => by simp [choices]
  | n :: ns, h => by
    have hn := (List.nodup_cons.mp h).1
    have ih := choices_nodup (List.nodup_cons.mp h).2
    have ih' := ih
    rw [choices_cons] at ih'
    have h1 := (List.nodup_cons.mp ih')
    simp only [choices]
    rw [List.append_assoc, List.singleton_append]
    refine List.nodup_cons.mpr ⟨fun z => ?_, List.nodup_append.mpr ⟨?_, h1.2, fun a ha b hb e => ?_⟩⟩
    · rcases List.mem_append.mp z with z | z
      · obtain ⟨q, _, e⟩ := List.mem_map.mp z; cases e
      · exact h1.1 z
    · exact List.pairwise_map.mpr (ih.imp fun {a b} ne e => ne (List.cons.inj e).2)
    · obtain ⟨q, hq, rfl⟩ := List.mem_map.mp ha
      subst e
      have := choices_sub (List.mem_of_mem_drop hb)
      exact hn (this.subset List.mem_cons_self)
/-- sorted, no name twice -/
def SS (ns : List Str) : Prop := ns.Pairwise (fun a b => leS a b = true) ∧ ns.Nodup
theorem SS.sub {r ns : List Str} (h : SS ns) (s : r.Sublist ns) : SS r := ⟨h.1.sublist s, h.2.sublist s⟩
theorem SS.filter {ns : List Str} (h : SS ns) (p : Str → Bool) : SS (ns.filter p) := h.sub List.filter_sublist
theorem SS.uniq (ns : List Str) : SS (uniq ns) := ⟨uniq_sorted ns, uniq_nodup ns⟩
theorem SS.ext {r ns : List Str} (hr : SS r) (hn : SS ns) (h : ∀ x, x ∈ r ↔ x ∈ ns) : r = ns :=
  pw_unique ((List.perm_ext_iff_of_nodup hr.2 hn.2).mpr h) hr.1 hn.1
theorem SS.sublist {r ns : List Str} (hr : SS r) (hn : SS ns) (h : ∀ x ∈ r, x ∈ ns) : r.Sublist ns := by
  have e : r = ns.filter (fun x => decide (x ∈ r)) := hr.ext (hn.filter _) fun x => by
    simp only [List.mem_filter, decide_eq_true_eq]
    exact ⟨fun z => ⟨h x z, z⟩, fun z => z.2⟩
  rw [e]; exact List.filter_sublist
theorem srt_mem {x : Str} {ss : List Str} : x ∈ srt ss ↔ x ∈ ss := (srt_perm ss).mem_iff
theorem srt_SS {ss : List Str} (h : ss.Nodup) : SS (srt ss) := ⟨srt_sorted ss, (srt_perm ss).nodup_iff.mpr h⟩
theorem setTo_mem {row : List Str} {name x : Str} {b : Bool} : x ∈ setTo row name b ↔ (x ∈ row ∧ x ≠ name) ∨ (b = true ∧ x = name) := by
  unfold setTo
  rw [srt_mem, List.mem_append, List.mem_filter]
  cases b <;> simp
theorem setTo_SS {row : List Str} {name : Str} {b : Bool} (h : row.Nodup) : SS (setTo row name b) := by
  refine srt_SS (List.nodup_append.mpr ⟨h.sublist List.filter_sublist, by cases b <;> simp, fun a ha c hc e => ?_⟩)
  subst e
  have h1 := (List.mem_filter.mp ha).2
  cases b with
  | true => simp at hc; subst hc; simp at h1
  | false => simp at hc
theorem setTo_len (row : List Str) (name : Str) (b : Bool) : (setTo row name b).length ≤ row.length + 1 := by
  unfold setTo
  rw [(srt_perm _).length_eq, List.length_append]
  have := List.length_filter_le (fun o => !decide (o = name)) row
  cases b <;> simp <;> omega
theorem setTo_sub {ev row : List Str} {name : Str} (he : SS ev) (hr : row.Sublist ev) (hn : name ∈ ev) (b : Bool) : (setTo row name b).Sublist ev :=
  (setTo_SS (he.2.sublist hr)).sublist he fun x hx => by
    rcases setTo_mem.mp hx with h | h
    · exact hr.subset h.1
    · exact h.2 ▸ hn
/-! what said_at makes -/
def ess (ev : List Str) (pts : List (List Str)) (name : Str) : Bool := (choices ev).any fun row => decide (row ∈ pts) != decide (setTo row name true ∈ pts)
def sN (ns : List Str) (pts : List (List Str)) : List Str := (uniq ns).filter (ess (uniq ns) pts)
def sP (ns : List Str) (pts : List (List Str)) : List (List Str) := (choices (sN ns pts)).filter fun r => decide (r ∈ pts)
theorem sN_sub (ns : List Str) (pts : List (List Str)) : (sN ns pts).Sublist (uniq ns) := List.filter_sublist
theorem okS_sub {r ns : List Str} (h : okS ns) (s : ∀ x ∈ r, x ∈ ns) : okS r := fun x hx => h x (s x hx)
theorem okS_uniq {ns : List Str} (h : okS ns) : okS (uniq ns) := okS_sub h fun x hx => uniq_mem.mp hx
def RSaid (C : Addr) (ds : List D) (d : D) : Prop := ∃ (ns : List Str) (pts : List (List Str)), (ds = [lS ns, lR pts] ∨ ds = [tS ns, lR pts]) ∧ ns.length ≤ 12 ∧ okS ns ∧ (∀ p ∈ pts, okS p) ∧ d = SayD C (sN ns pts) (sP ns pts)
def RSaidG (C : Addr) (ds : List D) (d : D) : Prop := ∃ (ns : List Str) (pts : List (List Str)), (ds = [lS ns, lR pts] ∨ ds = [tS ns, lR pts]) ∧ (uniq ns).length ≤ 12 ∧ ns.length ≤ 4000 ∧ okS ns ∧ (∀ p ∈ pts, okS p) ∧ d = SayD C (sN ns pts) (sP ns pts)
theorem ev_sortedSetG {K : PySem.W.Frag} {w : World} {ρ : Rho} {te : TE} {ss : List Str} (h : Ev te ρ (.lst (ss.map D.str))) (hz : ss.length ≤ 4000) (hu : (uniq ss).length < 64) : Ev (tCB (rSortedTxt w) (tCons (tCB (rSetTxt K w) (tCons te tNil)) tNil)) ρ (.lst ((uniq ss).map D.str)) := fun Z σ H Q k s q =>
  h Z σ H _ k s fun x H1 x1 r1 => by
    cases r1 with
    | lst n h1 r =>
      refine ⟨_, ss, rfl, .inl (.inl (by rw [← r.strs]; exact h1)), Nat.lt_of_le_of_lt (m := 4001) (by omega) (by decide), fun p hp => ?_⟩
      have k1 := (k.ex x1)
      refine ⟨p, addAll [] ss, rfl, upd_same, ?_, fun ys p' hp' hs hn => ?_⟩
      · unfold uniq at hu; rwa [(srt_perm _).length_eq] at hu
      rw [srt_unique hp' hs]
      have x2 := (Ex.new (o := TxtO w p (addAll [] ss)) hp)
      have k2 : okZ Z (upd H1 p (TxtO w p (addAll [] ss))) := k1.ex x2
      exact q _ _ ((x1.tr x2).tr (Ex.new hn)) (.lst (k2.no hn) upd_same (Reps.ofStrs _))
def RSaidH (C : Addr) (ds : List D) (d : D) : Prop := ∃ (ns : List Str) (pts : List (List Str)) (x y : D), ds = [x, y] ∧ (x = lS ns ∨ x = tS ns) ∧ (y = lR pts ∨ y = .tup (pts.map tS)) ∧ (uniq ns).length ≤ 12 ∧ ns.length ≤ 4000 ∧ okS ns ∧ (∀ p ∈ pts, okS p) ∧ d = SayD C (sN ns pts) (sP ns pts)
theorem spP_imp {R R' : List D → D → Prop} (h : ∀ ds d, R' ds d → R ds d) (vs : List V) (H : Hp) (Q : VK) (E : XK) (g : spP R' vs H Q E) : spP R vs H Q E := by
  obtain ⟨Z, ds, d, k, r, hr, q⟩ := g
  exact ⟨Z, ds, d, k, r, h _ _ hr, q⟩
theorem said_imp {C : Addr} {ds : List D} {d : D} (h : RSaid C ds d) : RSaidG C ds d := by
  obtain ⟨ns, pts, h1, h2, h3, h4, h5⟩ := h
  exact ⟨ns, pts, h1, Nat.le_trans (uniq_len ns) h2, by omega, h3, h4, h5⟩
end Du
namespace Du
open PySem L2
abbrev kR (r : List Str) : List Key := r.map Sum.inr
theorem tK_row (r : List Str) : tK (kR r) = tS r := by
  simp only [tK, kR, tS, List.map_map]
  rfl
theorem kR_inj {a b : List Str} (h : kR a = kR b) : a = b := (List.map_inj_right (fun x y e => Sum.inr.inj e)).mp h
def unk (k : List Key) : List Str := k.map fun x => match x with | .inr s => s | .inl _ => Str.empty
theorem unk_kR (r : List Str) : unk (kR r) = r := by
  unfold unk kR
  rw [List.map_map]
  exact List.map_id r
theorem valD_row {f : List Str → D} {r : List Str} : ∀ {rs : List (List Str)}, r ∈ rs → valD (rs.map fun r => (kR r, f r)) (kR r) = some (f r)
  | q :: rs, h => by
    unfold valD
    rw [List.map_cons, List.find?_cons]
    by_cases e : q = r
    · subst e; simp
    · have hk : ¬ kR q = kR r := fun z => e (kR_inj z)
      simp only [decide_eq_false hk]
      exact valD_row (by rcases List.mem_cons.mp h with h | h; exact absurd h.symm e; exact h)
section
variable {P : Program} {w : World} {K : PySem.W.Frag} {mg : Str → Option Value} {base : Heap} {C : Addr}
abbrev s_said_at : Stmt := top 15
abbrev n_said_at : List Str := ["names", "points", "every", "known", "tests", "name", "row"]
theorem sc_said_at : FnScope n_said_at ["names", "points"] (defScope s_said_at) := ⟨rfl, rfl, rfl, by decide +kernel, rfl, by decide +kernel, by decide +kernel⟩

theorem ok_said_atH {f : Addr} {fd : FuncData} (F : Fun K "said_at" "said_at" s_said_at f fd) (T : Tx K mg C)  (c_choices_of : C8.Cal P w K mg base 1 "choices_of" (spP RChoices) []) (c_set_to : C8.Cal P w K mg base 1 "set_to" (spP RSetTo) []) (c_Say : C8.Mak P w K mg base 1 "Say" C (spM (RInit C)) []) : FnOk P w K mg base CX0 3 f fd ["names", "points"] (spP (RSaidH C)) := by
  refine pure_ok F sc_said_at (fun ds d h => ?_) (fun cdv A outer s H E hr => ?_)
  · obtain ⟨ns, pts, x, y, rfl, _⟩ := h; rfl
  · refine ⟨_, (pss_cons (ps_set (i := 2) sc_said_at.nd rfl (by first | exact Or.inl rfl | exact Or.inr rfl) (pe_callB (k_sortedTxt (w := w) rfl rfl) (by rfl) T.sorted (by decide +kernel) (pa_cons (pe_callTy (k_setTxt (K := K) (w := w) rfl rfl rfl) (by rfl) T.set (by decide +kernel) (pa_cons (pe_lc (own := [("name", 5)]) rfl sc_said_at.nd (k_seq (K := K) rfl (pv 0)) (blkOk_by (own := [("name", 5)]) (N := n_said_at) (sc := defScope s_said_at) (by decide +kernel)) (fun _ _ _ _ _ => (pg_name (i := 5) sc_said_at.nd rfl (by first | exact Or.inl rfl | exact Or.inr rfl))) (fun _ _ _ _ _ => pts_nil) (fun _ _ _ _ _ => (pe_callTy SkE.call_str_str (by rfl) T.str (by decide +kernel) (pa_cons (pv 5) pa_nil)))) pa_nil)) pa_nil))) (pss_cons (ps_set (i := 3) sc_said_at.nd rfl (by first | exact Or.inl rfl | exact Or.inr rfl) (pe_dcT (own := [("row", 6)]) hr.units0 rfl sc_said_at.nd (k_seq (K := K) rfl (C8.pe_c c_choices_of hr (by omega) rfl (pa_cons (pv 2) pa_nil))) (blkOk_by (own := [("row", 6)]) (N := n_said_at) (sc := defScope s_said_at) (by decide +kernel)) (fun _ _ _ _ _ => (pg_name (i := 6) sc_said_at.nd rfl (by first | exact Or.inl rfl | exact Or.inr rfl))) (fun _ _ _ _ _ => pts_nil) (fun _ _ _ _ _ => (pv 6)) (fun _ _ _ _ _ => (pe_cmpR (k_inU (K := K) rfl hr) (pv 6) (pv 1) (by rfl))))) (pss_cons (ps_set (i := 4) sc_said_at.nd rfl (by first | exact Or.inl rfl | exact Or.inr rfl) (pe_lst pa_nil)) (pss_cons (ps_for PassesOwn.never rfl (k_seq (K := K) rfl (pv 2)) (pg_name (i := 5) sc_said_at.nd rfl (by first | exact Or.inl rfl | exact Or.inr rfl)) (pss_one (ps_if (pt_val (pe_callB (k_any (K := K) rfl rfl) (by rfl) T.any (by decide +kernel) (pa_cons (pe_lk (pe_lc (own := [("row", 6)]) rfl sc_said_at.nd (pi_keys (pv 3)) (blkOk_by (own := [("row", 6)]) (N := n_said_at) (sc := defScope s_said_at) (by decide +kernel)) (fun _ _ _ _ _ => (pg_name (i := 6) sc_said_at.nd rfl (by first | exact Or.inl rfl | exact Or.inr rfl))) (fun _ _ _ _ _ => pts_nil) (fun _ _ _ _ _ => (pe_cmpR (k_ne (K := K) rfl hr) (pe_dget (hu_of hr) (pv 3) (pv 6) (fun _ _ => rfl)) (pe_dget (hu_of hr) (pv 3) (C8.pe_c c_set_to hr (by omega) rfl (pa_cons (pv 6) (pa_cons (pv 5) (pa_cons pe_bl pa_nil)))) (fun _ _ => rfl)) (nomark _))))) pa_nil))) (pss_one (ps_expr (k_bm (K := K) rfl PySem.F.plainAttrs_list PySem.F.slot_list_append PySem.F.type_list_append mt_append (pv 4) (pa_cons (pv 5) pa_nil)))) pss_nil))) (pss_one (ps_ret (C8.pe_mk c_Say hr (by omega) rfl (pa_cons (pv 4) (pa_cons (pe_lc (own := [("row", 6)]) rfl sc_said_at.nd (k_seq (K := K) rfl (C8.pe_c c_choices_of hr (by omega) rfl (pa_cons (pv 4) pa_nil))) (blkOk_by (own := [("row", 6)]) (N := n_said_at) (sc := defScope s_said_at) (by decide +kernel)) (fun _ _ _ _ _ => (pg_name (i := 6) sc_said_at.nd rfl (by first | exact Or.inl rfl | exact Or.inr rfl))) (fun _ _ _ _ _ => pts_one (pt_val (pe_dget (hu_of hr) (pv 3) (pv 6) (fun _ _ => rfl)))) (fun _ _ _ _ _ => (pv 6))) pa_nil))))))))), ?_⟩
    intro ds d h
    obtain ⟨ns, pts, d0, d1, rfl, hx, hy, hl, hl2, hns, hps, rfl⟩ := h
    have hI : ∀ r, EvI (iSeq K (tVar 0)) (some d0 :: r) (ns.map D.str) := fun r => by
      rcases hx with rfl | rfl
      · exact ei_seqL (ev_var rfl)
      · exact ei_seqT (ev_var rfl)
    have hin : ∀ r, okS r → R2D (rInU K) (tS r) d1 (.bl (inD (tS r) (pts.map tS))) := fun r hr => by
      rcases hy with rfl | rfl
      · exact rd_inL ((okE_tS hr).e (by decide)) ((okE_lR hps).e (by decide))
      · exact rd_inT ((okE_tS hr).e (by decide)) ((okE_tR hps).e (by decide))
    have hu := uniq_len ns
    have sev := SS.uniq ns
    have oev := okS_uniq hns
    generalize hev : uniq ns = ev at *
    have hlen : ev.length ≤ 12 := by omega
    have hcl := choices_le hlen
    have okr : ∀ r ∈ choices ev, okS r := fun r hr => okS_sub oev fun x hx => (mem_choices.mp hr).subset hx
    let kvs : List (List Key × D) := (choices ev).map fun r => (kR r, .bl (decide (r ∈ pts)))
    have hval : ∀ {r : List Str}, r.Sublist ev → valD kvs (kR r) = some (.bl (decide (r ∈ pts))) := fun h => valD_row (mem_choices.mpr h)
    refine .inl (st_seq (st_asg (d := lS ev) (hev ▸ ev_sortedSetG (ev_lc1 (φ := D.str) (fe := D.str) (hI _) (by omega) fun r hr => ⟨_, gw_name (by simp), ev_cb (ev_cons (ev_var rfl) ev_nil) rl_str⟩) hl2 (by rw [hev]; omega)) ga_name) (st_seq (st_asg (d := .dT kvs) ?_ ga_name) (st_gs ?_)))
    · refine ev_dcT (φ := tS) (kf := kR) (vf := fun r => .bl (decide (r ∈ pts))) (ei_seqL (ev_call (ev_cons (ev_var rfl) ev_nil) ⟨ev, .inl rfl, hlen, rfl⟩)) (by omega) ?_ fun r hr => ⟨_, gw_name (by simp), by rw [tK_row]; exact ev_var rfl, ?_⟩
      · exact List.pairwise_map.mpr ((choices_nodup sev.2).imp fun {a b} ne e => ne (kR_inj e))
      · rw [← inD_tS]
        exact ev_op (ev_var rfl) (ev_var rfl) (hin r (okr r hr))
    · refine gs_own (gea_nil ⟨by decide, fun a _ => ?_⟩)
      have hk : kvs.length ≤ 100000 := by simp [kvs]; omega
      refine gs_seq (gs_for (fun i ρ' μ' => ρ' = [some d0, some d1, some (lS ev), some (.dT kvs), some (.ptr a), none, none] ∧ μ' = [(a, lS ((ev.take i).filter (ess ev pts)))]) (ei_seqL (ev_var rfl)) (Lq.rf _) ⟨rfl, rfl⟩ ?_ ?_)
      · rintro i d ρi μi hd ⟨rfl, rfl⟩
        rw [List.getElem?_map] at hd
        obtain ⟨name, hname, rfl⟩ := Option.map_eq_some_iff.mp hd
        have hmem : name ∈ ev := List.mem_of_getElem? hname
        have het : ev.take (i + 1) = ev.take i ++ [name] := by rw [List.take_add_one, hname]; rfl
        refine ⟨_, ga_name, gs_if (gt_B (ge_ev (d := .bl (ess ev pts name)) ?_ ⟨_, rfl, ?_⟩))⟩
        · have e : ess ev pts name = (((choices ev).map fun row => decide (row ∈ pts) != decide (setTo row name true ∈ pts)).any id) := by
            unfold ess; rw [List.any_map]; rfl
          rw [e]
          refine ev_cb (ev_cons (d := .lst (((choices ev).map fun row => decide (row ∈ pts) != decide (setTo row name true ∈ pts)).map D.bl)) ?_ ev_nil) rl_any
          have e2 : D.lst (((choices ev).map fun row => decide (row ∈ pts) != decide (setTo row name true ∈ pts)).map D.bl) = .lst ((kvs.filter fun _ => true).map fun e => .bl (decide (unk e.1 ∈ pts) != decide (setTo (unk e.1) name true ∈ pts))) := by
            rw [List.filter_eq_self.mpr (fun _ _ => rfl)]
            simp only [kvs, List.map_map]
            congr 1
            refine List.map_congr_left fun r _ => ?_
            simp only [Function.comp, unk_kR]
          rw [e2]
          refine ev_lcKeys (i := 3) (pb := fun _ => true) rfl hk fun e he => ?_
          obtain ⟨r, hr, rfl⟩ := List.mem_map.mp he
          have hrs := choices_sub hr
          have hrl := hrs.length_le
          rw [unk_kR]
          refine ⟨_, gw_name (by simp), et_yes, fun _ => ?_⟩
          have e3 : (decide (r ∈ pts) != decide (setTo r name true ∈ pts)) = !eqD (.bl (decide (r ∈ pts))) (.bl (decide (setTo r name true ∈ pts))) := by
            rw [eqD_bl]; cases decide (r ∈ pts) <;> cases decide (setTo r name true ∈ pts) <;> rfl
          rw [e3]
          refine ev_op (ev_dget (ev_var rfl) (ev_var rfl) (hval hrs)) (ev_dget (k := kR (setTo r name true)) (ev_var rfl) ?_ (hval (setTo_sub sev hrs hmem true))) (rd_ne ok_bl ok_bl)
          rw [tK_row, tK_row]
          exact ev_call (ev_cons (d := tS r) (ev_var rfl) (ev_cons (ev_var rfl) (ev_cons ev_bl ev_nil))) ⟨r, name, true, rfl, by omega, okr r hr, oev name hmem, rfl⟩
        · cases he : ess ev pts name with
          | true =>
            rw [if_pos rfl]
            refine gs_drop (ge_append (ge_ev (ev_var rfl) ⟨a, 0, _, rfl, rfl, gea_ev (ev_cons (ev_var rfl) ev_nil) ⟨_, _, rfl, rfl, ?_, _, .keep (.keep (.keep (.keep (.keep (.skip (.skip .nil)))))), rfl, ?_⟩⟩))
            · have := List.length_filter_le (ess ev pts) (ev.take i)
              simp; simp at this; omega
            · simp [het, he, lS]
          | false =>
            rw [if_neg (by simp)]
            refine gs_next ⟨_, .keep (.keep (.keep (.keep (.keep (.skip (.skip .nil)))))), rfl, ?_⟩
            simp [het, he]
      · rintro ρ' μ' ⟨rfl, rfl⟩
        rw [List.length_map, List.take_length]
        refine gs_freeze (i := 4) rfl ?_
        have e1 : ev.filter (ess ev pts) = sN ns pts := by unfold sN; rw [hev]
        rw [e1]
        have hsl : (sN ns pts).Sublist ev := by rw [← hev]; exact sN_sub ns pts
        have hsn : (sN ns pts).length ≤ 12 := Nat.le_trans hsl.length_le hlen
        have hcs := choices_le hsn
        refine gs_ret (ge_ev (ev_make (ds := [lS (sN ns pts), lR (sP ns pts)]) (ev_cons (ev_var rfl) (ev_cons (ev_lc (φ := tS) (pb := fun r => decide (r ∈ pts)) (ei_seqL (ev_call (ev_cons (ev_var rfl) ev_nil) ⟨sN ns pts, .inl rfl, hsn, rfl⟩)) (by omega) fun r hr => ⟨_, gw_name (by simp), et_B (ev_dget (k := kR r) (ev_var rfl) (by rw [tK_row]; exact ev_var rfl) (hval ((choices_sub hr).trans hsl))), fun _ => ev_var rfl⟩) ev_nil)) fun p => ⟨p, _, _, rfl, rfl, rfl, rfl⟩) ⟨[], .inl ⟨rfl, by simp [dom]⟩, rfl⟩)
theorem ok_said_atG {f : Addr} {fd : FuncData} (F : Fun K "said_at" "said_at" s_said_at f fd) (T : Tx K mg C)  (c_choices_of : C8.Cal P w K mg base 1 "choices_of" (spP RChoices) []) (c_set_to : C8.Cal P w K mg base 1 "set_to" (spP RSetTo) []) (c_Say : C8.Mak P w K mg base 1 "Say" C (spM (RInit C)) []) : FnOk P w K mg base CX0 3 f fd ["names", "points"] (spP (RSaidG C)) :=
  (ok_said_atH F T c_choices_of c_set_to c_Say).imp (spP_imp fun _ _ h => by
    obtain ⟨ns, pts, h1, h2⟩ := h
    rcases h1 with rfl | rfl
    · exact ⟨ns, pts, _, _, rfl, .inl rfl, .inl rfl, h2⟩
    · exact ⟨ns, pts, _, _, rfl, .inr rfl, .inl rfl, h2⟩)
theorem ok_said_at {f : Addr} {fd : FuncData} (F : Fun K "said_at" "said_at" s_said_at f fd) (T : Tx K mg C)  (c_choices_of : C8.Cal P w K mg base 1 "choices_of" (spP RChoices) []) (c_set_to : C8.Cal P w K mg base 1 "set_to" (spP RSetTo) []) (c_Say : C8.Mak P w K mg base 1 "Say" C (spM (RInit C)) []) : FnOk P w K mg base CX0 3 f fd ["names", "points"] (spP (RSaid C)) :=
  (ok_said_atG F T c_choices_of c_set_to c_Say).imp (spP_imp fun _ _ => said_imp)
end
end Du
namespace Du
open PySem L2
def letters : Str := "abcdefghijklmnopqrstuvwxyz"
def nmOk (s : Str) : Bool := (decide ((1 : Int) ≤ s.length) && decide ((s.length : Int) ≤ 8)) && (s.cps.toList.map fun c => decide (c ∈ letters.cps.toList)).all id
section
variable {P : Program} {w : World} {K : PySem.W.Frag} {mg : Str → Option Value} {base : Heap} {C : Addr}
def RIsName (ds : List D) (d : D) : Prop := ∃ s : Str, ds = [.str s] ∧ s.length ≤ 100000 ∧ d = .bl (nmOk s)
abbrev s_is_name : Stmt := top 4
abbrev n_is_name : List Str := ["thing", "sign"]
theorem sc_is_name : FnScope n_is_name ["thing"] (defScope s_is_name) := ⟨rfl, rfl, rfl, by decide +kernel, rfl, by decide +kernel, by decide +kernel⟩

theorem ok_is_name {f : Addr} {fd : FuncData} (F : Fun K "is_name" "is_name" s_is_name f fd) (T : Tx K mg C) : FnOk P w K mg base CX0 1 f fd ["thing"] (spP RIsName) := by
  refine pure_ok F sc_is_name (fun ds d h => ?_) (fun cdv A outer s H E hr => ?_)
  · obtain ⟨s, rfl, _⟩ := h; rfl
  · refine ⟨_, (pss_one (ps_ret (pe_and (pe_callB (k_isi (K := K) rfl) (by rfl) T.isinstance (by decide +kernel) (pa_cons (pv 0) (pa_cons (pe_bltn (v := .ty "str") (by rfl) T.str (by decide +kernel) rfl) pa_nil))) (pe_and (pe_chain op_le op_le pe_int (pe_callB (k_len (K := K) rfl) (by rfl) T.len (by decide +kernel) (pa_cons (pv 0) pa_nil)) (k_globI rfl T.g_LONGEST)) (pe_one (pe_callB (k_all (K := K) rfl rfl) (by rfl) T.all (by decide +kernel) (pa_cons (pe_lc (own := [("sign", 1)]) rfl sc_is_name.nd (pi_str (pv 0)) (blkOk_by (own := [("sign", 1)]) (N := n_is_name) (sc := defScope s_is_name) (by decide +kernel)) (fun _ _ _ _ _ => (pg_name (i := 1) sc_is_name.nd rfl (by first | exact Or.inl rfl | exact Or.inr rfl))) (fun _ _ _ _ _ => pts_nil) (fun _ _ _ _ _ => (pe_cmpR op_in_sign (pv 1) (k_globS rfl T.g_LETTERS) rfl))) pa_nil))))))), ?_⟩
    intro ds d h
    obtain ⟨s, rfl, hl, rfl⟩ := h
    have e : nmOk s = (true && ((decide ((1 : Int) ≤ s.length) && decide ((s.length : Int) ≤ 8)) && (s.cps.toList.map fun c => decide (c ∈ letters.cps.toList)).all id)) := by rw [Bool.true_and]; rfl
    rw [e]
    refine .inl (st_ret (ev_andV (ev_cb (ev_cons (ev_var rfl) (ev_cons (fun _ _ H _ _ _ q => q _ H (Ex.rf H) (.ty "str")) ev_nil)) (rl_isi rfl (isi_same "str"))) fun _ => ev_andV (ev_chain ev_int (ev_cb (ev_cons (ev_var rfl) ev_nil) (rl_lenS hl)) rd_le (fun _ => ev_int) (fun _ => rd_le)) fun hb => ?_))
    have hs : s.length ≤ 8 := by simp at hb; omega
    refine ev_cb (ev_cons (d := .lst ((s.cps.toList.map fun c => decide (c ∈ letters.cps.toList)).map D.bl)) ?_ ev_nil) rl_all
    rw [List.map_map]
    exact ev_lc1 (fe := D.bl ∘ fun c => decide (c ∈ letters.cps.toList)) (ei_str (ev_var rfl)) (by rw [Array.length_toList]; exact Nat.le_trans hs (by decide)) fun c hc => ⟨_, gw_name (by simp), ev_op (ev_var rfl) ev_str rd_inSign⟩
def RCheck (ds : List D) (d : D) : Prop := ∃ s : Str, ds = [.str s] ∧ nmOk s = true ∧ d = .non
theorem nmOk_len {s : Str} (h : nmOk s = true) : s.length ≤ 8 := by
  unfold nmOk at h
  simp at h; omega
abbrev s_check_name : Stmt := top 13
abbrev n_check_name : List Str := ["name"]
theorem sc_check_name : FnScope n_check_name ["name"] (defScope s_check_name) := ⟨rfl, rfl, rfl, by decide +kernel, rfl, by decide +kernel, by decide +kernel⟩

theorem ok_check_name {f : Addr} {fd : FuncData} (F : Fun K "check_name" "check_name" s_check_name f fd) (T : Tx K mg C) (c_is_name : C8.Cal P w K mg base 1 "is_name" (spP RIsName) []) : FnOk P w K mg base CX0 2 f fd ["name"] (spP RCheck) := by
  refine pure_ok F sc_check_name (fun ds d h => ?_) (fun cdv A outer s H E hr => ?_)
  · obtain ⟨s, rfl, _⟩ := h; rfl
  · refine ⟨_, (pss_one (ps_if (pt_not (pt_val (C8.pe_c c_is_name hr (by omega) rfl (pa_cons (pv 0) pa_nil)))) (pss_one ps_never) pss_nil)), ?_⟩
    intro ds d h
    obtain ⟨s, rfl, hn, rfl⟩ := h
    have hl := nmOk_len hn
    refine .inr ⟨rfl, _, st_if (et_not (et_B (ev_call (ev_cons (ev_var rfl) ev_nil) ⟨s, rfl, by omega, rfl⟩))) (fun h => ?_) fun _ => st_next⟩
    rw [hn] at h; cases h
def ROver (ds : List D) (d : D) : Prop := ∃ ns : List Str, ds = [lS ns] ∧ ns.length ≤ 12 ∧ d = lR (choices (uniq ns))
abbrev s_choices_over : Stmt := top 16
abbrev n_choices_over : List Str := ["names", "name"]
theorem sc_choices_over : FnScope n_choices_over ["names"] (defScope s_choices_over) := ⟨rfl, rfl, rfl, by decide +kernel, rfl, by decide +kernel, by decide +kernel⟩

def ROverG (ds : List D) (d : D) : Prop := ∃ ns : List Str, ds = [lS ns] ∧ (uniq ns).length ≤ 12 ∧ ns.length ≤ 4000 ∧ d = lR (choices (uniq ns))
theorem ok_choices_overG {f : Addr} {fd : FuncData} (F : Fun K "choices_over" "choices_over" s_choices_over f fd) (T : Tx K mg C) (c_choices_of : C8.Cal P w K mg base 1 "choices_of" (spP RChoices) []) : FnOk P w K mg base CX0 2 f fd ["names"] (spP ROverG) := by
  refine pure_ok F sc_choices_over (fun ds d h => ?_) (fun cdv A outer s H E hr => ?_)
  · obtain ⟨s, rfl, _⟩ := h; rfl
  · refine ⟨_, (pss_one (ps_ret (C8.pe_c c_choices_of hr (by omega) rfl (pa_cons (pe_callB (k_sortedTxt (w := w) rfl rfl) (by rfl) T.sorted (by decide +kernel) (pa_cons (pe_callTy (k_setTxt (K := K) (w := w) rfl rfl rfl) (by rfl) T.set (by decide +kernel) (pa_cons (pe_lc (own := [("name", 1)]) rfl sc_choices_over.nd (k_seq (K := K) rfl (pv 0)) (blkOk_by (own := [("name", 1)]) (N := n_choices_over) (sc := defScope s_choices_over) (by decide +kernel)) (fun _ _ _ _ _ => (pg_name (i := 1) sc_choices_over.nd rfl (by first | exact Or.inl rfl | exact Or.inr rfl))) (fun _ _ _ _ _ => pts_nil) (fun _ _ _ _ _ => (pe_callTy SkE.call_str_str (by rfl) T.str (by decide +kernel) (pa_cons (pv 1) pa_nil)))) pa_nil)) pa_nil)) pa_nil)))), ?_⟩
    intro ds d h
    obtain ⟨ns, rfl, hl, hl2, rfl⟩ := h
    exact .inl (st_ret (ev_call (ev_cons (ev_sortedSetG (ev_lc1 (φ := D.str) (fe := D.str) (ei_seqL (ev_var rfl)) (by omega) fun r hr => ⟨_, gw_name (by simp), ev_cb (ev_cons (ev_var rfl) ev_nil) rl_str⟩) hl2 (by omega)) ev_nil) ⟨uniq ns, .inl rfl, by omega, rfl⟩))
theorem ok_choices_over {f : Addr} {fd : FuncData} (F : Fun K "choices_over" "choices_over" s_choices_over f fd) (T : Tx K mg C) (c_choices_of : C8.Cal P w K mg base 1 "choices_of" (spP RChoices) []) : FnOk P w K mg base CX0 2 f fd ["names"] (spP ROver) :=
  (ok_choices_overG F T c_choices_of).imp (spP_imp fun _ _ h => by
    obtain ⟨ns, h1, h2, h3⟩ := h
    exact ⟨ns, h1, Nat.le_trans (uniq_len ns) h2, by omega, h3⟩)
/-! Say.at -/
def atS (ns : List Str) (ps : List (List Str)) (row : List Str) : Bool := decide (ns.filter (fun n => decide (n ∈ row)) ∈ ps)
def wf (ns : List Str) (ps : List (List Str)) : Prop := ns.length ≤ 12 ∧ okS ns ∧ (∀ p ∈ ps, okS p) ∧ ps.length ≤ 5000
def RAt (C : Addr) (ds : List D) (d : D) : Prop := ∃ (ns : List Str) (ps : List (List Str)) (row : List Str), (ds = [SayD C ns ps, tS row] ∨ ds = [SayD C ns ps, lS row]) ∧ wf ns ps ∧ okS row ∧ d = .bl (atS ns ps row)
theorem ev_names {ρ : Rho} {te : TE} {ns : List Str} {ps : List (List Str)} (T : Tx K mg C) (h : Ev te ρ (SayD C ns ps)) : Ev (tFld K te "names") ρ (tS ns) := ev_fld h T.cl T.nN rfl
theorem ev_points {ρ : Rho} {te : TE} {ns : List Str} {ps : List (List Str)} (T : Tx K mg C) (h : Ev te ρ (SayD C ns ps)) : Ev (tFld K te "points") ρ (.tup (ps.map tS)) := ev_fld h T.cl T.nP rfl
abbrev s_Say_at : Stmt := inClass (top 21) 5
abbrev n_Say_at : List Str := ["self", "row", "name"]
theorem sc_Say_at : FnScope n_Say_at ["self", "row"] (defScope s_Say_at) := ⟨rfl, rfl, rfl, by decide +kernel, rfl, by decide +kernel, by decide +kernel⟩

theorem ok_Say_at {f : Addr} {fd : FuncData} (F : Fun K "at" "Say.at" s_Say_at f fd) (T : Tx K mg C) : FnOk P w K mg base CX0 1 f fd ["self", "row"] (spP (RAt C)) := by
  refine pure_ok F sc_Say_at (fun ds d h => ?_) (fun cdv A outer s H E hr => ?_)
  · obtain ⟨ns, ps, row, rfl | rfl, _⟩ := h <;> rfl
  · refine ⟨_, (pss_one (ps_ret (pe_cmpR (k_inU (K := K) rfl hr) (k_tupleOf (K := K) rfl (by rfl) T.tuple (pe_lc (own := [("name", 2)]) rfl sc_Say_at.nd (k_seq (K := K) rfl (k_fld (K := K) rfl (pv 0) rfl)) (blkOk_by (own := [("name", 2)]) (N := n_Say_at) (sc := defScope s_Say_at) (by decide +kernel)) (fun _ _ _ _ _ => (pg_name (i := 2) sc_Say_at.nd rfl (by first | exact Or.inl rfl | exact Or.inr rfl))) (fun _ _ _ _ _ => pts_one (pt_cmpR (k_inU (K := K) rfl hr) (pv 2) (pv 1) (by rfl))) (fun _ _ _ _ _ => (pv 2)))) (k_fld (K := K) rfl (pv 0) rfl) (by rfl)))), ?_⟩
    intro ds d h
    obtain ⟨ns, ps, row, hds, ⟨hl, hn, hp, hpl⟩, hr, rfl⟩ := h
    obtain ⟨d0, rfl, hin⟩ : ∃ d0, ds = [SayD C ns ps, d0] ∧ ∀ n, PyData.strOk n = true → R2D (rInU K) (.str n) d0 (.bl (inD (.str n) (row.map D.str))) := by
      rcases hds with rfl | rfl
      · exact ⟨_, rfl, fun n hn => rd_inT (ok_str hn) ((okE_tS hr).e (by decide))⟩
      · exact ⟨_, rfl, fun n hn => rd_inL (ok_str hn) ((okE_lS hr).e (by decide))⟩
    unfold atS
    rw [← inD_tS]
    refine .inl (st_ret (ev_op (ev_then (d := lS (ns.filter fun n => decide (n ∈ row))) (ev_lc (φ := D.str) (fe := D.str) (ei_seqT (ev_names T (ev_var rfl))) (by omega) fun n hnn => ⟨_, gw_name (by simp), ?_, fun _ => ev_var rfl⟩) r1_tupL) (ev_points T (ev_var rfl)) (rd_inT ((okE_tS (okS_sub hn fun x hx => (List.mem_filter.mp hx).1)).e (by decide)) ((okE_tR hp).e (by decide)))))
    rw [← inD_strs]
    exact et_test (ev_op (ev_var rfl) (ev_var rfl) (hin n (hn n hnn)))
end
end Du
namespace Du
open PySem L2
/-! what the operators make -/
def opS (g : Bool → Bool → Bool) (n1 : List Str) (p1 : List (List Str)) (n2 : List Str) (p2 : List (List Str)) : List (List Str) := (choices (uniq (n1 ++ n2))).filter fun r => g (atS n1 p1 r) (atS n2 p2 r)
def opD (C : Addr) (g : Bool → Bool → Bool) (n1 : List Str) (p1 : List (List Str)) (n2 : List Str) (p2 : List (List Str)) : D := SayD C (sN (n1 ++ n2) (opS g n1 p1 n2 p2)) (sP (n1 ++ n2) (opS g n1 p1 n2 p2))
def inS (n1 : List Str) (p1 : List (List Str)) : List (List Str) := (choices n1).filter fun r => !atS n1 p1 r
section
variable {P : Program} {w : World} {K : PySem.W.Frag} {mg : Str → Option Value} {base : Heap} {C : Addr}
def ROp (C : Addr) (g : Bool → Bool → Bool) (ds : List D) (d : D) : Prop := ∃ (n1 : List Str) (p1 : List (List Str)) (n2 : List Str) (p2 : List (List Str)), ds = [SayD C n1 p1, SayD C n2 p2] ∧ wf n1 p1 ∧ wf n2 p2 ∧ n1.length + n2.length ≤ 12 ∧ d = opD C g n1 p1 n2 p2
def RInv (C : Addr) (ds : List D) (d : D) : Prop := ∃ (n1 : List Str) (p1 : List (List Str)), ds = [SayD C n1 p1] ∧ wf n1 p1 ∧ d = SayD C (sN n1 (inS n1 p1)) (sP n1 (inS n1 p1))
theorem ev_at {ρ : Rho} {E : XK} {te tr : TE} {ns : List Str} {ps : List (List Str)} {row : List Str} (h : Ev te ρ (SayD C ns ps)) (hr : Ev tr ρ (tS row)) (hw : wf ns ps) (ho : okS row) : Ev (tMeth C "at" (spP (RAt C)) [] E te (tCons tr tNil)) ρ (.bl (atS ns ps row)) :=
  ev_meth h rfl (ev_cons hr ev_nil) ⟨ns, ps, row, .inl rfl, hw, ho, rfl⟩
theorem ev_atL {ρ : Rho} {E : XK} {te tr : TE} {ns : List Str} {ps : List (List Str)} {row : List Str} (h : Ev te ρ (SayD C ns ps)) (hr : Ev tr ρ (lS row)) (hw : wf ns ps) (ho : okS row) : Ev (tMeth C "at" (spP (RAt C)) [] E te (tCons tr tNil)) ρ (.bl (atS ns ps row)) :=
  ev_meth h rfl (ev_cons hr ev_nil) ⟨ns, ps, row, .inr rfl, hw, ho, rfl⟩
theorem okS_app {a b : List Str} (h : okS a) (g : okS b) : okS (a ++ b) := fun x hx => (List.mem_append.mp hx).elim (h x) (g x)
theorem okS_choice {ns r : List Str} (h : okS ns) (hr : r ∈ choices ns) : okS r := okS_sub h fun x hx => (choices_sub hr).subset hx
abbrev s_Say_and : Stmt := inClass (top 21) 13
abbrev n_Say_and : List Str := ["self", "other", "names", "row"]
theorem sc_Say_and : FnScope n_Say_and ["self", "other"] (defScope s_Say_and) := ⟨rfl, rfl, rfl, by decide +kernel, rfl, by decide +kernel, by decide +kernel⟩

abbrev s_Say_or : Stmt := inClass (top 21) 14
abbrev n_Say_or : List Str := ["self", "other", "names", "row"]
theorem sc_Say_or : FnScope n_Say_or ["self", "other"] (defScope s_Say_or) := ⟨rfl, rfl, rfl, by decide +kernel, rfl, by decide +kernel, by decide +kernel⟩

abbrev s_Say_xor : Stmt := inClass (top 21) 15
abbrev n_Say_xor : List Str := ["self", "other", "names", "row"]
theorem sc_Say_xor : FnScope n_Say_xor ["self", "other"] (defScope s_Say_xor) := ⟨rfl, rfl, rfl, by decide +kernel, rfl, by decide +kernel, by decide +kernel⟩

abbrev s_Say_invert : Stmt := inClass (top 21) 16
abbrev n_Say_invert : List Str := ["self", "row"]
theorem sc_Say_invert : FnScope n_Say_invert ["self"] (defScope s_Say_invert) := ⟨rfl, rfl, rfl, by decide +kernel, rfl, by decide +kernel, by decide +kernel⟩

abbrev s_Say_eq : Stmt := inClass (top 21) 19
abbrev n_Say_eq : List Str := ["self", "other"]
theorem sc_Say_eq : FnScope n_Say_eq ["self", "other"] (defScope s_Say_eq) := ⟨rfl, rfl, rfl, by decide +kernel, rfl, by decide +kernel, by decide +kernel⟩

abbrev s_Say_holds : Stmt := inClass (top 21) 7
abbrev n_Say_holds : List Str := ["self", "true", "name"]
theorem sc_Say_holds : FnScope n_Say_holds ["self", "true"] (defScope s_Say_holds) := ⟨rfl, rfl, rfl, by decide +kernel, rfl, by decide +kernel, by decide +kernel⟩

abbrev s_Say_test : Stmt := inClass (top 21) 1
abbrev n_Say_test : List Str := ["name"]
theorem sc_Say_test : FnScope n_Say_test ["name"] (defScope s_Say_test) := ⟨rfl, rfl, rfl, by decide +kernel, rfl, by decide +kernel, by decide +kernel⟩

abbrev s_Say_yes : Stmt := inClass (top 21) 2
abbrev n_Say_yes : List Str := []
theorem sc_Say_yes : FnScope n_Say_yes [] (defScope s_Say_yes) := ⟨rfl, rfl, rfl, by decide +kernel, rfl, by decide +kernel, by decide +kernel⟩

abbrev s_Say_no : Stmt := inClass (top 21) 3
abbrev n_Say_no : List Str := []
theorem sc_Say_no : FnScope n_Say_no [] (defScope s_Say_no) := ⟨rfl, rfl, rfl, by decide +kernel, rfl, by decide +kernel, by decide +kernel⟩

abbrev s_Say_le : Stmt := inClass (top 21) 17
abbrev n_Say_le : List Str := ["self", "other"]
theorem sc_Say_le : FnScope n_Say_le ["self", "other"] (defScope s_Say_le) := ⟨rfl, rfl, rfl, by decide +kernel, rfl, by decide +kernel, by decide +kernel⟩

abbrev s_Say_lt : Stmt := inClass (top 21) 18
abbrev n_Say_lt : List Str := ["self", "other"]
theorem sc_Say_lt : FnScope n_Say_lt ["self", "other"] (defScope s_Say_lt) := ⟨rfl, rfl, rfl, by decide +kernel, rfl, by decide +kernel, by decide +kernel⟩

theorem opS_ok {g : Bool → Bool → Bool} {n1 n2 : List Str} {p1 p2 : List (List Str)} (h1 : wf n1 p1) (h2 : wf n2 p2) : ∀ p ∈ opS g n1 p1 n2 p2, okS p := fun p hp => okS_choice (okS_uniq (okS_app h1.2.1 h2.2.1)) (List.mem_filter.mp hp).1
theorem inS_ok {n1 : List Str} {p1 : List (List Str)} (h1 : wf n1 p1) : ∀ p ∈ inS n1 p1, okS p := fun p hp => okS_choice h1.2.1 (List.mem_filter.mp hp).1
theorem ok_Say_and {f : Addr} {fd : FuncData} (F : Fun K "__and__" "Say.__and__" s_Say_and f fd) (T : Tx K mg C) (c_said_at : C8.Cal P w K mg base 3 "said_at" (spP (RSaid C)) []) (c_choices_over : C8.Cal P w K mg base 2 "choices_over" (spP ROver) []) (c_Say_at : C8.Met P w K mg base 1 C "at" (spP (RAt C)) []) : FnOk P w K mg base CX0 4 f fd ["self", "other"] (spP (ROp C (· && ·))) := by
  refine pure_ok F sc_Say_and (fun ds d h => ?_) (fun cdv A outer s H E hr => ?_)
  · obtain ⟨n1, p1, n2, p2, rfl, _⟩ := h; rfl
  · refine ⟨_, (pss_cons (ps_set (i := 2) sc_Say_and.nd rfl (by first | exact Or.inl rfl | exact Or.inr rfl) (pe_lst (k_star (K := K) rfl (k_fld (K := K) rfl (pv 0) rfl) (k_star (K := K) rfl (k_fld (K := K) rfl (pv 1) rfl) pa_nil)))) (pss_one (ps_ret (C8.pe_c c_said_at hr (by omega) rfl (pa_cons (pv 2) (pa_cons (pe_lc (own := [("row", 3)]) rfl sc_Say_and.nd (k_seq (K := K) rfl (C8.pe_c c_choices_over hr (by omega) rfl (pa_cons (pv 2) pa_nil))) (blkOk_by (own := [("row", 3)]) (N := n_Say_and) (sc := defScope s_Say_and) (by decide +kernel)) (fun _ _ _ _ _ => (pg_name (i := 3) sc_Say_and.nd rfl (by first | exact Or.inl rfl | exact Or.inr rfl))) (fun _ _ _ _ _ => pts_one (PW.pt (pw_and (pt_val (C8.pe_mt c_Say_at hr (by omega) (pv 0) (pa_cons (pv 3) pa_nil))) (pw_and1 (pt_val (C8.pe_mt c_Say_at hr (by omega) (pv 1) (pa_cons (pv 3) pa_nil))))))) (fun _ _ _ _ _ => (pv 3))) pa_nil)))))), ?_⟩
    intro ds d h
    obtain ⟨n1, p1, n2, p2, rfl, h1, h2, hl, rfl⟩ := h
    have hu := uniq_len (n1 ++ n2)
    rw [List.length_append] at hu
    have hc := choices_le (ns := uniq (n1 ++ n2)) (by omega)
    refine .inl (st_seq (st_asg (d := lS (n1 ++ n2)) ?_ ga_name) (st_ret (ev_call (ev_cons (ev_var rfl) (ev_cons (d := lR (opS (· && ·) n1 p1 n2 p2)) (ev_lc (φ := tS) (ei_seqL (ev_call (ev_cons (ev_var rfl) ev_nil) ⟨n1 ++ n2, rfl, by simp; omega, rfl⟩)) (by omega) fun r hr => ⟨_, gw_name (by simp), et_and (et_B (ev_at (ev_var rfl) (ev_var rfl) h1 (okS_choice (okS_uniq (okS_app h1.2.1 h2.2.1)) hr))) fun _ => et_B (ev_at (ev_var rfl) (ev_var rfl) h2 (okS_choice (okS_uniq (okS_app h1.2.1 h2.2.1)) hr)), fun _ => ev_var rfl⟩) ev_nil)) ⟨n1 ++ n2, _, .inl rfl, by simp; omega, okS_app h1.2.1 h2.2.1, opS_ok h1 h2, rfl⟩)))
    have e : lS (n1 ++ n2) = .lst (n1.map D.str ++ (n2.map D.str ++ [])) := by simp [lS]
    rw [e]
    exact ev_lst (ev_starT (ev_names T (ev_var rfl)) (ev_starT (ev_names T (ev_var rfl)) ev_nil)) (by simp; omega)
theorem ok_Say_or {f : Addr} {fd : FuncData} (F : Fun K "__or__" "Say.__or__" s_Say_or f fd) (T : Tx K mg C) (c_said_at : C8.Cal P w K mg base 3 "said_at" (spP (RSaid C)) []) (c_choices_over : C8.Cal P w K mg base 2 "choices_over" (spP ROver) []) (c_Say_at : C8.Met P w K mg base 1 C "at" (spP (RAt C)) []) : FnOk P w K mg base CX0 4 f fd ["self", "other"] (spP (ROp C (· || ·))) := by
  refine pure_ok F sc_Say_or (fun ds d h => ?_) (fun cdv A outer s H E hr => ?_)
  · obtain ⟨n1, p1, n2, p2, rfl, _⟩ := h; rfl
  · refine ⟨_, (pss_cons (ps_set (i := 2) sc_Say_or.nd rfl (by first | exact Or.inl rfl | exact Or.inr rfl) (pe_lst (k_star (K := K) rfl (k_fld (K := K) rfl (pv 0) rfl) (k_star (K := K) rfl (k_fld (K := K) rfl (pv 1) rfl) pa_nil)))) (pss_one (ps_ret (C8.pe_c c_said_at hr (by omega) rfl (pa_cons (pv 2) (pa_cons (pe_lc (own := [("row", 3)]) rfl sc_Say_or.nd (k_seq (K := K) rfl (C8.pe_c c_choices_over hr (by omega) rfl (pa_cons (pv 2) pa_nil))) (blkOk_by (own := [("row", 3)]) (N := n_Say_or) (sc := defScope s_Say_or) (by decide +kernel)) (fun _ _ _ _ _ => (pg_name (i := 3) sc_Say_or.nd rfl (by first | exact Or.inl rfl | exact Or.inr rfl))) (fun _ _ _ _ _ => pts_one (PW.pt (pw_or (pt_val (C8.pe_mt c_Say_at hr (by omega) (pv 0) (pa_cons (pv 3) pa_nil))) (pw_or1 (pt_val (C8.pe_mt c_Say_at hr (by omega) (pv 1) (pa_cons (pv 3) pa_nil))))))) (fun _ _ _ _ _ => (pv 3))) pa_nil)))))), ?_⟩
    intro ds d h
    obtain ⟨n1, p1, n2, p2, rfl, h1, h2, hl, rfl⟩ := h
    have hu := uniq_len (n1 ++ n2)
    rw [List.length_append] at hu
    have hc := choices_le (ns := uniq (n1 ++ n2)) (by omega)
    refine .inl (st_seq (st_asg (d := lS (n1 ++ n2)) ?_ ga_name) (st_ret (ev_call (ev_cons (ev_var rfl) (ev_cons (d := lR (opS (· || ·) n1 p1 n2 p2)) (ev_lc (φ := tS) (ei_seqL (ev_call (ev_cons (ev_var rfl) ev_nil) ⟨n1 ++ n2, rfl, by simp; omega, rfl⟩)) (by omega) fun r hr => ⟨_, gw_name (by simp), et_or (et_B (ev_at (ev_var rfl) (ev_var rfl) h1 (okS_choice (okS_uniq (okS_app h1.2.1 h2.2.1)) hr))) fun _ => et_B (ev_at (ev_var rfl) (ev_var rfl) h2 (okS_choice (okS_uniq (okS_app h1.2.1 h2.2.1)) hr)), fun _ => ev_var rfl⟩) ev_nil)) ⟨n1 ++ n2, _, .inl rfl, by simp; omega, okS_app h1.2.1 h2.2.1, opS_ok h1 h2, rfl⟩)))
    have e : lS (n1 ++ n2) = .lst (n1.map D.str ++ (n2.map D.str ++ [])) := by simp [lS]
    rw [e]
    exact ev_lst (ev_starT (ev_names T (ev_var rfl)) (ev_starT (ev_names T (ev_var rfl)) ev_nil)) (by simp; omega)
theorem ok_Say_xor {f : Addr} {fd : FuncData} (F : Fun K "__xor__" "Say.__xor__" s_Say_xor f fd) (T : Tx K mg C) (c_said_at : C8.Cal P w K mg base 3 "said_at" (spP (RSaid C)) []) (c_choices_over : C8.Cal P w K mg base 2 "choices_over" (spP ROver) []) (c_Say_at : C8.Met P w K mg base 1 C "at" (spP (RAt C)) []) : FnOk P w K mg base CX0 4 f fd ["self", "other"] (spP (ROp C (fun a b => !eqD (.bl a) (.bl b)))) := by
  refine pure_ok F sc_Say_xor (fun ds d h => ?_) (fun cdv A outer s H E hr => ?_)
  · obtain ⟨n1, p1, n2, p2, rfl, _⟩ := h; rfl
  · refine ⟨_, (pss_cons (ps_set (i := 2) sc_Say_xor.nd rfl (by first | exact Or.inl rfl | exact Or.inr rfl) (pe_lst (k_star (K := K) rfl (k_fld (K := K) rfl (pv 0) rfl) (k_star (K := K) rfl (k_fld (K := K) rfl (pv 1) rfl) pa_nil)))) (pss_one (ps_ret (C8.pe_c c_said_at hr (by omega) rfl (pa_cons (pv 2) (pa_cons (pe_lc (own := [("row", 3)]) rfl sc_Say_xor.nd (k_seq (K := K) rfl (C8.pe_c c_choices_over hr (by omega) rfl (pa_cons (pv 2) pa_nil))) (blkOk_by (own := [("row", 3)]) (N := n_Say_xor) (sc := defScope s_Say_xor) (by decide +kernel)) (fun _ _ _ _ _ => (pg_name (i := 3) sc_Say_xor.nd rfl (by first | exact Or.inl rfl | exact Or.inr rfl))) (fun _ _ _ _ _ => pts_one (pt_cmpR (k_ne (K := K) rfl hr) (C8.pe_mt c_Say_at hr (by omega) (pv 0) (pa_cons (pv 3) pa_nil)) (C8.pe_mt c_Say_at hr (by omega) (pv 1) (pa_cons (pv 3) pa_nil)) (nomark _))) (fun _ _ _ _ _ => (pv 3))) pa_nil)))))), ?_⟩
    intro ds d h
    obtain ⟨n1, p1, n2, p2, rfl, h1, h2, hl, rfl⟩ := h
    have hu := uniq_len (n1 ++ n2)
    rw [List.length_append] at hu
    have hc := choices_le (ns := uniq (n1 ++ n2)) (by omega)
    refine .inl (st_seq (st_asg (d := lS (n1 ++ n2)) ?_ ga_name) (st_ret (ev_call (ev_cons (ev_var rfl) (ev_cons (d := lR (opS (fun a b => !eqD (.bl a) (.bl b)) n1 p1 n2 p2)) (ev_lc (φ := tS) (ei_seqL (ev_call (ev_cons (ev_var rfl) ev_nil) ⟨n1 ++ n2, rfl, by simp; omega, rfl⟩)) (by omega) fun r hr => ⟨_, gw_name (by simp), et_test (ev_op (ev_at (ev_var rfl) (ev_var rfl) h1 (okS_choice (okS_uniq (okS_app h1.2.1 h2.2.1)) hr)) (ev_at (ev_var rfl) (ev_var rfl) h2 (okS_choice (okS_uniq (okS_app h1.2.1 h2.2.1)) hr)) (rd_ne ok_bl ok_bl)), fun _ => ev_var rfl⟩) ev_nil)) ⟨n1 ++ n2, _, .inl rfl, by simp; omega, okS_app h1.2.1 h2.2.1, opS_ok h1 h2, rfl⟩)))
    have e : lS (n1 ++ n2) = .lst (n1.map D.str ++ (n2.map D.str ++ [])) := by simp [lS]
    rw [e]
    exact ev_lst (ev_starT (ev_names T (ev_var rfl)) (ev_starT (ev_names T (ev_var rfl)) ev_nil)) (by simp; omega)
theorem ok_Say_invert {f : Addr} {fd : FuncData} (F : Fun K "__invert__" "Say.__invert__" s_Say_invert f fd) (T : Tx K mg C) (c_said_at : C8.Cal P w K mg base 3 "said_at" (spP (RSaid C)) []) (c_choices_of : C8.Cal P w K mg base 1 "choices_of" (spP RChoices) []) (c_Say_at : C8.Met P w K mg base 1 C "at" (spP (RAt C)) []) : FnOk P w K mg base CX0 4 f fd ["self"] (spP (RInv C)) := by
  refine pure_ok F sc_Say_invert (fun ds d h => ?_) (fun cdv A outer s H E hr => ?_)
  · obtain ⟨n1, p1, rfl, _⟩ := h; rfl
  · refine ⟨_, (pss_one (ps_ret (C8.pe_c c_said_at hr (by omega) rfl (pa_cons (k_fld (K := K) rfl (pv 0) rfl) (pa_cons (pe_lc (own := [("row", 1)]) rfl sc_Say_invert.nd (k_seq (K := K) rfl (C8.pe_c c_choices_of hr (by omega) rfl (pa_cons (k_fld (K := K) rfl (pv 0) rfl) pa_nil))) (blkOk_by (own := [("row", 1)]) (N := n_Say_invert) (sc := defScope s_Say_invert) (by decide +kernel)) (fun _ _ _ _ _ => (pg_name (i := 1) sc_Say_invert.nd rfl (by first | exact Or.inl rfl | exact Or.inr rfl))) (fun _ _ _ _ _ => pts_one (pt_not (pt_val (C8.pe_mt c_Say_at hr (by omega) (pv 0) (pa_cons (pv 1) pa_nil))))) (fun _ _ _ _ _ => (pv 1))) pa_nil))))), ?_⟩
    intro ds d h
    obtain ⟨n1, p1, rfl, h1, rfl⟩ := h
    have hc := choices_le h1.1
    exact .inl (st_ret (ev_call (ev_cons (ev_names T (ev_var rfl)) (ev_cons (d := lR (inS n1 p1)) (ev_lc (φ := tS) (ei_seqL (ev_call (ev_cons (ev_names T (ev_var rfl)) ev_nil) ⟨n1, .inr rfl, h1.1, rfl⟩)) (by omega) fun r hr => ⟨_, gw_name (by simp), et_not (et_B (ev_at (ev_var rfl) (ev_var rfl) h1 (okS_choice h1.2.1 hr))), fun _ => ev_var rfl⟩) ev_nil)) ⟨n1, _, .inr rfl, h1.1, h1.2.1, inS_ok h1, rfl⟩))
end
end Du
namespace Du
open PySem L2
section
variable {P : Program} {w : World} {K : PySem.W.Frag} {mg : Str → Option Value} {base : Heap} {C : Addr}
def REq (C : Addr) (ds : List D) (d : D) : Prop := ∃ (n1 : List Str) (p1 : List (List Str)) (n2 : List Str) (p2 : List (List Str)), ds = [SayD C n1 p1, SayD C n2 p2] ∧ wf n1 p1 ∧ wf n2 p2 ∧ d = .bl (decide (n1 = n2) && decide (p1 = p2))
theorem ok_Say_eq {f : Addr} {fd : FuncData} (F : Fun K "__eq__" "Say.__eq__" s_Say_eq f fd) (T : Tx K mg C) : FnOk P w K mg base CX0 1 f fd ["self", "other"] (spP (REq C)) := by
  refine pure_ok F sc_Say_eq (fun ds d h => ?_) (fun cdv A outer s H E hr => ?_)
  · obtain ⟨n1, p1, n2, p2, rfl, _⟩ := h; rfl
  · refine ⟨_, (pss_one (ps_ret (pe_and (pe_callB (k_isi (K := K) rfl) (by rfl) T.isinstance (by decide +kernel) (pa_cons (pv 1) (pa_cons (pe_glob (v := .ref _) rfl T.g_Say rfl) pa_nil))) (pe_and (pe_cmpR (k_eq (K := K) rfl hr) (k_fld (K := K) rfl (pv 0) rfl) (k_fld (K := K) rfl (pv 1) rfl) (nomark _)) (pe_one (pe_cmpR (k_eq (K := K) rfl hr) (k_fld (K := K) rfl (pv 0) rfl) (k_fld (K := K) rfl (pv 1) rfl) (nomark _))))))), ?_⟩
    intro ds d h
    obtain ⟨n1, p1, n2, p2, rfl, h1, h2, rfl⟩ := h
    have e : (decide (n1 = n2) && decide (p1 = p2)) = (true && (eqD (tS n1) (tS n2) && eqD (.tup (p1.map tS)) (.tup (p2.map tS)))) := by
      rw [eqD_tS, eqD_tup, eqv_tSs, Bool.true_and]
    rw [e]
    exact .inl (st_ret (ev_andV (ev_cb (ev_cons (ev_var rfl) (ev_cons (fun _ _ H _ _ _ q => q _ H (Ex.rf H) (.ptr C)) ev_nil)) (rl_isiI T.cl T.ic T.isg T.itk T.imr)) fun _ => ev_andV (ev_op (ev_names T (ev_var rfl)) (ev_names T (ev_var rfl)) (rd_eq ((okE_tS h1.2.1).e (by decide)) ((okE_tS h2.2.1).e (by decide)))) fun _ => ev_op (ev_points T (ev_var rfl)) (ev_points T (ev_var rfl)) (rd_eq ((okE_tR h1.2.2.1).e (by decide)) ((okE_tR h2.2.2.1).e (by decide)))))
def RHolds (C : Addr) (ds : List D) (d : D) : Prop := ∃ (ns : List Str) (ps : List (List Str)) (row : List Str), (ds = [SayD C ns ps, tS row] ∨ ds = [SayD C ns ps, lS row]) ∧ wf ns ps ∧ okS row ∧ (∀ n ∈ row, nmOk n = true) ∧ d = .bl (atS ns ps row)
theorem ok_Say_holds {f : Addr} {fd : FuncData} (F : Fun K "holds" "Say.holds" s_Say_holds f fd) (T : Tx K mg C) (c_check_name : C8.Cal P w K mg base 2 "check_name" (spP RCheck) []) (c_Say_at : C8.Met P w K mg base 1 C "at" (spP (RAt C)) []) : FnOk P w K mg base CX0 3 f fd ["self", "true"] (spP (RHolds C)) := by
  refine pure_ok F sc_Say_holds (fun ds d h => ?_) (fun cdv A outer s H E hr => ?_)
  · obtain ⟨n1, p1, row, rfl | rfl, _⟩ := h <;> rfl
  · refine ⟨_, (pss_cons (ps_for PassesOwn.never rfl (k_seq (K := K) rfl (pv 1)) (pg_name (i := 2) sc_Say_holds.nd rfl (by first | exact Or.inl rfl | exact Or.inr rfl)) (pss_one (ps_expr (C8.pe_c c_check_name hr (by omega) rfl (pa_cons (pv 2) pa_nil))))) (pss_one (ps_ret (C8.pe_mt c_Say_at hr (by omega) (pv 0) (pa_cons (pv 1) pa_nil))))), ?_⟩
    intro ds d h
    obtain ⟨ns, ps, row, hds, h1, ho, hn, rfl⟩ := h
    obtain ⟨d0, rfl, hI, hA⟩ : ∃ d0, ds = [SayD C ns ps, d0] ∧ (∀ o, EvI (iSeq K (tVar 1)) [some (SayD C ns ps), some d0, o] (row.map D.str)) ∧ (∀ o, Ev (tMeth C "at" (spP (RAt C)) [] C8.E0 (tVar 0) (tCons (tVar 1) tNil)) [some (SayD C ns ps), some d0, o] (.bl (atS ns ps row))) := by
      rcases hds with rfl | rfl
      · exact ⟨_, rfl, fun o => ei_seqT (ev_var rfl), fun o => ev_at (ev_var rfl) (ev_var rfl) h1 ho⟩
      · exact ⟨_, rfl, fun o => ei_seqL (ev_var rfl), fun o => ev_atL (ev_var rfl) (ev_var rfl) h1 ho⟩
    refine .inl (st_seq (st_for (fun i => [some (SayD C ns ps), some d0, none]) (hI none) (Lq.rf _) ?_) (st_ret (hA none)))
    intro i d hd
    rw [List.getElem?_map] at hd
    obtain ⟨n, hn', rfl⟩ := Option.map_eq_some_iff.mp hd
    exact ⟨_, _, ga_name, st_drop (ev_call (ev_cons (ev_var rfl) ev_nil) ⟨n, rfl, hn n (List.mem_of_getElem? hn'), rfl⟩), .keep (.keep (.skip .nil))⟩
def RTest (C : Addr) (ds : List D) (d : D) : Prop := ∃ s : Str, ds = [.str s] ∧ nmOk s = true ∧ d = SayD C [s] [[s]]
theorem ok_Say_test {f : Addr} {fd : FuncData} (F : Fun K "test" "Say.test" s_Say_test f fd) (T : Tx K mg C) (c_check_name : C8.Cal P w K mg base 2 "check_name" (spP RCheck) []) (c_Say : C8.Mak P w K mg base 1 "Say" C (spM (RInit C)) []) : FnOk P w K mg base CX0 3 f fd ["name"] (spP (RTest C)) := by
  refine pure_ok F sc_Say_test (fun ds d h => ?_) (fun cdv A outer s H E hr => ?_)
  · obtain ⟨s, rfl, _⟩ := h; rfl
  · refine ⟨_, (pss_cons (ps_expr (C8.pe_c c_check_name hr (by omega) rfl (pa_cons (pv 0) pa_nil))) (pss_one (ps_ret (C8.pe_mk c_Say hr (by omega) rfl (pa_cons (pe_lst (pa_cons (pv 0) pa_nil)) (pa_cons (pe_lst (pa_cons (pe_tup (pa_cons (pv 0) pa_nil)) pa_nil)) pa_nil)))))), ?_⟩
    intro ds d h
    obtain ⟨s, rfl, hn, rfl⟩ := h
    exact .inl (st_seq (st_drop (ev_call (ev_cons (ev_var rfl) ev_nil) ⟨s, rfl, hn, rfl⟩)) (st_ret (ev_make (ds := [lS [s], lR [[s]]]) (ev_cons (ev_lst (ev_cons (ev_var rfl) ev_nil) (by simp)) (ev_cons (ev_lst (ev_cons (ev_tup (ev_cons (ev_var rfl) ev_nil) (by simp)) ev_nil) (by simp)) ev_nil)) fun p => ⟨p, [s], [[s]], rfl, rfl, rfl, rfl⟩)))
def RYes (C : Addr) (ds : List D) (d : D) : Prop := ds = [] ∧ d = SayD C [] [[]]
theorem ok_Say_yes {f : Addr} {fd : FuncData} (F : Fun K "yes" "Say.yes" s_Say_yes f fd) (T : Tx K mg C) (c_Say : C8.Mak P w K mg base 1 "Say" C (spM (RInit C)) []) : FnOk P w K mg base CX0 3 f fd [] (spP (RYes C)) := by
  refine pure_ok F sc_Say_yes (fun ds d h => ?_) (fun cdv A outer s H E hr => ?_)
  · obtain ⟨rfl, _⟩ := h; rfl
  · refine ⟨_, (pss_one (ps_ret (C8.pe_mk c_Say hr (by omega) rfl (pa_cons (pe_lst pa_nil) (pa_cons (pe_lst (pa_cons (pe_tup pa_nil) pa_nil)) pa_nil))))), ?_⟩
    intro ds d h
    obtain ⟨rfl, rfl⟩ := h
    exact .inl (st_ret (ev_make (ds := [lS [], lR [[]]]) (ev_cons (ev_lst ev_nil (by simp)) (ev_cons (ev_lst (ev_cons (ev_tup ev_nil (by simp)) ev_nil) (by simp)) ev_nil)) fun p => ⟨p, [], [[]], rfl, rfl, rfl, rfl⟩))
def RNo (C : Addr) (ds : List D) (d : D) : Prop := ds = [] ∧ d = SayD C [] []
theorem ok_Say_no {f : Addr} {fd : FuncData} (F : Fun K "no" "Say.no" s_Say_no f fd) (T : Tx K mg C) (c_Say : C8.Mak P w K mg base 1 "Say" C (spM (RInit C)) []) : FnOk P w K mg base CX0 3 f fd [] (spP (RNo C)) := by
  refine pure_ok F sc_Say_no (fun ds d h => ?_) (fun cdv A outer s H E hr => ?_)
  · obtain ⟨rfl, _⟩ := h; rfl
  · refine ⟨_, (pss_one (ps_ret (C8.pe_mk c_Say hr (by omega) rfl (pa_cons (pe_lst pa_nil) (pa_cons (pe_lst pa_nil) pa_nil))))), ?_⟩
    intro ds d h
    obtain ⟨rfl, rfl⟩ := h
    exact .inl (st_ret (ev_make (ds := [lS [], lR []]) (ev_cons (ev_lst ev_nil (by simp)) (ev_cons (ev_lst ev_nil (by simp)) ev_nil)) fun p => ⟨p, [], [], rfl, rfl, rfl, rfl⟩))
/-! what said_at makes is in order -/
theorem said_wf {ns : List Str} {pts : List (List Str)} (hl : ns.length ≤ 12) (ho : okS ns) : wf (sN ns pts) (sP ns pts) := by
  have h1 := (sN_sub ns pts).length_le
  have h2 := uniq_len ns
  have h3 := choices_le (ns := sN ns pts) (by omega)
  have o1 : okS (sN ns pts) := okS_sub (okS_uniq ho) fun x hx => (sN_sub ns pts).subset hx
  refine ⟨by omega, o1, fun p hp => okS_choice o1 (List.mem_filter.mp hp).1, ?_⟩
  have := List.length_filter_le (fun r => decide (r ∈ pts)) (choices (sN ns pts))
  unfold sP; omega
theorem wf_nil : wf [] [] := ⟨by decide, fun _ h => absurd h (by simp), fun _ h => absurd h (by simp), by decide⟩
theorem sN_len (ns : List Str) (pts : List (List Str)) : (sN ns pts).length ≤ ns.length := Nat.le_trans (sN_sub ns pts).length_le (uniq_len ns)
def leB (n1 : List Str) (p1 : List (List Str)) (n2 : List Str) (p2 : List (List Str)) : Bool :=
  let n3 := sN n2 (inS n2 p2); let p3 := sP n2 (inS n2 p2)
  decide (sN (n1 ++ n3) (opS (· && ·) n1 p1 n3 p3) = []) && decide (sP (n1 ++ n3) (opS (· && ·) n1 p1 n3 p3) = [])
def RLe (C : Addr) (ds : List D) (d : D) : Prop := ∃ (n1 : List Str) (p1 : List (List Str)) (n2 : List Str) (p2 : List (List Str)), ds = [SayD C n1 p1, SayD C n2 p2] ∧ wf n1 p1 ∧ wf n2 p2 ∧ n1.length + n2.length ≤ 12 ∧ d = .bl (leB n1 p1 n2 p2)
theorem ok_Say_le {f : Addr} {fd : FuncData} (F : Fun K "__le__" "Say.__le__" s_Say_le f fd) (T : Tx K mg C) (o_and : OBin P w K mg base 4 C .BitAnd (spP (ROp C (· && ·)))) (o_inv : OInv P w K mg base 4 C (spP (RInv C))) (o_eq : OCmp P w K mg base 1 C .Eq (spP (REq C))) (s_no : OSm P w K mg base 3 C "no" (spP (RNo C))) : FnOk P w K mg base CX0 5 f fd ["self", "other"] (spP (RLe C)) := by
  refine pure_ok F sc_Say_le (fun ds d h => ?_) (fun cdv A outer s H E hr => ?_)
  · obtain ⟨n1, p1, n2, p2, rfl, _⟩ := h; rfl
  · refine ⟨_, (pss_one (ps_ret (pe_cmpR (k_cmp o_eq (by intros; rfl) hr (by omega)) (pe_op (k_bin o_and hr (by omega)) (pv 0) (pe_un (k_inv o_inv hr (by omega)) (pv 1))) (k_sm0 s_no hr (by omega) (pe_glob (v := .ref _) rfl T.g_Say rfl)) (nomark _)))), ?_⟩
    intro ds d h
    obtain ⟨n1, p1, n2, p2, rfl, h1, h2, hl, rfl⟩ := h
    have h3 := said_wf (pts := inS n2 p2) h2.1 h2.2.1
    have hl3 := sN_len n2 (inS n2 p2)
    refine .inl (st_ret (ev_op (ev_op (ev_var rfl) (ev_un (ev_var rfl) (r1_inv ⟨n2, p2, rfl, h2, rfl⟩)) (rd_bin ⟨n1, p1, _, _, rfl, h1, h3, by omega, rfl⟩)) (ev_sm0 (fun _ _ H _ _ _ q => q _ H (Ex.rf H) (.ptr C)) ⟨rfl, rfl⟩) (rd_bin ⟨_, _, [], [], rfl, said_wf (by rw [List.length_append]; omega) (okS_app h1.2.1 h3.2.1), wf_nil, rfl⟩)))
def ltB (n1 : List Str) (p1 : List (List Str)) (n2 : List Str) (p2 : List (List Str)) : Bool := leB n1 p1 n2 p2 && !(decide (n1 = n2) && decide (p1 = p2))
def RLt (C : Addr) (ds : List D) (d : D) : Prop := ∃ (n1 : List Str) (p1 : List (List Str)) (n2 : List Str) (p2 : List (List Str)), ds = [SayD C n1 p1, SayD C n2 p2] ∧ wf n1 p1 ∧ wf n2 p2 ∧ n1.length + n2.length ≤ 12 ∧ d = .bl (ltB n1 p1 n2 p2)
theorem ok_Say_lt {f : Addr} {fd : FuncData} (F : Fun K "__lt__" "Say.__lt__" s_Say_lt f fd) (T : Tx K mg C) (o_le : OCmp P w K mg base 5 C .LtE (spP (RLe C))) (o_ne : ONe P w K mg base 1 C (spP (REq C))) : FnOk P w K mg base CX0 6 f fd ["self", "other"] (spP (RLt C)) := by
  refine pure_ok F sc_Say_lt (fun ds d h => ?_) (fun cdv A outer s H E hr => ?_)
  · obtain ⟨n1, p1, n2, p2, rfl, _⟩ := h; rfl
  · refine ⟨_, (pss_one (ps_ret (pe_and (pe_cmpR (k_cmp o_le (by intros; rfl) hr (by omega)) (pv 0) (pv 1) (nomark _)) (pe_one (pe_cmpR (k_neOwn o_ne hr (by omega)) (pv 0) (pv 1) (nomark _)))))), ?_⟩
    intro ds d h
    obtain ⟨n1, p1, n2, p2, rfl, h1, h2, hl, rfl⟩ := h
    exact .inl (st_ret (ev_andV (ev_op (ev_var rfl) (ev_var rfl) (rd_bin ⟨n1, p1, n2, p2, rfl, h1, h2, hl, rfl⟩)) fun _ => ev_op (ev_var rfl) (ev_var rfl) (rd_neOwn ⟨n1, p1, n2, p2, rfl, h1, h2, rfl⟩)))
end
end Du
namespace Du
open PySem L2
section
variable {P : Program} {w : World} {K : PySem.W.Frag} {mg : Str → Option Value} {base : Heap} {C : Addr}
def RPick (ds : List D) (μ : Mu) (Φ : D → Mu → Prop) : Prop := ∃ (a c : Addr) (N : Nat) (xs : List D), ds = [.ptr a, .lst xs] ∧ SpS a c N μ ∧ N < 100000 ∧ 0 < xs.length ∧ xs.length < 100000 ∧
  ∀ (μ' : Mu) (d : D), SpS a c (N + 1) μ' → d ∈ xs → Φ d μ'
abbrev s_law_pick : Stmt := top 25
abbrev n_law_pick : List Str := ["_law_spring_here", "_law_things"]
theorem sc_law_pick : FnScope n_law_pick ["_law_spring_here", "_law_things"] (defScope s_law_pick) := ⟨rfl, rfl, rfl, by decide +kernel, rfl, by decide +kernel, by decide +kernel⟩

theorem ok_law_pick {f : Addr} {fd : FuncData} (F : Fun K "_law_pick" "_law_pick" s_law_pick f fd) (T : Bn mg) (c_law_draw : C8.Cal P w K mg base 1 "_law_draw" (spM RDraw) []) : FnOk P w K mg base CX0 2 f fd ["_law_spring_here", "_law_things"] (spM RPick) := by
  refine eff_ok F sc_law_pick (fun ds μ Φ h => ?_) (fun cdv A outer s H E hr => ?_)
  · obtain ⟨a, c, N, xs, rfl, _⟩ := h; rfl
  · refine ⟨_, (pss_one (ps_ret (pe_ix (k_ix (K := K) rfl) (pv 1) (C8.pe_c c_law_draw hr (by omega) rfl (pa_cons (pv 0) (pa_cons (pe_callB (k_len (K := K) rfl) (by rfl) T.len (by decide +kernel) (pa_cons (pv 1) pa_nil)) pa_nil))) (fun _ _ => rfl)))), ?_⟩
    intro ds μ Φ h
    obtain ⟨a, c, N, xs, rfl, hs, hN, h0, h1, q⟩ := h
    refine gs_ret (ge_op (ge_ev (ev_var rfl) (ge_callA (gea_ev (ev_cons (ev_var rfl) (ev_cons (ev_cb (ev_cons (ev_var rfl) ev_nil) rl_lenL) ev_nil)) ⟨a, c, N, xs.length, rfl, hs, hN, h0, h1, fun μ' d hs' hd => ⟨xs[d], rd_ixL (List.getElem?_eq_getElem hd), ?_, q μ' _ hs' (List.getElem_mem hd)⟩⟩))))
    rw [hs'.fst, hs.fst]
def RLChoices (ds : List D) (d : D) : Prop := ∃ ns : List Str, ds = [lS ns] ∧ ns.length ≤ 12 ∧ d = lR (choices (srt ns))
abbrev lB (bs : List Bool) : D := .lst (bs.map D.bl)
/-! names -/
theorem map_erase {α β : Type} (f : α → β) : ∀ (l : List α) (i : Nat), (l.map f).eraseIdx i = (l.eraseIdx i).map f
  | [], _ => by simp
  | _ :: _, 0 => rfl
  | x :: l, i + 1 => by simp [map_erase f l i]
theorem erase_perm {α : Type} : ∀ {l : List α} {j : Nat} (h : j < l.length), (l[j] :: l.eraseIdx j).Perm l
  | _ :: _, 0, _ => List.Perm.refl _
  | x :: l, j + 1, h => by
    have ih := erase_perm (l := l) (j := j) (by simpa using h)
    exact (List.Perm.swap x _ _).trans (ih.cons x)
def menu : List Str := ["a", "b", "c", "ab", "ba", "zz", "ready", "busy", "yes", "no", "test", "longname", "q", "x"]
def RNames (ds : List D) (μ : Mu) (Φ : D → Mu → Prop) : Prop := ∃ (a c : Addr) (N k : Nat), ds = [.ptr a, .int k] ∧ SpS a c N μ ∧ N < 90000 ∧ k ≤ 10 ∧
  ∀ (μ' : Mu) (ns : List Str), SpS a c (N + k) μ' → ns.length = k → ns.Nodup → (∀ n ∈ ns, n ∈ menu) → Φ (lS ns) μ'
theorem menu_nodup : menu.Nodup := by decide +kernel
abbrev s_law_names : Stmt := top 27
abbrev n_law_names : List Str := ["_law_spring_here", "_law_many", "_law_menu", "_law_k"]
theorem sc_law_names : FnScope n_law_names ["_law_spring_here", "_law_many"] (defScope s_law_names) := ⟨rfl, rfl, rfl, by decide +kernel, rfl, by decide +kernel, by decide +kernel⟩

theorem ok_law_names {f : Addr} {fd : FuncData} (F : Fun K "_law_names" "_law_names" s_law_names f fd) (T : Bn mg) (c_law_draw : C8.Cal P w K mg base 1 "_law_draw" (spM RDraw) []) : FnOk P w K mg base CX0 2 f fd ["_law_spring_here", "_law_many"] (spM RNames) := by
  refine eff_ok F sc_law_names (fun ds μ Φ h => ?_) (fun cdv A outer s H E hr => ?_)
  · obtain ⟨a, c, N, k, rfl, _⟩ := h; rfl
  · refine ⟨_, (pss_cons (ps_set (i := 2) sc_law_names.nd rfl (by first | exact Or.inl rfl | exact Or.inr rfl) (pe_lst (pa_cons pe_str (pa_cons pe_str (pa_cons pe_str (pa_cons pe_str (pa_cons pe_str (pa_cons pe_str (pa_cons pe_str (pa_cons pe_str (pa_cons pe_str (pa_cons pe_str (pa_cons pe_str (pa_cons pe_str (pa_cons pe_str (pa_cons pe_str pa_nil)))))))))))))))) (pss_one (ps_ret (pe_lc (own := [("_law_k", 3)]) rfl sc_law_names.nd (pi_range1 (by rfl) T.range (pa_cons (pv 1) pa_nil)) (blkOk_by (own := [("_law_k", 3)]) (N := n_law_names) (sc := defScope s_law_names) (by decide +kernel)) (fun _ _ _ _ _ => (pg_name (i := 3) sc_law_names.nd rfl (by first | exact Or.inl rfl | exact Or.inr rfl))) (fun _ _ _ _ _ => pts_nil) (fun _ _ _ _ _ => (k_bm (K := K) rfl PySem.F.plainAttrs_list PySem.F.slot_list_pop PySem.F.type_list_pop mt_popAt (pv 2) (pa_cons (C8.pe_c c_law_draw hr (by omega) rfl (pa_cons (pv 0) (pa_cons (pe_callB (k_len (K := K) rfl) (by rfl) T.len (by decide +kernel) (pa_cons (pv 2) pa_nil)) pa_nil))) pa_nil))))))), ?_⟩
    intro ds μ Φ h
    obtain ⟨a, c, N, k, rfl, hs, hN, hk, q⟩ := h
    refine gs_own (gea_ev (ds := menu.map D.str) (ev_cons ev_str (ev_cons ev_str (ev_cons ev_str (ev_cons ev_str (ev_cons ev_str (ev_cons ev_str (ev_cons ev_str (ev_cons ev_str (ev_cons ev_str (ev_cons ev_str (ev_cons ev_str (ev_cons ev_str (ev_cons ev_str (ev_cons ev_str ev_nil)))))))))))))) ⟨by decide, fun b _ => ?_⟩)
    refine gs_ret (ge_lc (fun i acc μi => ∃ ns rest μs, acc = ns.map D.str ∧ μi = (b, lS rest) :: μs ∧ SpS a c (N + i) μs ∧ ns.length = i ∧ (ns ++ rest).Perm menu) (ei_range1 (n := k) (ev_cons (ev_var rfl) ev_nil) (by omega)) (by simp; omega) ⟨[], menu, μ, rfl, rfl, hs, rfl, List.Perm.refl _⟩ ?_ ?_)
    · rintro i d acc μi hd ⟨ns, rest, μs, rfl, rfl, hs', hl, hp⟩
      have hi : i < k := by have := (List.getElem?_eq_some_iff.mp hd).1; simpa using this
      have hpl := hp.length_eq
      rw [List.length_append, hl, show menu.length = 14 from rfl] at hpl
      refine ⟨_, true, gw_name (by simp), et_yes, fun _ => ?_, fun h => by cases h⟩
      refine ge_popO (ge_ev (ev_var rfl) ⟨b, 0, _, rfl, rfl, gea_cons (ge_callL (gea_cons (ge_ev (ev_var rfl) (gea_cons (ge_lenO (gea_ev (ev_cons (ev_var rfl) ev_nil) ⟨b, 0, _, rfl, rfl, gea_nil ⟨[(b, lS rest)], μs, rfl, a, c, N + i, rest.length, by simp, hs', by omega, by omega, by omega, fun μ' j hs'' hj => ?_⟩⟩))))))⟩)
      refine gea_nil ⟨rest.map D.str, j, .str rest[j], rfl, rfl, by omega, by rw [List.getElem?_map, List.getElem?_eq_getElem hj]; rfl, ns ++ [rest[j]], rest.eraseIdx j, μ', by simp, ?_, hs'', by simp [hl], ?_⟩
      · show (b, D.lst ((rest.map D.str).eraseIdx j)) :: μ' = _
        rw [map_erase]
      · refine List.Perm.trans ?_ hp
        rw [List.append_assoc]
        exact List.Perm.append_left ns (erase_perm hj)
    · rintro acc μ' ⟨ns, rest, μs, rfl, rfl, hs', hl, hp⟩
      simp only [List.length_map, List.length_range] at hs' hl
      have nd : (ns ++ rest).Nodup := hp.nodup_iff.mpr menu_nodup
      refine ⟨μs, .inr ⟨_, rfl⟩, by rw [hs'.fst, hs.fst], q μs ns hs' hl (List.nodup_append.mp nd).1 fun n hn => hp.mem_iff.mp (List.mem_append_left _ hn)⟩
end
end Du
namespace Du
open PySem L2
/-! trees -/
inductive O3 where
  | and | or | xor
def O3.nm : O3 → Str
  | .and => "and"
  | .or => "or"
  | .xor => "xor"
def O3.fn : O3 → Bool → Bool → Bool
  | .and => (· && ·)
  | .or => (· || ·)
  | .xor => fun a b => !eqD (.bl a) (.bl b)
inductive Tr where
  | yes | no
  | test (n : Str)
  | not (t : Tr)
  | bin (o : O3) (t u : Tr)
def trD : Tr → D
  | .yes => .tup [.str "yes"]
  | .no => .tup [.str "no"]
  | .test n => .tup [.str "test", .str n]
  | .not t => .tup [.str "not", trD t]
  | .bin o t u => .tup [.str o.nm, trD t, trD u]
def dep : Tr → Nat
  | .yes => 1
  | .no => 1
  | .test _ => 1
  | .not t => dep t + 1
  | .bin _ t u => max (dep t) (dep u) + 1
def tn : Tr → List Str
  | .yes => []
  | .no => []
  | .test n => [n]
  | .not t => tn t
  | .bin _ t u => tn t ++ tn u
def evT : Tr → List Str → Bool
  | .yes, _ => true
  | .no, _ => false
  | .test n, r => decide (n ∈ r)
  | .not t, r => !evT t r
  | .bin o t u, r => o.fn (evT t r) (evT u r)
def cost : Nat → Nat
  | 0 => 2
  | d + 1 => 1 + 2 * cost d
theorem cost_two (d : Nat) : 2 ≤ cost d := by
  cases d with
  | zero => exact Nat.le_refl _
  | succ d => have := cost_two d; unfold cost; omega
section
variable {P : Program} {w : World} {K : PySem.W.Frag} {mg : Str → Option Value} {base : Heap} {C : Addr}
theorem mkCal {x : Str} {st : Stmt} {f : Addr} {fd : FuncData} {ps : List Str} {k : Nat} {sp : Sp} (F : Fun K x x st f fd) (hm : mg x = some (.ref f)) (hb : Binds K fd ps []) (ok : FnOk P w K mg base CX0 k f fd ps sp) : C8.Cal P w K mg base k x sp [] := ⟨f, fd, ps, [], ok, hm, F.kp, hb, .nil⟩
def RTree (d : Nat) (ds : List D) (μ : Mu) (Φ : D → Mu → Prop) : Prop := ∃ (a c : Addr) (N : Nat) (ns : List Str), ds = [.ptr a, lS ns, .int d] ∧ SpS a c N μ ∧ N + cost d < 90000 ∧ ns.length ≤ 10 ∧ okS ns ∧
  ∀ (μ' : Mu) (t : Tr), SpS a c (N + cost d) μ' → dep t ≤ d + 1 → (∀ n ∈ tn t, n ∈ ns) → Φ (trD t) μ'
def RTreeP (D : Nat) (ds : List Du.D) (μ : Mu) (Φ : Du.D → Mu → Prop) : Prop := ∃ d, D = d + 1 ∧ RTree d ds μ Φ
theorem okS_nil : okS [] := fun _ h => absurd h (by simp)
theorem leaf_of {ns : List Str} {d : D} (h : d ∈ [trD .yes, trD .no] ++ (List.replicate 3 (ns.map fun n => trD (.test n))).flatten) : ∃ t, d = trD t ∧ dep t = 1 ∧ ∀ n ∈ tn t, n ∈ ns := by
  rcases List.mem_append.mp h with h | h
  · rcases List.mem_cons.mp h with rfl | h
    · exact ⟨.yes, rfl, rfl, fun n h => by simp [tn] at h⟩
    · rcases List.mem_cons.mp h with rfl | h
      · exact ⟨.no, rfl, rfl, fun n h => by simp [tn] at h⟩
      · cases h
  · obtain ⟨l, hl, hd⟩ := List.mem_flatten.mp h
    have := (List.mem_replicate.mp hl).2
    subst this
    obtain ⟨n, hn, rfl⟩ := List.mem_map.mp hd
    exact ⟨.test n, rfl, rfl, fun m hm => by simp [tn] at hm; exact hm ▸ hn⟩
theorem fn_none {x qual : Str} {st : Stmt} {f : Addr} {fd : FuncData} {N ps : List Str} {sp : Sp} {k : Nat} (F : Fun K x qual st f fd) (S : FnScope N ps (defScope st)) (h : ∀ vs H Q E, ¬ sp vs H Q E) : FnOk P w K mg base CX0 (k + 1) f fd ps sp := F.ok S (fun vs H Q E g => (h _ _ _ _ g).elim) (fun cdv A outer s H vs Q E hr g => (h _ _ _ _ g).elim)
end
end Du
namespace Du
open PySem L2
theorem yn_in (s : Str) : inD (.str s) [.str "yes", .str "no"] = decide (s ∈ ([("yes" : Str), "no"] : List Str)) := inD_strs s ["yes", "no"]
theorem sOk_yes : PyData.strOk "yes" = true := by decide +kernel
theorem sOk_no : PyData.strOk "no" = true := by decide +kernel
theorem sOk_test : PyData.strOk "test" = true := by decide +kernel
theorem sOk_not : PyData.strOk "not" = true := by decide +kernel
theorem sOk_and : PyData.strOk "and" = true := by decide +kernel
theorem sOk_or : PyData.strOk "or" = true := by decide +kernel
theorem sOk_xor : PyData.strOk "xor" = true := by decide +kernel
theorem sOk_nm (o : O3) : PyData.strOk o.nm = true := by cases o <;> decide +kernel
theorem f1 : ¬ ("test" : Str) ∈ ([("yes" : Str), "no"] : List Str) := by decide +kernel
theorem f2 : ¬ ("not" : Str) ∈ ([("yes" : Str), "no"] : List Str) := by decide +kernel
theorem f3 (o : O3) : ¬ o.nm ∈ ([("yes" : Str), "no"] : List Str) := by cases o <;> decide +kernel
theorem f4 : ¬ ("not" : Str) = "test" := by decide +kernel
theorem f5 (o : O3) : ¬ o.nm = ("test" : Str) := by cases o <;> decide +kernel
theorem f6 (o : O3) : ¬ o.nm = ("not" : Str) := by cases o <;> decide +kernel
theorem f7 : ¬ ("and" : Str) = "xor" := by decide +kernel
theorem f8 : ¬ ("or" : Str) = "xor" := by decide +kernel
theorem f9 : ¬ ("or" : Str) = "and" := by decide +kernel
theorem f10 : ¬ ("no" : Str) = "yes" := by decide +kernel
theorem f11 : ¬ ("yes" : Str) = "test" := by decide +kernel
theorem f12 : ¬ ("no" : Str) = "test" := by decide +kernel
/-- the first word of a tree -/
def tag : Tr → Str
  | .yes => "yes"
  | .no => "no"
  | .test _ => "test"
  | .not _ => "not"
  | .bin o _ _ => o.nm
theorem tag_ok (t : Tr) : PyData.strOk (tag t) = true := by
  cases t with
  | bin o t u => exact sOk_nm o
  | yes => exact sOk_yes
  | no => exact sOk_no
  | test n => exact sOk_test
  | not t => exact sOk_not
section
variable {P : Program} {w : World} {K : PySem.W.Frag} {mg : Str → Option Value} {base : Heap} {C : Addr} {ρ : Rho}
theorem ev_tag {te : TE} {t : Tr} (h : Ev te ρ (trD t)) : Ev (tOp (rIx K) te (tC (.int 0))) ρ (.str (tag t)) := by
  cases t <;> exact ev_op h ev_int (rd_ixT (i := 0) rfl)
theorem et_yn {te : TE} {t : Tr} (h : Ev te ρ (trD t)) : EvT (tTest (tOp (rInU K) (tOp (rIx K) te (tC (.int 0))) (tTup (tCons (tC (.str "yes")) (tCons (tC (.str "no")) tNil))))) ρ (decide (tag t ∈ ([("yes" : Str), "no"] : List Str))) := by
  rw [← yn_in]
  exact et_test (ev_op (ev_tag h) (ev_tup (ev_cons ev_str (ev_cons ev_str ev_nil)) (by simp)) (rd_inT (ok_str (tag_ok t)) ((okN_tup (n := 0) fun d hd => by
    rcases List.mem_cons.mp hd with rfl | hd
    · exact okN_str sOk_yes
    · have := List.mem_singleton.mp hd; subst this; exact okN_str sOk_no).e (by decide))))
theorem et_tag {te : TE} {t : Tr} {s : Str} (h : Ev te ρ (trD t)) (hs : PyData.strOk s = true) : EvT (tTest (tOp (rEqD K) (tOp (rIx K) te (tC (.int 0))) (tC (.str s)))) ρ (decide (tag t = s)) := by
  rw [← eqD_str]
  exact et_test (ev_op (ev_tag h) ev_str (rd_eq (ok_str (tag_ok t)) (ok_str hs)))
def RTH (n : Nat) (ds : List D) (d : D) : Prop := ∃ (t : Tr) (row : List Str), (ds = [trD t, tS row] ∨ ds = [trD t, lS row]) ∧ dep t ≤ n ∧ okS (tn t) ∧ okS row ∧ d = .bl (evT t row)
theorem dep_pos (t : Tr) : 0 < dep t := by cases t <;> simp [dep]
end
end Du
namespace Du
open PySem L2
/-! the mathematics of says -/
theorem filter_in_self {r ns : List Str} (hn : SS ns) (h : r.Sublist ns) : ns.filter (fun x => decide (x ∈ r)) = r :=
  (hn.filter _).ext (hn.sub h) fun x => by
    simp only [List.mem_filter, decide_eq_true_eq]
    exact ⟨fun z => z.2, fun z => ⟨h.subset z, z⟩⟩
/-- a name that does not matter -/
theorem drop_one {ev : List Str} {pts : List (List Str)} (he : SS ev) {m : Str} (hm : ess ev pts m = false) (hmm : m ∈ ev) {row : List Str} (hr : row.Sublist ev) : (row ∈ pts ↔ row.filter (fun x => !decide (x = m)) ∈ pts) := by
  have key : ∀ r : List Str, r.Sublist ev → (r ∈ pts ↔ setTo r m true ∈ pts) := fun r hr => by
    have h := hm
    unfold ess at h
    rw [List.any_eq_false] at h
    have := h r (mem_choices.mpr hr)
    by_cases h1 : r ∈ pts <;> by_cases h2 : setTo r m true ∈ pts <;> simp [h1, h2] at this ⊢
  have hs : (row.filter (fun x => !decide (x = m))).Sublist ev := List.filter_sublist.trans hr
  have e : setTo (row.filter (fun x => !decide (x = m))) m true = setTo row m true :=
    (setTo_SS (he.2.sublist hs)).ext (setTo_SS (he.2.sublist hr)) fun x => by
      rw [setTo_mem, setTo_mem, List.mem_filter]
      by_cases z : x = m <;> simp [z]
  rw [key row hr, key _ hs, e]
theorem drop_all {ev : List Str} {pts : List (List Str)} (he : SS ev) {row : List Str} (hr : row.Sublist ev) : ∀ L : List Str, (∀ m ∈ L, ess ev pts m = false ∧ m ∈ ev) → (row ∈ pts ↔ row.filter (fun x => !decide (x ∈ L)) ∈ pts)
  | [], _ => by rw [List.filter_eq_self.mpr (by simp)]
  | m :: L, h => by
    have ih := drop_all he hr L fun x hx => h x (List.mem_cons_of_mem _ hx)
    have hm := h m List.mem_cons_self
    rw [ih, drop_one he hm.1 hm.2 (List.filter_sublist.trans hr), List.filter_filter]
    have e : (fun x => !decide (x = m) && !decide (x ∈ L)) = fun x => !decide (x ∈ m :: L) := by
      funext x
      by_cases z : x = m <;> by_cases y : x ∈ L <;> simp [z, y]
    rw [e]
theorem said_key {ns : List Str} {pts : List (List Str)} {row : List Str} (hr : row.Sublist (uniq ns)) : (row ∈ pts ↔ (sN ns pts).filter (fun x => decide (x ∈ row)) ∈ pts) := by
  have se := SS.uniq ns
  rw [drop_all se hr ((uniq ns).filter fun x => !ess (uniq ns) pts x) fun m hm => by
    have := List.mem_filter.mp hm
    exact ⟨by simpa using this.2, this.1⟩]
  have e : row.filter (fun x => !decide (x ∈ (uniq ns).filter fun x => !ess (uniq ns) pts x)) = (sN ns pts).filter (fun x => decide (x ∈ row)) :=
    ((se.sub hr).filter _).ext ((se.sub (sN_sub ns pts)).filter _) fun x => by
      unfold sN
      simp only [List.mem_filter, decide_eq_true_eq, Bool.not_eq_true', decide_eq_false_iff_not, not_and]
      constructor
      · rintro ⟨h1, h2⟩
        refine ⟨⟨hr.subset h1, ?_⟩, h1⟩
        have := h2 (hr.subset h1)
        simpa using this
      · rintro ⟨⟨h1, h2⟩, h3⟩
        exact ⟨h3, fun _ => by simp [h2]⟩
  rw [e]
/-- what said_at makes says as its points do -/
theorem said_den (ns : List Str) (pts : List (List Str)) (row : List Str) : atS (sN ns pts) (sP ns pts) row = decide ((uniq ns).filter (fun x => decide (x ∈ row)) ∈ pts) := by
  have se := SS.uniq ns
  unfold atS
  rw [decide_eq_decide, said_key (ns := ns) (pts := pts) (row := (uniq ns).filter fun x => decide (x ∈ row)) List.filter_sublist]
  have e : (sN ns pts).filter (fun x => decide (x ∈ (uniq ns).filter fun x => decide (x ∈ row))) = (sN ns pts).filter (fun x => decide (x ∈ row)) := by
    refine List.filter_congr fun x hx => ?_
    rw [decide_eq_decide, List.mem_filter]
    simp only [decide_eq_true_eq]
    exact ⟨fun h => h.2, fun h => ⟨(sN_sub ns pts).subset hx, h⟩⟩
  rw [e]
  unfold sP
  rw [List.mem_filter]
  simp only [decide_eq_true_eq]
  exact ⟨fun h => h.2, fun h => ⟨mem_choices.mpr List.filter_sublist, h⟩⟩
/-- in closed form -/
structure Canon (ns : List Str) (ps : List (List Str)) : Prop where
  ss : SS ns
  pe : ps = (choices ns).filter fun r => decide (r ∈ ps)
  es : ∀ n ∈ ns, ∃ r, r.Sublist ns ∧ ¬ (r ∈ ps ↔ setTo r n true ∈ ps)
theorem said_canon (ns : List Str) (pts : List (List Str)) : Canon (sN ns pts) (sP ns pts) := by
  have se := SS.uniq ns
  have sn := se.sub (sN_sub ns pts)
  have inP : ∀ r, r.Sublist (sN ns pts) → (r ∈ sP ns pts ↔ r ∈ pts) := fun r hr => by
    unfold sP
    rw [List.mem_filter]
    simp only [decide_eq_true_eq]
    exact ⟨fun h => h.2, fun h => ⟨mem_choices.mpr hr, h⟩⟩
  refine ⟨sn, ?_, fun n hn => ?_⟩
  · refine List.filter_congr fun r hr => ?_
    rw [decide_eq_decide, inP r (mem_choices.mp hr)]
  · have hn' := List.mem_filter.mp (show n ∈ (uniq ns).filter (ess (uniq ns) pts) from hn)
    have h := hn'.2
    unfold ess at h
    obtain ⟨row, hrow, hne⟩ := List.any_eq_true.mp h
    have hr := mem_choices.mp hrow
    refine ⟨(sN ns pts).filter (fun x => decide (x ∈ row)), List.filter_sublist, ?_⟩
    have hs := setTo_sub se hr hn'.1 true
    have e : setTo ((sN ns pts).filter fun x => decide (x ∈ row)) n true = (sN ns pts).filter fun x => decide (x ∈ setTo row n true) :=
      (setTo_SS (sn.2.sublist List.filter_sublist)).ext (sn.filter _) fun x => by
        rw [setTo_mem, List.mem_filter, List.mem_filter]
        simp only [decide_eq_true_eq, setTo_mem]
        constructor
        · rintro (⟨⟨h1, h2⟩, h3⟩ | ⟨_, rfl⟩)
          · exact ⟨h1, .inl ⟨h2, h3⟩⟩
          · exact ⟨hn, .inr ⟨trivial, rfl⟩⟩
        · rintro ⟨h1, h2 | h2⟩
          · exact .inl ⟨⟨h1, h2.1⟩, h2.2⟩
          · exact .inr h2
    rw [e, inP _ List.filter_sublist, inP _ List.filter_sublist, ← said_key hr, ← said_key hs]
    intro hi
    rw [show decide (row ∈ pts) = decide (setTo row n true ∈ pts) from decide_eq_decide.mpr hi] at hne
    simp at hne
theorem Canon.at_sub {ns : List Str} {ps : List (List Str)} (c : Canon ns ps) {r : List Str} (hr : r.Sublist ns) : atS ns ps r = decide (r ∈ ps) := by
  unfold atS
  rw [filter_in_self c.ss hr]
theorem Canon.names {n1 n2 : List Str} {p1 p2 : List (List Str)} (c1 : Canon n1 p1) (h : ∀ row, atS n1 p1 row = atS n2 p2 row) : ∀ n ∈ n1, n ∈ n2 := fun n hn => by
  obtain ⟨r, hr, hne⟩ := c1.es n hn
  refine Classical.byContradiction fun hn2 => hne ?_
  have hs := setTo_sub c1.ss hr hn true
  have h1 := c1.at_sub hr
  have h2 := c1.at_sub hs
  rw [h] at h1 h2
  have e : atS n2 p2 r = atS n2 p2 (setTo r n true) := by
    unfold atS
    have e : n2.filter (fun x => decide (x ∈ r)) = n2.filter (fun x => decide (x ∈ setTo r n true)) := by
      refine List.filter_congr fun x hx => ?_
      rw [decide_eq_decide, setTo_mem]
      have : x ≠ n := fun z => hn2 (z ▸ hx)
      simp [this]
    rw [e]
  rw [h1, h2, decide_eq_decide] at e
  exact e
theorem Canon.eq {n1 n2 : List Str} {p1 p2 : List (List Str)} (c1 : Canon n1 p1) (c2 : Canon n2 p2) (h : ∀ row, atS n1 p1 row = atS n2 p2 row) : n1 = n2 ∧ p1 = p2 := by
  have en : n1 = n2 := c1.ss.ext c2.ss fun x => ⟨c1.names h x, c2.names (fun r => (h r).symm) x⟩
  subst en
  refine ⟨rfl, ?_⟩
  rw [c1.pe, c2.pe]
  refine List.filter_congr fun r hr => ?_
  have hr := mem_choices.mp hr
  rw [← c1.at_sub hr, ← c2.at_sub hr, h]
theorem canon_yes : Canon [] [[]] := ⟨⟨.nil, .nil⟩, by simp [choices], fun n h => absurd h (by simp)⟩
theorem canon_no : Canon [] [] := ⟨⟨.nil, .nil⟩, by simp, fun n h => absurd h (by simp)⟩
theorem canon_test (n : Str) : Canon [n] [[n]] := by
  refine ⟨⟨List.pairwise_singleton _ _, by simp⟩, by simp [choices], fun m hm => ⟨[], List.nil_sublist _, ?_⟩⟩
  have : m = n := by simpa using hm
  subst this
  have e : setTo [] m true = [m] := by simp [setTo, srt, List.mergeSort]
  rw [e]
  simp
/-- only the names matter -/
theorem at_cut {ns ev : List Str} {ps : List (List Str)} (h : ∀ x ∈ ns, x ∈ ev) (row : List Str) : atS ns ps (ev.filter fun x => decide (x ∈ row)) = atS ns ps row := by
  unfold atS
  have e : ns.filter (fun x => decide (x ∈ ev.filter fun x => decide (x ∈ row))) = ns.filter (fun x => decide (x ∈ row)) := by
    refine List.filter_congr fun x hx => ?_
    rw [decide_eq_decide, List.mem_filter]
    simp only [decide_eq_true_eq]
    exact ⟨fun h => h.2, fun g => ⟨h x hx, g⟩⟩
  rw [e]
theorem op_den (g : Bool → Bool → Bool) (n1 : List Str) (p1 : List (List Str)) (n2 : List Str) (p2 : List (List Str)) (row : List Str) :
    atS (sN (n1 ++ n2) (opS g n1 p1 n2 p2)) (sP (n1 ++ n2) (opS g n1 p1 n2 p2)) row = g (atS n1 p1 row) (atS n2 p2 row) := by
  rw [said_den]
  unfold opS
  simp only [List.mem_filter]
  rw [at_cut (ns := n1) (fun x hx => uniq_mem.mpr (List.mem_append_left _ hx)), at_cut (ns := n2) (fun x hx => uniq_mem.mpr (List.mem_append_right _ hx))]
  have : (uniq (n1 ++ n2)).filter (fun x => decide (x ∈ row)) ∈ choices (uniq (n1 ++ n2)) := mem_choices.mpr List.filter_sublist
  simp [this]
theorem inv_den {n1 : List Str} {p1 : List (List Str)} (h : SS n1) (row : List Str) : atS (sN n1 (inS n1 p1)) (sP n1 (inS n1 p1)) row = !atS n1 p1 row := by
  have eu : uniq n1 = n1 := (SS.uniq n1).ext h fun x => uniq_mem
  rw [said_den, eu]
  unfold inS
  simp only [List.mem_filter]
  rw [at_cut (ns := n1) (fun x hx => hx)]
  have : n1.filter (fun x => decide (x ∈ row)) ∈ choices n1 := mem_choices.mpr List.filter_sublist
  simp [this]
theorem said_nil (ns : List Str) : sN ns [] = [] ∧ sP ns [] = [] := by
  have : sN ns [] = [] := by
    unfold sN
    rw [List.filter_eq_nil_iff]
    intro x _
    unfold ess
    simp
  exact ⟨this, by unfold sP; simp⟩
/-- <= -/
theorem leB_iff {n1 n2 ss : List Str} {p1 p2 : List (List Str)} (h2 : SS n2) (s1 : ∀ x ∈ n1, x ∈ ss) (s2 : ∀ x ∈ n2, x ∈ ss) (hs : SS ss) : leB n1 p1 n2 p2 = (choices ss).all fun r => atS n2 p2 r || !atS n1 p1 r := by
  unfold leB
  have key : ∀ row, atS (sN (n1 ++ sN n2 (inS n2 p2)) (opS (· && ·) n1 p1 (sN n2 (inS n2 p2)) (sP n2 (inS n2 p2)))) (sP (n1 ++ sN n2 (inS n2 p2)) (opS (· && ·) n1 p1 (sN n2 (inS n2 p2)) (sP n2 (inS n2 p2)))) row = (atS n1 p1 row && !atS n2 p2 row) := fun row => by rw [op_den, inv_den h2]
  cases hall : (choices ss).all fun r => atS n2 p2 r || !atS n1 p1 r with
  | true =>
    rw [List.all_eq_true] at hall
    have imp : ∀ row, (atS n1 p1 row && !atS n2 p2 row) = false := fun row => by
      have := hall (ss.filter fun x => decide (x ∈ row)) (mem_choices.mpr List.filter_sublist)
      rw [at_cut s1, at_cut s2] at this
      cases h1 : atS n1 p1 row <;> cases h2 : atS n2 p2 row <;> simp [h1, h2] at this ⊢
    have e : opS (· && ·) n1 p1 (sN n2 (inS n2 p2)) (sP n2 (inS n2 p2)) = [] := by
      unfold opS
      rw [List.filter_eq_nil_iff]
      intro r _
      rw [inv_den h2]
      show ¬ (atS n1 p1 r && !atS n2 p2 r) = true
      rw [imp r]; simp
    simp only [e]
    rw [(said_nil _).1, (said_nil _).2]; rfl
  | false =>
    refine Bool.eq_false_iff.mpr fun h => ?_
    rw [Bool.and_eq_true, decide_eq_true_eq, decide_eq_true_eq] at h
    rw [List.all_eq_false] at hall
    obtain ⟨r, _, hr⟩ := hall
    have := key r
    rw [h.1, h.2] at this
    have e : atS [] [] r = false := by simp [atS]
    rw [e] at this
    cases h1 : atS n1 p1 r <;> cases h2 : atS n2 p2 r <;> simp [h1, h2] at this hr
/-- < -/
theorem ltB_iff {n1 n2 ss : List Str} {p1 p2 : List (List Str)} (c1 : Canon n1 p1) (c2 : Canon n2 p2) (s1 : ∀ x ∈ n1, x ∈ ss) (s2 : ∀ x ∈ n2, x ∈ ss) (hs : SS ss) :
    ltB n1 p1 n2 p2 = (((choices ss).all fun r => atS n2 p2 r || !atS n1 p1 r) && !((choices ss).all fun r => atS n1 p1 r || !atS n2 p2 r)) := by
  unfold ltB
  rw [leB_iff c2.ss s1 s2 hs]
  cases hall : (choices ss).all fun r => atS n2 p2 r || !atS n1 p1 r with
  | false => rfl
  | true =>
    rw [Bool.true_and, Bool.true_and]
    congr 1
    cases har : (choices ss).all fun r => atS n1 p1 r || !atS n2 p2 r with
    | true =>
      rw [List.all_eq_true] at hall har
      have := c1.eq c2 fun row => by
        have h1 := hall (ss.filter fun x => decide (x ∈ row)) (mem_choices.mpr List.filter_sublist)
        have h2 := har (ss.filter fun x => decide (x ∈ row)) (mem_choices.mpr List.filter_sublist)
        rw [at_cut s1, at_cut s2] at h1 h2
        cases e1 : atS n1 p1 row <;> cases e2 : atS n2 p2 row <;> simp [e1, e2] at h1 h2 ⊢
      simp [this.1, this.2]
    | false =>
      refine Bool.eq_false_iff.mpr fun h => ?_
      rw [Bool.and_eq_true, decide_eq_true_eq, decide_eq_true_eq] at h
      obtain ⟨rfl, rfl⟩ := h
      rw [hall] at har; cases har
/-! a tree's say -/
def sayT : Tr → List Str × List (List Str)
  | .yes => ([], [[]])
  | .no => ([], [])
  | .test n => ([n], [[n]])
  | .not t => (sN (sayT t).1 (inS (sayT t).1 (sayT t).2), sP (sayT t).1 (inS (sayT t).1 (sayT t).2))
  | .bin o t u => (sN ((sayT t).1 ++ (sayT u).1) (opS o.fn (sayT t).1 (sayT t).2 (sayT u).1 (sayT u).2), sP ((sayT t).1 ++ (sayT u).1) (opS o.fn (sayT t).1 (sayT t).2 (sayT u).1 (sayT u).2))
theorem sayT_canon (t : Tr) : Canon (sayT t).1 (sayT t).2 := by
  cases t with
  | yes => exact canon_yes
  | no => exact canon_no
  | test n => exact canon_test n
  | not t => exact said_canon _ _
  | bin o t u => exact said_canon _ _
theorem sayT_names : ∀ t : Tr, ∀ x ∈ (sayT t).1, x ∈ tn t
  | .yes, x, h => by simp [sayT] at h
  | .no, x, h => by simp [sayT] at h
  | .test n, x, h => h
  | .not t, x, h => sayT_names t x (uniq_mem.mp ((sN_sub _ _).subset h))
  | .bin o t u, x, h => by
    have := uniq_mem.mp ((sN_sub _ _).subset h)
    rcases List.mem_append.mp this with h | h
    · exact List.mem_append_left _ (sayT_names t x h)
    · exact List.mem_append_right _ (sayT_names u x h)
theorem sayT_den : ∀ (t : Tr) (row : List Str), atS (sayT t).1 (sayT t).2 row = evT t row
  | .yes, row => by simp [sayT, atS, evT]
  | .no, row => by simp [sayT, atS, evT]
  | .test n, row => by
    simp only [sayT, atS, evT]
    by_cases h : n ∈ row <;> simp [h]
  | .not t, row => by
    show atS (sN _ _) (sP _ _) row = _
    rw [inv_den (sayT_canon t).ss, sayT_den t row]; rfl
  | .bin o t u, row => by
    show atS (sN _ _) (sP _ _) row = _
    rw [op_den, sayT_den t row, sayT_den u row]; rfl
end Du
namespace Du
open PySem L2
section
variable {P : Program} {w : World} {K : PySem.W.Frag} {mg : Str → Option Value} {base : Heap} {C : Addr} {ρ : Rho}
structure NsOk (ns : List Str) : Prop where
  nd : ns.Nodup
  len : ns.length ≤ 6
  nm : ∀ x ∈ ns, nmOk x = true
  ok : okS ns
theorem sayT_len {t : Tr} {ns : List Str} (h : NsOk ns) (ht : ∀ x ∈ tn t, x ∈ ns) : (sayT t).1.length ≤ 6 := by
  have := ((sayT_canon t).ss.sublist (srt_SS h.nd) fun x hx => srt_mem.mpr (ht x (sayT_names t x hx))).length_le
  rw [(srt_perm ns).length_eq] at this
  have := h.len
  omega
theorem sayT_wf {t : Tr} {ns : List Str} (h : NsOk ns) (ht : ∀ x ∈ tn t, x ∈ ns) : wf (sayT t).1 (sayT t).2 := by
  have hl := sayT_len h ht
  have ho : okS (sayT t).1 := okS_sub h.ok fun x hx => ht x (sayT_names t x hx)
  have hc := choices_le (ns := (sayT t).1) (by omega)
  have e := (sayT_canon t).pe
  refine ⟨by omega, ho, fun p hp => ?_, ?_⟩
  · rw [e] at hp
    exact okS_choice ho (List.mem_filter.mp hp).1
  · rw [e]
    exact Nat.le_trans (List.length_filter_le _ _) (by omega)
def RSay (C : Addr) (n : Nat) (ds : List D) (d : D) : Prop := ∃ (t : Tr) (ns : List Str), ds = [trD t] ∧ dep t ≤ n ∧ (∀ x ∈ tn t, x ∈ ns) ∧ NsOk ns ∧ d = SayD C (sayT t).1 (sayT t).2
end
end Du
namespace Du
open PySem L2
theorem isi_tab {K : PySem.W.Frag} {d : D} {t T : String} (h : tyD d = some t) (hT : T = "int" ∨ T = "bool" ∨ T = "list" ∨ T = "tuple") : PySem.W.kitOne K (.type t) (.type T) = some (decide (t = T) || (decide (t = "bool") && decide (T = "int"))) := by
  cases d <;> simp only [tyD, Option.some.injEq, reduceCtorEq] at h <;> subst h <;> rcases hT with rfl | rfl | rfl | rfl <;> rfl
theorem rd_isB {a b : Bool} : R2D rIsB (.bl a) (.bl b) (.bl (decide (a = b))) := fun Z H x y Q k r1 r2 q => by
  cases r1; cases r2; exact ⟨a, b, rfl, rfl, q _ H (Ex.rf H) (.bl _)⟩
/-- what is asked to be the same -/
inductive SmOk : Nat → D → Prop
  | non {n : Nat} : SmOk (n + 1) .non
  | bl {n : Nat} (b : Bool) : SmOk (n + 1) (.bl b)
  | int {n : Nat} (i : Int) : SmOk (n + 1) (.int i)
  | str {n : Nat} {s : Str} : PyData.strOk s = true → SmOk (n + 1) (.str s)
  | lst {n : Nat} {ds : List D} : ds.length ≤ 100000 → (∀ d ∈ ds, SmOk n d) → SmOk (n + 1) (.lst ds)
  | tup {n : Nat} {ds : List D} : ds.length ≤ 100000 → (∀ d ∈ ds, SmOk n d) → SmOk (n + 1) (.tup ds)
section
variable {P : Program} {w : World} {K : PySem.W.Frag} {mg : Str → Option Value} {base : Heap} {C : Addr} {ρ : Rho}
def RSame (n : Nat) (ds : List D) (d : D) : Prop := ∃ e, ds = [e, e] ∧ SmOk n e ∧ d = .bl true
theorem ev_ty {n : String} : Ev (tC (.ty n)) ρ (.ty n) := fun _ _ H _ _ _ q => q _ H (Ex.rf H) (.ty n)
theorem ev_isi {te : TE} {d : D} {t T : String} (h : Ev te ρ d) (ht : tyD d = some t) (hT : T = "int" ∨ T = "bool" ∨ T = "list" ∨ T = "tuple") : Ev (tCB (rIsi K) (tCons te (tCons (tC (.ty T)) tNil))) ρ (.bl (decide (t = T) || (decide (t = "bool") && decide (T = "int")))) :=
  ev_cb (ev_cons h (ev_cons ev_ty ev_nil)) (rl_isi ht (isi_tab ht hT))
abbrev s_law_same : Stmt := top 26
abbrev n_law_same : List Str := ["_law_found", "_law_due", "_law_x", "_law_y"]
theorem sc_law_same : FnScope n_law_same ["_law_found", "_law_due"] (defScope s_law_same) := ⟨rfl, rfl, rfl, by decide +kernel, rfl, by decide +kernel, by decide +kernel⟩

theorem ok_law_same {f : Addr} {fd : FuncData} (n : Nat) (F : Fun K "_law_same" "_law_same" s_law_same f fd) (T : Bn mg) (c_law_same : C8.Cal P w K mg base (n + 1) "_law_same" (spP (RSame n)) []) : FnOk P w K mg base CX0 (n + 2) f fd ["_law_found", "_law_due"] (spP (RSame (n + 1))) := by
  refine pure_ok F sc_law_same (fun ds d h => ?_) (fun cdv A outer s H E hr => ?_)
  · obtain ⟨e, rfl, _⟩ := h; rfl
  · refine ⟨_, (pss_cons (ps_if (pt_val (pe_callB (k_isiT (K := K) rfl) (by rfl) T.isinstance (by decide +kernel) (pa_cons (pv 1) (pa_cons (pe_tup (pa_cons (pe_bltn (v := .ty "list") (by rfl) T.list (by decide +kernel) rfl) (pa_cons (pe_bltn (v := .ty "tuple") (by rfl) T.tuple (by decide +kernel) rfl) pa_nil))) pa_nil)))) (pss_cons (ps_if (PW.pt (pw_or (pt_cmpR (k_ne (K := K) rfl hr) (pe_callB (k_isi (K := K) rfl) (by rfl) T.isinstance (by decide +kernel) (pa_cons (pv 0) (pa_cons (pe_bltn (v := .ty "list") (by rfl) T.list (by decide +kernel) rfl) pa_nil))) (pe_callB (k_isi (K := K) rfl) (by rfl) T.isinstance (by decide +kernel) (pa_cons (pv 1) (pa_cons (pe_bltn (v := .ty "list") (by rfl) T.list (by decide +kernel) rfl) pa_nil))) (nomark _)) (pw_or1 (pt_cmpR (k_ne (K := K) rfl hr) (pe_callB (k_isi (K := K) rfl) (by rfl) T.isinstance (by decide +kernel) (pa_cons (pv 0) (pa_cons (pe_bltn (v := .ty "tuple") (by rfl) T.tuple (by decide +kernel) rfl) pa_nil))) (pe_callB (k_isi (K := K) rfl) (by rfl) T.isinstance (by decide +kernel) (pa_cons (pv 1) (pa_cons (pe_bltn (v := .ty "tuple") (by rfl) T.tuple (by decide +kernel) rfl) pa_nil))) (nomark _))))) (pss_one (ps_ret pe_bl)) pss_nil) (pss_one (ps_ret (pe_and (pe_cmpR (k_eq (K := K) rfl hr) (pe_callB (k_len (K := K) rfl) (by rfl) T.len (by decide +kernel) (pa_cons (pv 0) pa_nil)) (pe_callB (k_len (K := K) rfl) (by rfl) T.len (by decide +kernel) (pa_cons (pv 1) pa_nil)) (nomark _)) (pe_one (pe_callB (k_all (K := K) rfl rfl) (by rfl) T.all (by decide +kernel) (pa_cons (pe_lc (own := [("_law_x", 2), ("_law_y", 3)]) rfl sc_law_same.nd (k_zip (K := K) rfl (by rfl) T.zip (pa_cons (pv 0) (pa_cons (pv 1) pa_nil))) (blkOk_by (own := [("_law_x", 2), ("_law_y", 3)]) (N := n_law_same) (sc := defScope s_law_same) (by decide +kernel)) (fun _ _ _ _ _ => (k_pgt (K := K) (n := 2) rfl rfl (pgs_cons (pg_name (i := 2) sc_law_same.nd rfl (by first | exact Or.inl rfl | exact Or.inr rfl)) (pgs_cons (pg_name (i := 3) sc_law_same.nd rfl (by first | exact Or.inl rfl | exact Or.inr rfl)) pgs_nil)))) (fun _ _ _ _ _ => pts_nil) (fun _ _ _ _ _ => (C8.pe_c c_law_same hr (by omega) rfl (pa_cons (pv 2) (pa_cons (pv 3) pa_nil))))) pa_nil))))))) pss_nil) (pss_cons (ps_if (pt_val (pe_callB (k_isi (K := K) rfl) (by rfl) T.isinstance (by decide +kernel) (pa_cons (pv 1) (pa_cons (pe_bltn (v := .ty "int") (by rfl) T.int (by decide +kernel) rfl) pa_nil)))) (pss_one (ps_ret (pe_and (pe_callB (k_isi (K := K) rfl) (by rfl) T.isinstance (by decide +kernel) (pa_cons (pv 0) (pa_cons (pe_bltn (v := .ty "int") (by rfl) T.int (by decide +kernel) rfl) pa_nil))) (pe_and (pe_cmpR (k_eq (K := K) rfl hr) (pe_callB (k_isi (K := K) rfl) (by rfl) T.isinstance (by decide +kernel) (pa_cons (pv 0) (pa_cons (pe_bltn (v := .ty "bool") (by rfl) T.bool (by decide +kernel) rfl) pa_nil))) (pe_callB (k_isi (K := K) rfl) (by rfl) T.isinstance (by decide +kernel) (pa_cons (pv 1) (pa_cons (pe_bltn (v := .ty "bool") (by rfl) T.bool (by decide +kernel) rfl) pa_nil))) (nomark _)) (pe_one (pe_cmpR (k_eq (K := K) rfl hr) (pv 0) (pv 1) (nomark _))))))) pss_nil) (pss_one (ps_ret (pe_and (pe_cmpR op_isBl (pe_callB (k_isiT (K := K) rfl) (by rfl) T.isinstance (by decide +kernel) (pa_cons (pv 0) (pa_cons (pe_tup (pa_cons (pe_bltn (v := .ty "int") (by rfl) T.int (by decide +kernel) rfl) (pa_cons (pe_bltn (v := .ty "list") (by rfl) T.list (by decide +kernel) rfl) (pa_cons (pe_bltn (v := .ty "tuple") (by rfl) T.tuple (by decide +kernel) rfl) pa_nil)))) pa_nil))) pe_bl (nomark _)) (pe_one (pe_cmpR (k_eq (K := K) rfl hr) (pv 0) (pv 1) (nomark _)))))))), ?_⟩
    intro ds d h
    obtain ⟨e, rfl, ho, rfl⟩ := h
    refine .inl ?_
    have i1 : ∀ {t : String} {b : Bool}, tyD e = some t → PySem.W.kitAny K (.type t) ([ "list", "tuple" ].map Value.type) = some b → EvT _ [some e, some e, none, none] b := fun ht hb => et_B (ev_cb (ev_cons (ev_var (i := 1) rfl) (ev_cons (ev_tup (ev_cons ev_ty (ev_cons ev_ty ev_nil)) (by simp)) ev_nil)) (rl_isiT (Ts := ["list", "tuple"]) ht hb))
    cases ho with
    | lst hl hd =>
      rename_i ds
      refine st_seqR (st_if (i1 (t := "list") (b := true) rfl rfl) (fun _ => st_seq (st_if (et_or (et_test (ev_op (ev_isi (ev_var rfl) rfl (by simp)) (ev_isi (ev_var rfl) rfl (by simp)) (rd_ne ok_bl ok_bl))) fun _ => et_test (ev_op (ev_isi (ev_var rfl) rfl (by simp)) (ev_isi (ev_var rfl) rfl (by simp)) (rd_ne ok_bl ok_bl))) (fun h => ?_) fun _ => st_next) (st_ret ?_)) fun h => by cases h)
      · rw [eqD_bl, eqD_bl] at h; simp at h
      · have e1 : Du.D.bl true = .bl (eqD (.int ds.length) (.int ds.length) && (((ds.zip ds).map fun _ => true).all id)) := by
          rw [eqD_int]; simp
        rw [e1]
        refine ev_andV (ev_op (ev_cb (ev_cons (ev_var rfl) ev_nil) rl_lenL) (ev_cb (ev_cons (ev_var rfl) ev_nil) rl_lenL) (rd_eq ok_int ok_int)) fun _ => ev_cb (ev_cons (d := .lst (((ds.zip ds).map fun _ => true).map Du.D.bl)) ?_ ev_nil) rl_all
        rw [List.map_map]
        refine ev_lc1 (φ := fun p : Du.D × Du.D => Du.D.tup [p.1, p.2]) (ei_zip (ev_cons (ev_var rfl) (ev_cons (ev_var rfl) ev_nil))) (by simp; omega) fun p hp => ⟨_, gw_tup (gws_cons (gw_name (by simp)) (gws_cons (gw_name (by simp)) gws_nil)) rfl, ev_call (ev_cons (ev_var rfl) (ev_cons (ev_var rfl) ev_nil)) ⟨p.1, ?_, hd p.1 (List.of_mem_zip hp).1, rfl⟩⟩
        have : p.2 = p.1 := by
          have : ∀ (l : List Du.D) (p : Du.D × Du.D), p ∈ l.zip l → p.2 = p.1 := by
            intro l
            induction l with
            | nil => intro p h; simp at h
            | cons x l ih =>
              intro p h
              rcases List.mem_cons.mp h with rfl | h
              · rfl
              · exact ih p h
          exact this ds p hp
        rw [this]
    | tup hl hd =>
      rename_i ds
      refine st_seqR (st_if (i1 (t := "tuple") (b := true) rfl rfl) (fun _ => st_seq (st_if (et_or (et_test (ev_op (ev_isi (ev_var rfl) rfl (by simp)) (ev_isi (ev_var rfl) rfl (by simp)) (rd_ne ok_bl ok_bl))) fun _ => et_test (ev_op (ev_isi (ev_var rfl) rfl (by simp)) (ev_isi (ev_var rfl) rfl (by simp)) (rd_ne ok_bl ok_bl))) (fun h => ?_) fun _ => st_next) (st_ret ?_)) fun h => by cases h)
      · rw [eqD_bl, eqD_bl] at h; simp at h
      · have e1 : Du.D.bl true = .bl (eqD (.int ds.length) (.int ds.length) && (((ds.zip ds).map fun _ => true).all id)) := by
          rw [eqD_int]; simp
        rw [e1]
        refine ev_andV (ev_op (ev_cb (ev_cons (ev_var rfl) ev_nil) rl_lenT) (ev_cb (ev_cons (ev_var rfl) ev_nil) rl_lenT) (rd_eq ok_int ok_int)) fun _ => ev_cb (ev_cons (d := .lst (((ds.zip ds).map fun _ => true).map Du.D.bl)) ?_ ev_nil) rl_all
        rw [List.map_map]
        refine ev_lc1 (φ := fun p : Du.D × Du.D => Du.D.tup [p.1, p.2]) (ei_zipT (ev_cons (ev_var rfl) (ev_cons (ev_var rfl) ev_nil))) (by simp; omega) fun p hp => ⟨_, gw_tup (gws_cons (gw_name (by simp)) (gws_cons (gw_name (by simp)) gws_nil)) rfl, ev_call (ev_cons (ev_var rfl) (ev_cons (ev_var rfl) ev_nil)) ⟨p.1, ?_, hd p.1 (List.of_mem_zip hp).1, rfl⟩⟩
        have : p.2 = p.1 := by
          have : ∀ (l : List Du.D) (p : Du.D × Du.D), p ∈ l.zip l → p.2 = p.1 := by
            intro l
            induction l with
            | nil => intro p h; simp at h
            | cons x l ih =>
              intro p h
              rcases List.mem_cons.mp h with rfl | h
              · rfl
              · exact ih p h
          exact this ds p hp
        rw [this]
    | bl b =>
      refine st_seq (st_if (i1 (t := "bool") (b := false) rfl rfl) (fun h => by cases h) fun _ => st_next) (st_seqR (st_if (et_B (ev_isi (ev_var rfl) rfl (by simp))) (fun _ => st_ret ?_) fun h => by simp at h))
      have e1 : Du.D.bl true = .bl ((decide ("bool" = "int") || (decide ("bool" = "bool") && decide ("int" = "int"))) && (eqD (.bl (decide ("bool" = "bool") || (decide ("bool" = "bool") && decide ("bool" = "int")))) (.bl (decide ("bool" = "bool") || (decide ("bool" = "bool") && decide ("bool" = "int")))) && eqD (.bl b) (.bl b))) := by
        rw [eqD_bl, eqD_bl]; simp
      rw [e1]
      exact ev_andV (ev_isi (ev_var rfl) rfl (by simp)) fun _ => ev_andV (ev_op (ev_isi (ev_var rfl) rfl (by simp)) (ev_isi (ev_var rfl) rfl (by simp)) (rd_eq ok_bl ok_bl)) fun _ => ev_op (ev_var rfl) (ev_var rfl) (rd_eq ok_bl ok_bl)
    | int i =>
      refine st_seq (st_if (i1 (t := "int") (b := false) rfl rfl) (fun h => by cases h) fun _ => st_next) (st_seqR (st_if (et_B (ev_isi (ev_var rfl) rfl (by simp))) (fun _ => st_ret ?_) fun h => by simp at h))
      have e1 : Du.D.bl true = .bl ((decide ("int" = "int") || (decide ("int" = "bool") && decide ("int" = "int"))) && (eqD (.bl (decide ("int" = "bool") || (decide ("int" = "bool") && decide ("bool" = "int")))) (.bl (decide ("int" = "bool") || (decide ("int" = "bool") && decide ("bool" = "int")))) && eqD (.int i) (.int i))) := by
        rw [eqD_bl, eqD_int]; simp
      rw [e1]
      exact ev_andV (ev_isi (ev_var rfl) rfl (by simp)) fun _ => ev_andV (ev_op (ev_isi (ev_var rfl) rfl (by simp)) (ev_isi (ev_var rfl) rfl (by simp)) (rd_eq ok_bl ok_bl)) fun _ => ev_op (ev_var rfl) (ev_var rfl) (rd_eq ok_int ok_int)
    | non =>
      refine st_seq (st_if (i1 (t := "NoneType") (b := false) rfl rfl) (fun h => by cases h) fun _ => st_next) (st_seq (st_if (et_B (ev_isi (ev_var rfl) rfl (by simp))) (fun h => by simp at h) fun _ => st_next) (st_ret ?_))
      have e1 : Du.D.bl true = .bl (decide (false = false) && eqD .non .non) := by
        simp [eqD, toP, PyData.eqv]
      rw [e1]
      exact ev_andV (ev_op (ev_cb (ev_cons (ev_var rfl) (ev_cons (ev_tup (ev_cons ev_ty (ev_cons ev_ty (ev_cons ev_ty ev_nil))) (by simp)) ev_nil)) (rl_isiT (Ts := ["int", "list", "tuple"]) (t := "NoneType") rfl rfl)) ev_bl rd_isB) fun _ => ev_op (ev_var rfl) (ev_var rfl) (rd_eq ok_non ok_non)
    | str hs =>
      rename_i z
      refine st_seq (st_if (i1 (t := "str") (b := false) rfl rfl) (fun h => by cases h) fun _ => st_next) (st_seq (st_if (et_B (ev_isi (ev_var rfl) rfl (by simp))) (fun h => by simp at h) fun _ => st_next) (st_ret ?_))
      have e1 : Du.D.bl true = .bl (decide (false = false) && eqD (.str z) (.str z)) := by
        rw [eqD_str]; simp
      rw [e1]
      exact ev_andV (ev_op (ev_cb (ev_cons (ev_var rfl) (ev_cons (ev_tup (ev_cons ev_ty (ev_cons ev_ty (ev_cons ev_ty ev_nil))) (by simp)) ev_nil)) (rl_isiT (Ts := ["int", "list", "tuple"]) (t := "str") rfl rfl)) ev_bl rd_isB) fun _ => ev_op (ev_var rfl) (ev_var rfl) (rd_eq (ok_str hs) (ok_str hs))
theorem all_law_same {f : Addr} {fd : FuncData} (F : Fun K "_law_same" "_law_same" s_law_same f fd) (hm : mg "_law_same" = some (.ref f)) (hb : Binds K fd ["_law_found", "_law_due"] []) (T : Bn mg) : ∀ n, C8.Cal P w K mg base (n + 1) "_law_same" (spP (RSame n)) []
  | 0 => mkCal F hm hb (fn_none F sc_law_same fun vs H Q E h => by
      obtain ⟨Z, ds, d, _, _, ⟨e, _, h, _⟩, _⟩ := h
      cases h)
  | n + 1 => mkCal F hm hb (ok_law_same n F T (all_law_same F hm hb T n))
end
end Du
namespace Du
open PySem L2
section
variable {P : Program} {w : World} {K : PySem.W.Frag} {mg : Str → Option Value} {base : Heap} {C : Addr} {ρ : Rho}
def spSpring (K : PySem.W.Frag) : Sp := fun vs H Q _ => ∃ (p : Addr) (cs : List Int), vs = [.ref p] ∧ SqL K H p (cs.map V.int) ∧
  ∀ c a, H c = none → a ≠ c → H a = none → Q (.ref a) (upd (upd H c (.lst (cs.map V.int))) a (.lst [.ref c, .int 0, .int 0, .int 7]))
abbrev s_law_spring : Stmt := top 23
abbrev n_law_spring : List Str := ["_law_script"]
theorem sc_law_spring : FnScope n_law_spring ["_law_script"] (defScope s_law_spring) := ⟨rfl, rfl, rfl, by decide +kernel, rfl, by decide +kernel, by decide +kernel⟩

theorem ok_law_spring {f : Addr} {fd : FuncData} (F : Fun K "_law_spring" "_law_spring" s_law_spring f fd) (T : Bn mg) : FnOk P w K mg base CX0 1 f fd ["_law_script"] (spSpring K) := by
  refine F.ok sc_law_spring (fun vs H Q E h => ?_) (fun cdv A outer s H vs Q E hr h => ?_)
  · obtain ⟨p, cs, rfl, _⟩ := h; rfl
  · obtain ⟨p, cs, rfl, hp, q⟩ := h
    refine ⟨_, (pss_one (ps_ret (pe_lst (pa_cons (pe_callTy (k_listOf (K := K) rfl) (by rfl) T.list (by decide +kernel) (pa_cons (pv 0) pa_nil)) (pa_cons pe_int (pa_cons pe_int (pa_cons pe_int pa_nil))))))), ?_⟩
    refine ⟨_, rfl, p, cs.map V.int, rfl, .inl hp, fun c hc => ⟨show (4 : Nat) ≤ sizeLine by decide, fun a ha => ?_⟩⟩
    have ne : a ≠ c := fun e => by rw [e, upd_same] at ha; cases ha
    rw [upd_ne ne] at ha
    exact q c a hc ne ha
theorem menu_ok : ∀ x ∈ menu, nmOk x = true ∧ PyData.strOk x = true := by decide +kernel
theorem len_of {l ss : List Str} (h : SS l) (hs : SS ss) (sub : ∀ x ∈ l, x ∈ ss) : l.length ≤ ss.length := (h.sublist hs sub).length_le
def spLaw (K : PySem.W.Frag) : Sp := fun vs H Q _ => ∃ (p : Addr) (cs : List Int), vs = [.ref p] ∧ SqL K H p (cs.map V.int) ∧ ∀ H', Q (.bl true) H'
theorem reps_int (Z : Addr → Prop) (H : Hp) : ∀ cs : List Int, Reps Z H (cs.map V.int) (cs.map Du.D.int)
  | [] => .nil
  | x :: cs => .cons (.int x) (reps_int Z H cs)
/-- a law's first row: the spring; then what is shown of the rest -/
theorem law_start {us : TS} {m : Nat} {p : Addr} {cs : List Int} {H : Hp} {E : Ends} {E' : XK} (hp : SqL K H p (cs.map V.int)) (hq : ∀ H', E.rt (.bl true) H')
    (hg : ∀ a c, GS us (none :: some (.ptr a) :: List.replicate m none) (spr a c cs 0 0 7) (fun _ _ => False) (fun d _ => d = .bl true)) :
    tSeq (tAsg (tCall (spSpring K) [] E' (tCons (tVar 0) tNil)) (gName 1)) us E (some (.ref p) :: none :: List.replicate m none) H := by
  refine ⟨_, rfl, p, cs, rfl, hp, fun c a hc ne ha => ?_⟩
  dsimp only [gName]
  have ho : okZ (fun b => b = a ∨ b = c) (upd (upd H c (.lst (cs.map V.int))) a (.lst [.ref c, .int 0, .int 0, .int 7])) := fun b hb => by
    rcases hb with rfl | rfl
    · exact ⟨_, upd_same, rfl⟩
    · exact ⟨_, by rw [upd_ne ne.symm]; exact upd_same, rfl⟩
  have hm : Mem (fun b => b = a ∨ b = c) (upd (upd H c (.lst (cs.map V.int))) a (.lst [.ref c, .int 0, .int 0, .int 7])) (spr a c cs 0 0 7) := by
    refine ⟨fun x hx => ?_, ?_⟩
    · rcases List.mem_cons.mp hx with rfl | hx
      · exact ⟨.inl rfl, .lst upd_same (.cons (.ptr c) (.cons (.int 0) (.cons (.int 0) (.cons (.int 7) .nil))))⟩
      · have := List.mem_singleton.mp hx
        subst this
        exact ⟨.inr rfl, .lst (by rw [upd_ne ne.symm]; exact upd_same) (reps_int _ _ cs)⟩
    · simp [spr]; exact ne
  have hsr : SRep (fun b => b = a ∨ b = c) (upd (upd H c (.lst (cs.map V.int))) a (.lst [.ref c, .int 0, .int 0, .int 7])) (some (.ref p) :: some (.ref a) :: List.replicate m none) (none :: some (.ptr a) :: List.replicate m none) := by
    refine ⟨by simp, fun i d hi => ?_⟩
    match i, hi with
    | 0, hi => cases hi
    | 1, hi => cases hi; exact ⟨_, rfl, .ptr a⟩
    | i + 2, hi =>
      have h2 : (List.replicate m (none : Option Du.D))[i]? = some (some d) := hi
      rw [List.getElem?_replicate] at h2
      split at h2 <;> cases h2
  exact hg a c _ _ _ _ ho hsr hm (fun _ _ _ _ _ h => h.elim) fun v H' d μ' Z' e z r => by subst e; cases r; exact hq H'
end
end Du
namespace Du
open PySem L2
/-! the mathematics of given, some, every -/
theorem at_same {n1 l row : List Str} {p1 : List (List Str)} (h : ∀ n ∈ n1, n ∈ l ↔ n ∈ row) : atS n1 p1 l = atS n1 p1 row := by
  unfold atS
  rw [List.filter_congr fun n hn => decide_eq_decide.mpr (h n hn)]
def gvS (ns : List Str) (ps : List (List Str)) (name : Str) (b : Bool) : List (List Str) := (choices ns).filter fun r => atS ns ps (setTo r name b)
def lset (row : List Str) (name : Str) (b : Bool) : List Str := row.filter (fun o => !decide (o = name)) ++ if b then [name] else []
theorem mem_lset {row : List Str} {name x : Str} {b : Bool} : x ∈ lset row name b ↔ (x ∈ row ∧ x ≠ name) ∨ (b = true ∧ x = name) := by
  unfold lset
  rw [List.mem_append, List.mem_filter]
  cases b <;> simp
theorem uniq_self {ns : List Str} (h : SS ns) : uniq ns = ns := (SS.uniq ns).ext h fun _ => uniq_mem
theorem gv_den {ns : List Str} {ps : List (List Str)} (h : SS ns) (name : Str) (b : Bool) (row : List Str) : atS (sN ns (gvS ns ps name b)) (sP ns (gvS ns ps name b)) row = atS ns ps (lset row name b) := by
  rw [said_den, uniq_self h]
  have e : decide (ns.filter (fun x => decide (x ∈ row)) ∈ gvS ns ps name b) = atS ns ps (setTo (ns.filter fun x => decide (x ∈ row)) name b) := by
    rw [Bool.eq_iff_iff, decide_eq_true_eq]
    unfold gvS
    rw [List.mem_filter]
    exact ⟨fun h => h.2, fun h => ⟨mem_choices.mpr List.filter_sublist, h⟩⟩
  rw [e]
  refine at_same fun n hn => ?_
  rw [setTo_mem, mem_lset, List.mem_filter]
  simp [hn]
section
variable {P : Program} {w : World} {K : PySem.W.Frag} {mg : Str → Option Value} {base : Heap} {C : Addr} {ρ : Rho}
theorem gv_ok {ns : List Str} {ps : List (List Str)} {name : Str} {b : Bool} (h : okS ns) : ∀ p ∈ gvS ns ps name b, okS p := fun p hp => okS_choice h (List.mem_filter.mp hp).1
abbrev gvD (C : Addr) (ns : List Str) (ps : List (List Str)) (name : Str) (b : Bool) : D := SayD C (sN ns (gvS ns ps name b)) (sP ns (gvS ns ps name b))
def RGiven (C : Addr) (ds : List D) (d : D) : Prop := ∃ (ns : List Str) (ps : List (List Str)) (name : Str) (b : Bool), ds = [SayD C ns ps, .str name, .bl b] ∧ wf ns ps ∧ nmOk name = true ∧ PyData.strOk name = true ∧ d = gvD C ns ps name b
abbrev s_Say_given : Stmt := inClass (top 21) 8
abbrev n_Say_given : List Str := ["self", "name", "truth", "row"]
theorem sc_Say_given : FnScope n_Say_given ["self", "name", "truth"] (defScope s_Say_given) := ⟨rfl, rfl, rfl, by decide +kernel, rfl, by decide +kernel, by decide +kernel⟩

theorem ok_Say_given {f : Addr} {fd : FuncData} (F : Fun K "given" "Say.given" s_Say_given f fd) (T : Tx K mg C) (c_check_name : C8.Cal P w K mg base 2 "check_name" (spP RCheck) []) (c_said_at : C8.Cal P w K mg base 3 "said_at" (spP (RSaid C)) []) (c_choices_of : C8.Cal P w K mg base 1 "choices_of" (spP RChoices) []) (c_set_to : C8.Cal P w K mg base 1 "set_to" (spP RSetTo) []) (c_Say_at : C8.Met P w K mg base 1 C "at" (spP (RAt C)) []) : FnOk P w K mg base CX0 4 f fd ["self", "name", "truth"] (spP (RGiven C)) := by
  refine pure_ok F sc_Say_given (fun ds d h => ?_) (fun cdv A outer s H E hr => ?_)
  · obtain ⟨ns, ps, name, b, rfl, _⟩ := h; rfl
  · refine ⟨_, (pss_cons (ps_expr (C8.pe_c c_check_name hr (by omega) rfl (pa_cons (pv 1) pa_nil))) (pss_cons (ps_if (pt_not (pt_val (pe_callB (k_isi (K := K) rfl) (by rfl) T.isinstance (by decide +kernel) (pa_cons (pv 2) (pa_cons (pe_bltn (v := .ty "bool") (by rfl) T.bool (by decide +kernel) rfl) pa_nil))))) (pss_one ps_never) pss_nil) (pss_one (ps_ret (C8.pe_c c_said_at hr (by omega) rfl (pa_cons (k_fld (K := K) rfl (pv 0) rfl) (pa_cons (pe_lc (own := [("row", 3)]) rfl sc_Say_given.nd (k_seq (K := K) rfl (C8.pe_c c_choices_of hr (by omega) rfl (pa_cons (k_fld (K := K) rfl (pv 0) rfl) pa_nil))) (blkOk_by (own := [("row", 3)]) (N := n_Say_given) (sc := defScope s_Say_given) (by decide +kernel)) (fun _ _ _ _ _ => (pg_name (i := 3) sc_Say_given.nd rfl (by first | exact Or.inl rfl | exact Or.inr rfl))) (fun _ _ _ _ _ => pts_one (pt_val (C8.pe_mt c_Say_at hr (by omega) (pv 0) (pa_cons (C8.pe_c c_set_to hr (by omega) rfl (pa_cons (pv 3) (pa_cons (pv 1) (pa_cons (pv 2) pa_nil)))) pa_nil)))) (fun _ _ _ _ _ => (pv 3))) pa_nil))))))), ?_⟩
    intro ds d h
    obtain ⟨ns, ps, name, b, rfl, hw, hn, ho, rfl⟩ := h
    have hcl := choices_le (ns := ns) hw.1
    refine .inl (st_seq (st_drop (ev_call (ev_cons (ev_var rfl) ev_nil) ⟨name, rfl, hn, rfl⟩)) (st_seq (st_if (et_not (et_B (ev_cb (ev_cons (ev_var rfl) (ev_cons ev_ty ev_nil)) (rl_isi rfl (isi_same "bool"))))) (fun h => by cases h) fun _ => st_next) (st_ret (ev_call (ev_cons (ev_names T (ev_var rfl)) (ev_cons (d := lR (gvS ns ps name b)) (ev_lc (φ := tS) (pb := fun r => atS ns ps (setTo r name b)) (ei_seqL (ev_call (ev_cons (ev_names T (ev_var rfl)) ev_nil) ⟨ns, .inr rfl, hw.1, rfl⟩)) (by omega) fun r hr => ?_) ev_nil)) ⟨ns, gvS ns ps name b, .inr rfl, hw.1, hw.2.1, gv_ok hw.2.1, rfl⟩))))
    have hrs := choices_sub hr
    have hrl := hrs.length_le
    have okr : okS r := okS_sub hw.2.1 hrs.subset
    have hl := hw.1
    refine ⟨_, gw_name (by simp), et_B (ev_at (ev_var rfl) (ev_call (ev_cons (ev_var rfl) (ev_cons (ev_var rfl) (ev_cons (ev_var rfl) ev_nil))) ⟨r, name, b, rfl, by omega, okr, ho, rfl⟩) hw fun x hx => ?_), fun _ => ev_var rfl⟩
    rcases setTo_mem.mp hx with h | h
    · exact okr x h.1
    · rw [h.2]; exact ho
theorem gv_wf {ns : List Str} {ps : List (List Str)} {name : Str} {b : Bool} (hw : wf ns ps) : wf (sN ns (gvS ns ps name b)) (sP ns (gvS ns ps name b)) := said_wf hw.1 hw.2.1
def RSome (C : Addr) (g : Bool → Bool → Bool) (ds : List D) (d : D) : Prop := ∃ (ns : List Str) (ps : List (List Str)) (name : Str), ds = [SayD C ns ps, .str name] ∧ wf ns ps ∧ ns.length ≤ 6 ∧ nmOk name = true ∧ PyData.strOk name = true ∧ d = opD C g (sN ns (gvS ns ps name true)) (sP ns (gvS ns ps name true)) (sN ns (gvS ns ps name false)) (sP ns (gvS ns ps name false))
abbrev s_Say_some : Stmt := inClass (top 21) 9
abbrev n_Say_some : List Str := ["self", "name"]
theorem sc_Say_some : FnScope n_Say_some ["self", "name"] (defScope s_Say_some) := ⟨rfl, rfl, rfl, by decide +kernel, rfl, by decide +kernel, by decide +kernel⟩

theorem ok_Say_some {f : Addr} {fd : FuncData} (F : Fun K "some" "Say.some" s_Say_some f fd) (T : Tx K mg C) (o_or : OBin P w K mg base 4 C .BitOr (spP (ROp C (· || ·)))) (c_Say_given : C8.Met P w K mg base 4 C "given" (spP (RGiven C)) []) : FnOk P w K mg base CX0 5 f fd ["self", "name"] (spP (RSome C (· || ·))) := by
  refine pure_ok F sc_Say_some (fun ds d h => ?_) (fun cdv A outer s H E hr => ?_)
  · obtain ⟨ns, ps, name, rfl, _⟩ := h; rfl
  · refine ⟨_, (pss_one (ps_ret (pe_op (k_bin o_or hr (by omega)) (C8.pe_mt c_Say_given hr (by omega) (pv 0) (pa_cons (pv 1) (pa_cons pe_bl pa_nil))) (C8.pe_mt c_Say_given hr (by omega) (pv 0) (pa_cons (pv 1) (pa_cons pe_bl pa_nil)))))), ?_⟩
    intro ds d h
    obtain ⟨ns, ps, name, rfl, hw, hl, hn, ho, rfl⟩ := h
    have l1 := sN_len ns (gvS ns ps name true)
    have l2 := sN_len ns (gvS ns ps name false)
    exact .inl (st_ret (ev_op (ev_meth (ev_var rfl) rfl (ev_cons (ev_var rfl) (ev_cons ev_bl ev_nil)) ⟨ns, ps, name, true, rfl, hw, hn, ho, rfl⟩) (ev_meth (ev_var rfl) rfl (ev_cons (ev_var rfl) (ev_cons ev_bl ev_nil)) ⟨ns, ps, name, false, rfl, hw, hn, ho, rfl⟩) (rd_bin ⟨_, _, _, _, rfl, gv_wf hw, gv_wf hw, by omega, rfl⟩)))
abbrev s_Say_every : Stmt := inClass (top 21) 10
abbrev n_Say_every : List Str := ["self", "name"]
theorem sc_Say_every : FnScope n_Say_every ["self", "name"] (defScope s_Say_every) := ⟨rfl, rfl, rfl, by decide +kernel, rfl, by decide +kernel, by decide +kernel⟩

theorem ok_Say_every {f : Addr} {fd : FuncData} (F : Fun K "every" "Say.every" s_Say_every f fd) (T : Tx K mg C) (o_and : OBin P w K mg base 4 C .BitAnd (spP (ROp C (· && ·)))) (c_Say_given : C8.Met P w K mg base 4 C "given" (spP (RGiven C)) []) : FnOk P w K mg base CX0 5 f fd ["self", "name"] (spP (RSome C (· && ·))) := by
  refine pure_ok F sc_Say_every (fun ds d h => ?_) (fun cdv A outer s H E hr => ?_)
  · obtain ⟨ns, ps, name, rfl, _⟩ := h; rfl
  · refine ⟨_, (pss_one (ps_ret (pe_op (k_bin o_and hr (by omega)) (C8.pe_mt c_Say_given hr (by omega) (pv 0) (pa_cons (pv 1) (pa_cons pe_bl pa_nil))) (C8.pe_mt c_Say_given hr (by omega) (pv 0) (pa_cons (pv 1) (pa_cons pe_bl pa_nil)))))), ?_⟩
    intro ds d h
    obtain ⟨ns, ps, name, rfl, hw, hl, hn, ho, rfl⟩ := h
    have l1 := sN_len ns (gvS ns ps name true)
    have l2 := sN_len ns (gvS ns ps name false)
    exact .inl (st_ret (ev_op (ev_meth (ev_var rfl) rfl (ev_cons (ev_var rfl) (ev_cons ev_bl ev_nil)) ⟨ns, ps, name, true, rfl, hw, hn, ho, rfl⟩) (ev_meth (ev_var rfl) rfl (ev_cons (ev_var rfl) (ev_cons ev_bl ev_nil)) ⟨ns, ps, name, false, rfl, hw, hn, ho, rfl⟩) (rd_bin ⟨_, _, _, _, rfl, gv_wf hw, gv_wf hw, by omega, rfl⟩)))
/-! Say.tests, a new list -/
abbrev s_Say_tests : Stmt := inClass (top 21) 6
abbrev n_Say_tests : List Str := ["self"]
theorem sc_Say_tests : FnScope n_Say_tests ["self"] (defScope s_Say_tests) := ⟨rfl, rfl, rfl, by decide +kernel, rfl, by decide +kernel, by decide +kernel⟩

def RTests (C : Addr) (ds es : List D) : Prop := ∃ (ns : List Str) (ps : List (List Str)), ds = [SayD C ns ps] ∧ es = ns.map D.str
theorem ok_Say_tests {f : Addr} {fd : FuncData} (F : Fun K "tests" "Say.tests" s_Say_tests f fd) (T : Tx K mg C) : FnOk P w K mg base CX0 1 f fd ["self"] (spNw (RTests C)) := by
  refine F.ok sc_Say_tests (fun vs H Q E h => ?_) (fun cdv A outer s H vs Q E hr h => ?_)
  · obtain ⟨Z, ds, es, _, r, ⟨ns, ps, rfl, _⟩, _⟩ := h
    exact r.len
  · obtain ⟨Z, ds, es, ok, r, ⟨ns, ps, rfl, rfl⟩, q⟩ := h
    refine ⟨_, (pss_one (ps_ret (pe_callTy (k_listOf (K := K) rfl) (by rfl) T.list (by decide +kernel) (pa_cons (k_fld (K := K) rfl (pv 0) rfl) pa_nil)))), ?_⟩
    have s0 : SRep Z H (L2.start n_Say_tests vs) [some (SayD C ns ps)] := by
      unfold L2.start
      rw [r.len]
      exact SRep.start r _
    refine ev_names (ns := ns) (ps := ps) T (ev_var rfl) Z _ H _ ok s0 fun v H1 x1 r1 => ?_
    cases r1 with
    | tup n h rs => exact ⟨_, _, rfl, .inr (.inl (.inl h)), fun l hl => q l _ _ (x1.free hl) (x1.tr (Ex.new hl)) upd_same (rs.mono (Ext.new hl))⟩
end
end Du
namespace Du
open PySem L2
/-- a list or a tuple of texts -/
def isSq (d : D) (ns : List Str) : Prop := d = lS ns ∨ d = tS ns
/-- a term as it is handed in -/
def isTm (d : D) (y n : List Str) : Prop := ∃ a b, isSq a y ∧ isSq b n ∧ (d = .tup [a, b] ∨ d = .lst [a, b])
abbrev Tm := List Str × List Str
abbrev tmD (t : Tm) : D := .tup [tS t.1, tS t.2]
theorem isTm_tm (t : Tm) : isTm (tmD t) t.1 t.2 := ⟨_, _, .inr rfl, .inr rfl, .inl rfl⟩
def trueAt (t : Tm) (row : List Str) : Bool := t.1.all (fun n => decide (n ∈ row)) && !t.2.any fun n => decide (n ∈ row)
section
variable {P : Program} {w : World} {K : PySem.W.Frag} {mg : Str → Option Value} {base : Heap} {C : Addr} {ρ : Rho}
theorem ei_sq {te : TE} {d : D} {ns : List Str} (h : Ev te ρ d) (s : isSq d ns) : EvI (iSeq K te) ρ (ns.map D.str) := by
  rcases s with rfl | rfl
  · exact ei_seqL h
  · exact ei_seqT h
theorem rd_inSq {d : D} {ns : List Str} {x : Str} (s : isSq d ns) (hx : PyData.strOk x = true) (ho : okS ns) : R2D (rInU K) (.str x) d (.bl (decide (x ∈ ns))) := by
  rw [← inD_strs]
  rcases s with rfl | rfl
  · exact rd_inL (ok_str hx) ((okE_lS ho).e (by decide))
  · exact rd_inT (ok_str hx) ((okE_tS ho).e (by decide))
theorem rd_notInSq {d : D} {ns : List Str} {x : Str} (s : isSq d ns) (hx : PyData.strOk x = true) (ho : okS ns) : R2D (rNotInU K) (.str x) d (.bl (!decide (x ∈ ns))) := by
  rw [← inD_strs]
  rcases s with rfl | rfl
  · exact rd_notInL (ok_str hx) ((okE_lS ho).e (by decide))
  · exact rd_notInT (ok_str hx) ((okE_tS ho).e (by decide))
theorem rl_lenSq {d : D} {ns : List Str} (s : isSq d ns) : RLD (fun xs H Q => ∃ x n, xs = [x] ∧ LenV K x H n ∧ Q (.int n) H) [d] (.int (ns.length : Nat)) := by
  rcases s with rfl | rfl
  · have := rl_lenL (K := K) (ds := ns.map D.str); rwa [List.length_map] at this
  · have := rl_lenT (K := K) (ds := ns.map D.str); rwa [List.length_map] at this
theorem rd_ix2 {d a b z : D} {i : Nat} (h : d = .tup [a, b] ∨ d = .lst [a, b]) (hz : [a, b][i]? = some z) : R2D (rIx K) d (.int (i : Int)) z := by
  rcases h with rfl | rfl
  · exact rd_ixT hz
  · exact rd_ixL hz
theorem ev_sq2 {te : TE} {d a b : D} (h : d = .tup [a, b] ∨ d = .lst [a, b]) (he : Ev te ρ d) : Ev (tOp (rIx K) te (tC (.int 0))) ρ a ∧ Ev (tOp (rIx K) te (tC (.int 1))) ρ b := ⟨ev_op he ev_int (rd_ix2 (i := 0) h rfl), ev_op he ev_int (rd_ix2 (i := 1) h rfl)⟩
theorem ev_starSq {te : TE} {tr : TA} {d : D} {ns : List Str} {ds : List D} (s : isSq d ns) (h : Ev te ρ d) (hr : EvA tr ρ ds) : EvA (StX.tStar K te tr) ρ (ns.map D.str ++ ds) := by
  rcases s with rfl | rfl
  · exact ev_starL h hr
  · exact ev_starT h hr
/-! is_list, are_unlike_names, is_term -/
def sqTy (d : D) : Prop := (∃ xs, d = .lst xs) ∨ ∃ xs, d = .tup xs
def RIsList (ds : List D) (d : D) : Prop := ∃ e, ds = [e] ∧ sqTy e ∧ d = .bl true
abbrev s_is_list : Stmt := top 3
abbrev n_is_list : List Str := ["thing"]
theorem sc_is_list : FnScope n_is_list ["thing"] (defScope s_is_list) := ⟨rfl, rfl, rfl, by decide +kernel, rfl, by decide +kernel, by decide +kernel⟩

theorem ok_is_list {f : Addr} {fd : FuncData} (F : Fun K "is_list" "is_list" s_is_list f fd) (T : Bn mg) : FnOk P w K mg base CX0 1 f fd ["thing"] (spP RIsList) := by
  refine pure_ok F sc_is_list (fun ds d h => ?_) (fun cdv A outer s H E hr => ?_)
  · obtain ⟨e, rfl, _⟩ := h; rfl
  · refine ⟨_, (pss_one (ps_ret (pe_callB (k_isiT (K := K) rfl) (by rfl) T.isinstance (by decide +kernel) (pa_cons (pv 0) (pa_cons (pe_tup (pa_cons (pe_bltn (v := .ty "list") (by rfl) T.list (by decide +kernel) rfl) (pa_cons (pe_bltn (v := .ty "tuple") (by rfl) T.tuple (by decide +kernel) rfl) pa_nil))) pa_nil))))), ?_⟩
    intro ds d h
    obtain ⟨e, rfl, h, rfl⟩ := h
    rcases h with ⟨xs, rfl⟩ | ⟨xs, rfl⟩
    · exact .inl (st_ret (ev_cb (ev_cons (ev_var rfl) (ev_cons (ev_tup (ev_cons ev_ty (ev_cons ev_ty ev_nil)) (by simp)) ev_nil)) (rl_isiT (Ts := ["list", "tuple"]) (t := "list") rfl rfl)))
    · exact .inl (st_ret (ev_cb (ev_cons (ev_var rfl) (ev_cons (ev_tup (ev_cons ev_ty (ev_cons ev_ty ev_nil)) (by simp)) ev_nil)) (rl_isiT (Ts := ["list", "tuple"]) (t := "tuple") rfl rfl)))
def RUnlike (ds : List D) (d : D) : Prop := ∃ (e : D) (ns : List Str), ds = [e] ∧ isSq e ns ∧ ns.Nodup ∧ ns.length ≤ 20 ∧ (∀ n ∈ ns, nmOk n = true) ∧ d = .bl true
theorem addAll_dis : ∀ {ks L : List Str}, (∀ x ∈ ks, x ∉ L) → ks.Nodup → (addAll L ks).length = L.length + ks.length
  | [], L, _, _ => by simp [addAll]
  | k :: ks, L, h, nd => by
    have hk : k ∉ L := h k List.mem_cons_self
    have nd' := List.nodup_cons.mp nd
    rw [addAll]
    have e : addT L k = k :: L := by unfold addT; rw [if_neg hk]
    rw [e, addAll_dis (fun x hx => ?_) nd'.2]
    · simp only [List.length_cons]; omega
    · intro hm
      rcases List.mem_cons.mp hm with rfl | hm
      · exact nd'.1 hx
      · exact h x (List.mem_cons_of_mem _ hx) hm
abbrev s_are_unlike_names : Stmt := top 5
abbrev n_are_unlike_names : List Str := ["thing", "name"]
theorem sc_are_unlike_names : FnScope n_are_unlike_names ["thing"] (defScope s_are_unlike_names) := ⟨rfl, rfl, rfl, by decide +kernel, rfl, by decide +kernel, by decide +kernel⟩

theorem ok_are_unlike_names {f : Addr} {fd : FuncData} (F : Fun K "are_unlike_names" "are_unlike_names" s_are_unlike_names f fd) (T : Bn mg) (c_is_list : C8.Cal P w K mg base 1 "is_list" (spP RIsList) []) (c_is_name : C8.Cal P w K mg base 1 "is_name" (spP RIsName) []) : FnOk P w K mg base CX0 2 f fd ["thing"] (spP RUnlike) := by
  refine pure_ok F sc_are_unlike_names (fun ds d h => ?_) (fun cdv A outer s H E hr => ?_)
  · obtain ⟨e, ns, rfl, _⟩ := h; rfl
  · refine ⟨_, (pss_one (ps_ret (pe_and (C8.pe_c c_is_list hr (by omega) rfl (pa_cons (pv 0) pa_nil)) (pe_and (pe_callB (k_all (K := K) rfl rfl) (by rfl) T.all (by decide +kernel) (pa_cons (pe_lc (own := [("name", 1)]) rfl sc_are_unlike_names.nd (k_seq (K := K) rfl (pv 0)) (blkOk_by (own := [("name", 1)]) (N := n_are_unlike_names) (sc := defScope s_are_unlike_names) (by decide +kernel)) (fun _ _ _ _ _ => (pg_name (i := 1) sc_are_unlike_names.nd rfl (by first | exact Or.inl rfl | exact Or.inr rfl))) (fun _ _ _ _ _ => pts_nil) (fun _ _ _ _ _ => (C8.pe_c c_is_name hr (by omega) rfl (pa_cons (pv 1) pa_nil)))) pa_nil)) (pe_one (pe_cmpR (k_eq (K := K) rfl hr) (pe_callB (k_lenTxt (w := w) rfl) (by rfl) T.len (by decide +kernel) (pa_cons (pe_callTy (k_setTxtU (K := K) (w := w) rfl rfl rfl) (by rfl) T.set (by decide +kernel) (pa_cons (pv 0) pa_nil)) pa_nil)) (pe_callB (k_len (K := K) rfl) (by rfl) T.len (by decide +kernel) (pa_cons (pv 0) pa_nil)) (nomark _))))))), ?_⟩
    intro ds d h
    obtain ⟨e, ns, rfl, hs, nd, hl, hn, rfl⟩ := h
    have ht : sqTy e := by
      rcases hs with rfl | rfl
      · exact .inl ⟨_, rfl⟩
      · exact .inr ⟨_, rfl⟩
    have hall : ((ns.map nmOk).all id) = true := by
      rw [List.all_eq_true]; intro b hb; obtain ⟨n, h1, rfl⟩ := List.mem_map.mp hb; exact hn n h1
    have hset : (addAll [] ns).length = ns.length := by simpa using addAll_dis (L := []) (ks := ns) (by simp) nd
    have e1 : Du.D.bl true = .bl (true && (((ns.map nmOk).all id) && eqD (.int ((addAll [] ns).length : Nat)) (.int ns.length))) := by
      rw [hall, hset, eqD_int]; simp
    rw [e1]
    refine .inl (st_ret (ev_andV (ev_call (ev_cons (ev_var rfl) ev_nil) ⟨e, rfl, ht, rfl⟩) fun _ => ev_andV (ev_cb (ev_cons (d := .lst ((ns.map nmOk).map Du.D.bl)) ?_ ev_nil) rl_all) fun _ => ?_))
    · rw [List.map_map]
      exact ev_lc1 (φ := Du.D.str) (ei_sq (ev_var rfl) hs) (by omega) fun n hn' => ⟨_, gw_name (by simp), ev_call (ev_cons (ev_var rfl) ev_nil) ⟨n, rfl, by have := nmOk_len (hn n hn'); omega, rfl⟩⟩
    · have hsl := rl_lenSq (K := K) hs
      rcases hs with rfl | rfl
      · exact ev_op (ev_lenSetL (ev_var rfl) (by omega)) (ev_cb (ev_cons (ev_var rfl) ev_nil) hsl) (rd_eq ok_int ok_int)
      · exact ev_op (ev_lenSetT (ev_var rfl) (by omega)) (ev_cb (ev_cons (ev_var rfl) ev_nil) hsl) (rd_eq ok_int ok_int)
structure TmOk (t : Tm) : Prop where
  ny : t.1.Nodup
  nn : t.2.Nodup
  dis : ∀ x ∈ t.1, x ∉ t.2
  ly : t.1.length ≤ 20
  ln : t.2.length ≤ 20
  oy : ∀ n ∈ t.1, nmOk n = true
  on : ∀ n ∈ t.2, nmOk n = true
  sy : okS t.1
  sn : okS t.2
def RIsTerm (ds : List D) (d : D) : Prop := ∃ (e : D) (t : Tm), ds = [e] ∧ isTm e t.1 t.2 ∧ TmOk t ∧ d = .bl true
abbrev s_is_term : Stmt := top 17
abbrev n_is_term : List Str := ["thing", "name"]
theorem sc_is_term : FnScope n_is_term ["thing"] (defScope s_is_term) := ⟨rfl, rfl, rfl, by decide +kernel, rfl, by decide +kernel, by decide +kernel⟩

theorem ok_is_term {f : Addr} {fd : FuncData} (F : Fun K "is_term" "is_term" s_is_term f fd) (T : Bn mg) (c_is_list : C8.Cal P w K mg base 1 "is_list" (spP RIsList) []) (c_are_unlike_names : C8.Cal P w K mg base 2 "are_unlike_names" (spP RUnlike) []) : FnOk P w K mg base CX0 3 f fd ["thing"] (spP RIsTerm) := by
  refine pure_ok F sc_is_term (fun ds d h => ?_) (fun cdv A outer s H E hr => ?_)
  · obtain ⟨e, t, rfl, _⟩ := h; rfl
  · refine ⟨_, (pss_cons (ps_if (PW.pt (pw_or (pt_not (pt_val (C8.pe_c c_is_list hr (by omega) rfl (pa_cons (pv 0) pa_nil)))) (pw_or (pt_cmpR (k_ne (K := K) rfl hr) (pe_callB (k_len (K := K) rfl) (by rfl) T.len (by decide +kernel) (pa_cons (pv 0) pa_nil)) pe_int (nomark _)) (pw_or (pt_not (pt_val (C8.pe_c c_are_unlike_names hr (by omega) rfl (pa_cons (pe_ix (k_ix (K := K) rfl) (pv 0) pe_int (fun _ _ => rfl)) pa_nil)))) (pw_or1 (pt_not (pt_val (C8.pe_c c_are_unlike_names hr (by omega) rfl (pa_cons (pe_ix (k_ix (K := K) rfl) (pv 0) pe_int (fun _ _ => rfl)) pa_nil))))))))) (pss_one (ps_ret pe_bl)) pss_nil) (pss_one (ps_ret (pe_callB (k_all (K := K) rfl rfl) (by rfl) T.all (by decide +kernel) (pa_cons (pe_lc (own := [("name", 1)]) rfl sc_is_term.nd (k_seq (K := K) rfl (pe_ix (k_ix (K := K) rfl) (pv 0) pe_int (fun _ _ => rfl))) (blkOk_by (own := [("name", 1)]) (N := n_is_term) (sc := defScope s_is_term) (by decide +kernel)) (fun _ _ _ _ _ => (pg_name (i := 1) sc_is_term.nd rfl (by first | exact Or.inl rfl | exact Or.inr rfl))) (fun _ _ _ _ _ => pts_nil) (fun _ _ _ _ _ => (pe_cmpR (k_notInU (K := K) rfl hr) (pv 1) (pe_ix (k_ix (K := K) rfl) (pv 0) pe_int (fun _ _ => rfl)) (by rfl)))) pa_nil))))), ?_⟩
    intro ds d h
    obtain ⟨e, t, rfl, ⟨a, b, ha, hb, he⟩, ho, rfl⟩ := h
    have ht : sqTy e := by
      rcases he with rfl | rfl
      · exact .inr ⟨_, rfl⟩
      · exact .inl ⟨_, rfl⟩
    have hlen : RLD (fun xs H Q => ∃ x n, xs = [x] ∧ LenV K x H n ∧ Q (.int n) H) [e] (.int 2) := by
      rcases he with rfl | rfl
      · exact rl_lenT
      · exact rl_lenL
    have v : ∀ {te : TE} {ρ : Rho}, Ev te ρ e → Ev (tOp (rIx K) te (tC (.int 0))) ρ a ∧ Ev (tOp (rIx K) te (tC (.int 1))) ρ b := fun h => ev_sq2 he h
    have e1 : Du.D.bl true = .bl ((t.1.map fun x => !decide (x ∈ t.2)).all id) := by
      congr 1; symm
      rw [List.all_eq_true]; intro c hc; obtain ⟨x, hx, rfl⟩ := List.mem_map.mp hc
      simpa using ho.dis x hx
    rw [e1]
    refine .inl (st_seq (st_if (b := false) ?_ (fun h => by cases h) fun _ => st_next) (st_ret (ev_cb (ev_cons (d := .lst ((t.1.map fun x => !decide (x ∈ t.2)).map Du.D.bl)) ?_ ev_nil) rl_all)))
    · have e2 : false = (!true || (!eqD (.int 2) (.int 2) || (!true || !true))) := by rw [eqD_int]; simp
      rw [e2]
      exact et_or (et_not (et_B (ev_call (ev_cons (ev_var rfl) ev_nil) ⟨e, rfl, ht, rfl⟩))) fun _ => et_or (et_test (ev_op (ev_cb (ev_cons (ev_var rfl) ev_nil) hlen) ev_int (rd_ne ok_int ok_int))) fun _ => et_or (et_not (et_B (ev_call (ev_cons (v (ev_var rfl)).1 ev_nil) ⟨a, t.1, rfl, ha, ho.ny, ho.ly, ho.oy, rfl⟩))) fun _ => et_not (et_B (ev_call (ev_cons (v (ev_var rfl)).2 ev_nil) ⟨b, t.2, rfl, hb, ho.nn, ho.ln, ho.on, rfl⟩))
    · rw [List.map_map]
      have := ho.ly
      exact ev_lc1 (φ := Du.D.str) (ei_sq (v (ev_var rfl)).1 ha) (by omega) fun x hx => ⟨_, gw_name (by simp), ev_op (ev_var rfl) (v (ev_var rfl)).2 (rd_notInSq hb (ho.sy x hx) ho.sn)⟩
/-! is_true_at -/
def RTrueAt (ds : List D) (d : D) : Prop := ∃ (e : D) (t : Tm) (row : List Str), ds = [e, tS row] ∧ isTm e t.1 t.2 ∧ okS t.1 ∧ okS t.2 ∧ t.1.length ≤ 1000 ∧ t.2.length ≤ 1000 ∧ okS row ∧ d = .bl (trueAt t row)
abbrev s_is_true_at : Stmt := top 18
abbrev n_is_true_at : List Str := ["term", "row", "name"]
theorem sc_is_true_at : FnScope n_is_true_at ["term", "row"] (defScope s_is_true_at) := ⟨rfl, rfl, rfl, by decide +kernel, rfl, by decide +kernel, by decide +kernel⟩

theorem ok_is_true_at {f : Addr} {fd : FuncData} (F : Fun K "is_true_at" "is_true_at" s_is_true_at f fd) (T : Bn mg) : FnOk P w K mg base CX0 1 f fd ["term", "row"] (spP RTrueAt) := by
  refine pure_ok F sc_is_true_at (fun ds d h => ?_) (fun cdv A outer s H E hr => ?_)
  · obtain ⟨e, t, row, rfl, _⟩ := h; rfl
  · refine ⟨_, (pss_one (ps_ret (pe_and (pe_callB (k_all (K := K) rfl rfl) (by rfl) T.all (by decide +kernel) (pa_cons (pe_lc (own := [("name", 2)]) rfl sc_is_true_at.nd (k_seq (K := K) rfl (pe_ix (k_ix (K := K) rfl) (pv 0) pe_int (fun _ _ => rfl))) (blkOk_by (own := [("name", 2)]) (N := n_is_true_at) (sc := defScope s_is_true_at) (by decide +kernel)) (fun _ _ _ _ _ => (pg_name (i := 2) sc_is_true_at.nd rfl (by first | exact Or.inl rfl | exact Or.inr rfl))) (fun _ _ _ _ _ => pts_nil) (fun _ _ _ _ _ => (pe_cmpR (k_inU (K := K) rfl hr) (pv 2) (pv 1) (by rfl)))) pa_nil)) (pe_one (pe_not (pe_callB (k_any (K := K) rfl rfl) (by rfl) T.any (by decide +kernel) (pa_cons (pe_lc (own := [("name", 2)]) rfl sc_is_true_at.nd (k_seq (K := K) rfl (pe_ix (k_ix (K := K) rfl) (pv 0) pe_int (fun _ _ => rfl))) (blkOk_by (own := [("name", 2)]) (N := n_is_true_at) (sc := defScope s_is_true_at) (by decide +kernel)) (fun _ _ _ _ _ => (pg_name (i := 2) sc_is_true_at.nd rfl (by first | exact Or.inl rfl | exact Or.inr rfl))) (fun _ _ _ _ _ => pts_nil) (fun _ _ _ _ _ => (pe_cmpR (k_inU (K := K) rfl hr) (pv 2) (pv 1) (by rfl)))) pa_nil))))))), ?_⟩
    intro ds d h
    obtain ⟨e, t, row, rfl, ⟨a, b, ha, hb, he⟩, o1, o2, l1, l2, ho, rfl⟩ := h
    have v : ∀ {te : TE} {ρ : Rho}, Ev te ρ e → Ev (tOp (rIx K) te (tC (.int 0))) ρ a ∧ Ev (tOp (rIx K) te (tC (.int 1))) ρ b := fun h => ev_sq2 he h
    have e1 : trueAt t row = (((t.1.map fun n => decide (n ∈ row)).all id) && !((t.2.map fun n => decide (n ∈ row)).any id)) := by
      unfold trueAt; rw [List.all_map, List.any_map]; rfl
    rw [e1]
    refine .inl (st_ret (ev_andV (ev_cb (ev_cons (d := .lst ((t.1.map fun n => decide (n ∈ row)).map Du.D.bl)) ?_ ev_nil) rl_all) fun _ => ev_notV (ev_cb (ev_cons (d := .lst ((t.2.map fun n => decide (n ∈ row)).map Du.D.bl)) ?_ ev_nil) rl_any)))
    · rw [List.map_map]
      exact ev_lc1 (φ := Du.D.str) (ei_sq (v (ev_var rfl)).1 ha) (by omega) fun x hx => ⟨_, gw_name (by simp), ev_op (ev_var rfl) (ev_var rfl) (rd_inSq (.inr rfl) (o1 x hx) ho)⟩
    · rw [List.map_map]
      exact ev_lc1 (φ := Du.D.str) (ei_sq (v (ev_var rfl)).2 hb) (by omega) fun x hx => ⟨_, gw_name (by simp), ev_op (ev_var rfl) (ev_var rfl) (rd_inSq (.inr rfl) (o2 x hx) ho)⟩
end
end Du
namespace Du
open PySem L2
/-! names, lists, terms: of any thing -/
def nmB : D → Bool
  | .str s => nmOk s
  | _ => false
def strD : D → Str
  | .str s => s
  | _ => ""
def sqOf : D → Option (List D)
  | .lst xs => some xs
  | .tup xs => some xs
  | _ => none
def oddOk (d : D) : Prop := (tyD d).isSome = true ∧ ∀ s, d = .str s → s.length ≤ 100000
def oddL (d : D) : Prop := oddOk d ∧ ∀ xs, sqOf d = some xs → xs.length ≤ 20 ∧ ∀ x ∈ xs, oddOk x
def oddT (d : D) : Prop := oddOk d ∧ ∀ xs, sqOf d = some xs → xs.length ≤ 20 ∧ ∀ x ∈ xs, oddL x
def unlB (d : D) : Bool := match sqOf d with
  | none => false
  | some xs => xs.all nmB && decide ((xs.map strD).Nodup)
def nmsD (d : D) : List Str := ((sqOf d).getD []).map strD
def termB (d : D) : Bool := match sqOf d with
  | some [a, b] => unlB a && unlB b && (nmsD a).all fun x => !decide (x ∈ nmsD b)
  | _ => false
theorem nmB_str {d : D} (h : nmB d = true) : d = .str (strD d) ∧ nmOk (strD d) = true := by
  cases d <;> simp [nmB] at h
  exact ⟨rfl, h⟩
theorem all_strs {xs : List D} (h : xs.all nmB = true) : xs = (xs.map strD).map D.str ∧ ∀ n ∈ xs.map strD, nmOk n = true := by
  rw [List.all_eq_true] at h
  constructor
  · rw [List.map_map]
    conv => lhs; rw [← List.map_id xs]
    exact List.map_congr_left fun x hx => (nmB_str (h x hx)).1
  · intro n hn
    obtain ⟨x, hx, rfl⟩ := List.mem_map.mp hn
    exact (nmB_str (h x hx)).2
theorem sqOf_is {d : D} {xs : List D} (h : sqOf d = some xs) : d = .lst xs ∨ d = .tup xs := by
  cases d <;> simp [sqOf] at h
  · exact .inl (by rw [h])
  · exact .inr (by rw [h])
theorem unlB_sq {d : D} (h : unlB d = true) : isSq d (nmsD d) ∧ (nmsD d).Nodup ∧ ∀ n ∈ nmsD d, nmOk n = true := by
  unfold unlB at h
  cases hs : sqOf d with
  | none => rw [hs] at h; cases h
  | some xs =>
    rw [hs] at h
    simp only [Bool.and_eq_true, decide_eq_true_eq] at h
    obtain ⟨e1, e2⟩ := all_strs h.1
    have en : nmsD d = xs.map strD := by unfold nmsD; rw [hs]; rfl
    rw [en]
    refine ⟨?_, h.2, e2⟩
    rcases sqOf_is hs with rfl | rfl
    · exact .inl (congrArg D.lst e1)
    · exact .inr (congrArg D.tup e1)
theorem addAll_le : ∀ (ks L : List Str), (addAll L ks).length ≤ L.length + ks.length
  | [], L => by simp [addAll]
  | k :: ks, L => by
    rw [addAll]
    have := addAll_le ks (addT L k)
    have h2 : (addT L k).length ≤ L.length + 1 := by unfold addT; split <;> simp
    simp only [List.length_cons]; omega
theorem addAll_eq : ∀ {ks L : List Str}, (addAll L ks).length = L.length + ks.length → (∀ x ∈ ks, x ∉ L) ∧ ks.Nodup
  | [], L, _ => ⟨by simp, .nil⟩
  | k :: ks, L, h => by
    rw [addAll] at h
    have h1 := addAll_le ks (addT L k)
    by_cases hk : k ∈ L
    · have e : addT L k = L := by unfold addT; rw [if_pos hk]
      rw [e] at h h1
      simp only [List.length_cons] at h; omega
    · have e : addT L k = k :: L := by unfold addT; rw [if_neg hk]
      rw [e] at h
      simp only [List.length_cons] at h
      obtain ⟨h3, h4⟩ := addAll_eq (ks := ks) (L := k :: L) (by simp only [List.length_cons]; omega)
      refine ⟨fun x hx => ?_, List.nodup_cons.mpr ⟨fun hm => h3 k hm List.mem_cons_self, h4⟩⟩
      rcases List.mem_cons.mp hx with rfl | hx
      · exact hk
      · exact fun hm => h3 x hx (List.mem_cons_of_mem _ hm)
theorem set_len {ns : List Str} : ((addAll [] ns).length = ns.length) ↔ ns.Nodup :=
  ⟨fun h => (addAll_eq (L := []) (by simpa using h)).2, fun h => by simpa using addAll_dis (L := []) (ks := ns) (by simp) h⟩
section
variable {P : Program} {w : World} {K : PySem.W.Frag} {mg : Str → Option Value} {base : Heap} {C CN CT CE : Addr} {ρ : Rho}
theorem isi_str {d : D} {t : String} (h : tyD d = some t) : PySem.W.kitOne K (.type t) (.type "str") = some (decide (t = "str")) := by
  cases d <;> simp only [tyD, Option.some.injEq, reduceCtorEq] at h <;> subst h <;> rfl
theorem isi_sq {d : D} {t : String} (h : tyD d = some t) : PySem.W.kitAny K (.type t) (["list", "tuple"].map Value.type) = some (sqOf d).isSome := by
  cases d <;> simp only [tyD, Option.some.injEq, reduceCtorEq] at h <;> subst h <;> rfl
theorem isi_bl {d : D} {t : String} (h : tyD d = some t) : PySem.W.kitOne K (.type t) (.type "bool") = some (decide (t = "bool")) := by
  cases d <;> simp only [tyD, Option.some.injEq, reduceCtorEq] at h <;> subst h <;> rfl
def RIsNameG (ds : List D) (d : D) : Prop := ∃ e, ds = [e] ∧ oddOk e ∧ d = .bl (nmB e)
theorem ok_is_nameG {f : Addr} {fd : FuncData} (F : Fun K "is_name" "is_name" s_is_name f fd) (T : Tx K mg C) : FnOk P w K mg base CX0 1 f fd ["thing"] (spP RIsNameG) := by
  refine pure_ok F sc_is_name (fun ds d h => ?_) (fun cdv A outer s H E hr => ?_)
  · obtain ⟨s, rfl, _⟩ := h; rfl
  · refine ⟨_, (pss_one (ps_ret (pe_and (pe_callB (k_isi (K := K) rfl) (by rfl) T.isinstance (by decide +kernel) (pa_cons (pv 0) (pa_cons (pe_bltn (v := .ty "str") (by rfl) T.str (by decide +kernel) rfl) pa_nil))) (pe_and (pe_chain op_le op_le pe_int (pe_callB (k_len (K := K) rfl) (by rfl) T.len (by decide +kernel) (pa_cons (pv 0) pa_nil)) (k_globI rfl T.g_LONGEST)) (pe_one (pe_callB (k_all (K := K) rfl rfl) (by rfl) T.all (by decide +kernel) (pa_cons (pe_lc (own := [("sign", 1)]) rfl sc_is_name.nd (pi_str (pv 0)) (blkOk_by (own := [("sign", 1)]) (N := n_is_name) (sc := defScope s_is_name) (by decide +kernel)) (fun _ _ _ _ _ => (pg_name (i := 1) sc_is_name.nd rfl (by first | exact Or.inl rfl | exact Or.inr rfl))) (fun _ _ _ _ _ => pts_nil) (fun _ _ _ _ _ => (pe_cmpR op_in_sign (pv 1) (k_globS rfl T.g_LETTERS) rfl))) pa_nil))))))), ?_⟩
    intro ds d h
    obtain ⟨e, rfl, ⟨ht, hl⟩, rfl⟩ := h
    obtain ⟨t, ht⟩ := Option.isSome_iff_exists.mp ht
    by_cases hs : ∃ s, e = .str s
    · obtain ⟨s, rfl⟩ := hs
      have hl := hl s rfl
      have e : nmB (.str s) = (true && ((decide ((1 : Int) ≤ s.length) && decide ((s.length : Int) ≤ 8)) && (s.cps.toList.map fun c => decide (c ∈ letters.cps.toList)).all id)) := by rw [Bool.true_and]; rfl
      rw [e]
      refine .inl (st_ret (ev_andV (ev_cb (ev_cons (ev_var rfl) (ev_cons (fun _ _ H _ _ _ q => q _ H (Ex.rf H) (.ty "str")) ev_nil)) (rl_isi rfl (isi_same "str"))) fun _ => ev_andV (ev_chain ev_int (ev_cb (ev_cons (ev_var rfl) ev_nil) (rl_lenS hl)) rd_le (fun _ => ev_int) (fun _ => rd_le)) fun hb => ?_))
      have hs : s.length ≤ 8 := by simp at hb; omega
      refine ev_cb (ev_cons (d := .lst ((s.cps.toList.map fun c => decide (c ∈ letters.cps.toList)).map D.bl)) ?_ ev_nil) rl_all
      rw [List.map_map]
      exact ev_lc1 (fe := D.bl ∘ fun c => decide (c ∈ letters.cps.toList)) (ei_str (ev_var rfl)) (by rw [Array.length_toList]; exact Nat.le_trans hs (by decide)) fun c hc => ⟨_, gw_name (by simp), ev_op (ev_var rfl) ev_str rd_inSign⟩
    · have hne : decide (t = "str") = false := by
        cases e <;> simp only [tyD, Option.some.injEq, reduceCtorEq] at ht <;> subst ht <;> first | rfl | exact absurd ⟨_, rfl⟩ hs
      have e2 : nmB e = (false && false) := by
        cases e <;> first | rfl | exact absurd ⟨_, rfl⟩ hs
      rw [e2]
      refine .inl (st_ret (ev_andV (ev_cb (ev_cons (ev_var rfl) (ev_cons (fun _ _ H _ _ _ q => q _ H (Ex.rf H) (.ty "str")) ev_nil)) (rl_isi ht (by rw [isi_str ht, hne]))) fun h => nomatch h))
def RIsListG (ds : List D) (d : D) : Prop := ∃ e, ds = [e] ∧ (tyD e).isSome = true ∧ d = .bl (sqOf e).isSome
theorem ok_is_listG {f : Addr} {fd : FuncData} (F : Fun K "is_list" "is_list" s_is_list f fd) (T : Bn mg) : FnOk P w K mg base CX0 1 f fd ["thing"] (spP RIsListG) := by
  refine pure_ok F sc_is_list (fun ds d h => ?_) (fun cdv A outer s H E hr => ?_)
  · obtain ⟨e, rfl, _⟩ := h; rfl
  · refine ⟨_, (pss_one (ps_ret (pe_callB (k_isiT (K := K) rfl) (by rfl) T.isinstance (by decide +kernel) (pa_cons (pv 0) (pa_cons (pe_tup (pa_cons (pe_bltn (v := .ty "list") (by rfl) T.list (by decide +kernel) rfl) (pa_cons (pe_bltn (v := .ty "tuple") (by rfl) T.tuple (by decide +kernel) rfl) pa_nil))) pa_nil))))), ?_⟩
    intro ds d h
    obtain ⟨e, rfl, h, rfl⟩ := h
    obtain ⟨t, ht⟩ := Option.isSome_iff_exists.mp h
    exact .inl (st_ret (ev_cb (ev_cons (ev_var rfl) (ev_cons (ev_tup (ev_cons ev_ty (ev_cons ev_ty ev_nil)) (by simp)) ev_nil)) (rl_isiT (Ts := ["list", "tuple"]) ht (isi_sq ht))))
theorem ei_sqD {te : TE} {d : D} {xs : List D} (h : Ev te ρ d) (s : sqOf d = some xs) : EvI (iSeq K te) ρ xs := by
  rcases sqOf_is s with rfl | rfl
  · exact ei_seqL h
  · exact ei_seqT h
theorem rl_lenD {d : D} {xs : List D} (s : sqOf d = some xs) : RLD (fun xs H Q => ∃ x n, xs = [x] ∧ LenV K x H n ∧ Q (.int n) H) [d] (.int (xs.length : Nat)) := by
  rcases sqOf_is s with rfl | rfl
  · exact rl_lenL
  · exact rl_lenT
def RUnlikeG (ds : List D) (d : D) : Prop := ∃ e, ds = [e] ∧ oddL e ∧ d = .bl (unlB e)
theorem ok_are_unlike_namesG {f : Addr} {fd : FuncData} (F : Fun K "are_unlike_names" "are_unlike_names" s_are_unlike_names f fd) (T : Bn mg) (c_is_list : C8.Cal P w K mg base 1 "is_list" (spP RIsListG) []) (c_is_name : C8.Cal P w K mg base 1 "is_name" (spP RIsNameG) []) : FnOk P w K mg base CX0 2 f fd ["thing"] (spP RUnlikeG) := by
  refine pure_ok F sc_are_unlike_names (fun ds d h => ?_) (fun cdv A outer s H E hr => ?_)
  · obtain ⟨e, rfl, _⟩ := h; rfl
  · refine ⟨_, (pss_one (ps_ret (pe_and (C8.pe_c c_is_list hr (by omega) rfl (pa_cons (pv 0) pa_nil)) (pe_and (pe_callB (k_all (K := K) rfl rfl) (by rfl) T.all (by decide +kernel) (pa_cons (pe_lc (own := [("name", 1)]) rfl sc_are_unlike_names.nd (k_seq (K := K) rfl (pv 0)) (blkOk_by (own := [("name", 1)]) (N := n_are_unlike_names) (sc := defScope s_are_unlike_names) (by decide +kernel)) (fun _ _ _ _ _ => (pg_name (i := 1) sc_are_unlike_names.nd rfl (by first | exact Or.inl rfl | exact Or.inr rfl))) (fun _ _ _ _ _ => pts_nil) (fun _ _ _ _ _ => (C8.pe_c c_is_name hr (by omega) rfl (pa_cons (pv 1) pa_nil)))) pa_nil)) (pe_one (pe_cmpR (k_eq (K := K) rfl hr) (pe_callB (k_lenTxt (w := w) rfl) (by rfl) T.len (by decide +kernel) (pa_cons (pe_callTy (k_setTxtU (K := K) (w := w) rfl rfl rfl) (by rfl) T.set (by decide +kernel) (pa_cons (pv 0) pa_nil)) pa_nil)) (pe_callB (k_len (K := K) rfl) (by rfl) T.len (by decide +kernel) (pa_cons (pv 0) pa_nil)) (nomark _))))))), ?_⟩
    intro ds d h
    obtain ⟨e, rfl, ⟨ho, hi⟩, rfl⟩ := h
    cases hs : sqOf e with
    | none =>
      have e1 : unlB e = ((sqOf e).isSome && false) := by unfold unlB; rw [hs]; rfl
      rw [e1]
      exact .inl (st_ret (ev_andV (ev_call (ev_cons (ev_var rfl) ev_nil) ⟨e, rfl, ho.1, rfl⟩) fun h => by rw [hs] at h; cases h))
    | some xs =>
      obtain ⟨hl, hx⟩ := hi xs hs
      have e1 : unlB e = ((sqOf e).isSome && (((xs.map nmB).all id) && decide ((xs.map strD).Nodup))) := by unfold unlB; rw [hs, List.all_map]; rfl
      rw [e1]
      refine .inl (st_ret (ev_andV (ev_call (ev_cons (ev_var rfl) ev_nil) ⟨e, rfl, ho.1, rfl⟩) fun _ => ev_andV (ev_cb (ev_cons (d := .lst ((xs.map nmB).map Du.D.bl)) ?_ ev_nil) rl_all) fun hall => ?_))
      · rw [List.map_map]
        exact ev_lc1 (φ := id) (by rw [List.map_id]; exact ei_sqD (ev_var rfl) hs) (by omega) fun n hn' => ⟨_, gw_name (by simp), ev_call (ev_cons (ev_var rfl) ev_nil) ⟨n, rfl, hx n hn', rfl⟩⟩
      · have hall' : xs.all nmB = true := by rw [List.all_map] at hall; exact hall
        obtain ⟨ex, _⟩ := all_strs hall'
        have e2 : decide ((xs.map strD).Nodup) = eqD (.int ((addAll [] (xs.map strD)).length : Nat)) (.int (xs.map strD).length) := by
          rw [eqD_int]
          rw [Bool.eq_iff_iff, decide_eq_true_eq, decide_eq_true_eq, ← set_len]
          omega
        rw [e2]
        have hq : isSq e (xs.map strD) := by
          rcases sqOf_is hs with rfl | rfl
          · exact .inl (congrArg D.lst ex)
          · exact .inr (congrArg D.tup ex)
        have hsl := rl_lenSq (K := K) hq
        have hl2 : (xs.map strD).length ≤ 20 := by rw [List.length_map]; exact hl
        generalize xs.map strD = ns at *
        rcases hq with rfl | rfl
        · exact ev_op (ev_lenSetL (ev_var rfl) (by omega)) (ev_cb (ev_cons (ev_var rfl) ev_nil) hsl) (rd_eq ok_int ok_int)
        · exact ev_op (ev_lenSetT (ev_var rfl) (by omega)) (ev_cb (ev_cons (ev_var rfl) ev_nil) hsl) (rd_eq ok_int ok_int)
def RIsTermG (ds : List D) (d : D) : Prop := ∃ e, ds = [e] ∧ oddT e ∧ (∀ xs, sqOf e = some xs → ∀ x ∈ xs, okS (nmsD x)) ∧ d = .bl (termB e)
theorem ok_is_termG {f : Addr} {fd : FuncData} (F : Fun K "is_term" "is_term" s_is_term f fd) (T : Bn mg) (c_is_list : C8.Cal P w K mg base 1 "is_list" (spP RIsListG) []) (c_are_unlike_names : C8.Cal P w K mg base 2 "are_unlike_names" (spP RUnlikeG) []) : FnOk P w K mg base CX0 3 f fd ["thing"] (spP RIsTermG) := by
  refine pure_ok F sc_is_term (fun ds d h => ?_) (fun cdv A outer s H E hr => ?_)
  · obtain ⟨e, rfl, _⟩ := h; rfl
  · refine ⟨_, (pss_cons (ps_if (PW.pt (pw_or (pt_not (pt_val (C8.pe_c c_is_list hr (by omega) rfl (pa_cons (pv 0) pa_nil)))) (pw_or (pt_cmpR (k_ne (K := K) rfl hr) (pe_callB (k_len (K := K) rfl) (by rfl) T.len (by decide +kernel) (pa_cons (pv 0) pa_nil)) pe_int (nomark _)) (pw_or (pt_not (pt_val (C8.pe_c c_are_unlike_names hr (by omega) rfl (pa_cons (pe_ix (k_ix (K := K) rfl) (pv 0) pe_int (fun _ _ => rfl)) pa_nil)))) (pw_or1 (pt_not (pt_val (C8.pe_c c_are_unlike_names hr (by omega) rfl (pa_cons (pe_ix (k_ix (K := K) rfl) (pv 0) pe_int (fun _ _ => rfl)) pa_nil))))))))) (pss_one (ps_ret pe_bl)) pss_nil) (pss_one (ps_ret (pe_callB (k_all (K := K) rfl rfl) (by rfl) T.all (by decide +kernel) (pa_cons (pe_lc (own := [("name", 1)]) rfl sc_is_term.nd (k_seq (K := K) rfl (pe_ix (k_ix (K := K) rfl) (pv 0) pe_int (fun _ _ => rfl))) (blkOk_by (own := [("name", 1)]) (N := n_is_term) (sc := defScope s_is_term) (by decide +kernel)) (fun _ _ _ _ _ => (pg_name (i := 1) sc_is_term.nd rfl (by first | exact Or.inl rfl | exact Or.inr rfl))) (fun _ _ _ _ _ => pts_nil) (fun _ _ _ _ _ => (pe_cmpR (k_notInU (K := K) rfl hr) (pv 1) (pe_ix (k_ix (K := K) rfl) (pv 0) pe_int (fun _ _ => rfl)) (by rfl)))) pa_nil))))), ?_⟩
    intro ds d h
    obtain ⟨e, rfl, ⟨ho, hi⟩, hk, rfl⟩ := h
    have ev1 : ∀ {ρ : Rho}, ρ[0]? = some (some e) → EvT (tNot (tB (tCall (spP RIsListG) [] C8.E0 (tCons (tVar 0) tNil)))) ρ (!(sqOf e).isSome) := fun h0 => et_not (et_B (ev_call (ev_cons (ev_var h0) ev_nil) ⟨e, rfl, ho.1, rfl⟩))
    by_cases h2 : ∃ a b, sqOf e = some [a, b]
    · obtain ⟨a, b, hs⟩ := h2
      obtain ⟨hl, hx⟩ := hi _ hs
      have he : e = .tup [a, b] ∨ e = .lst [a, b] := (sqOf_is hs).symm
      have v : ∀ {te : TE} {ρ : Rho}, Ev te ρ e → Ev (tOp (rIx K) te (tC (.int 0))) ρ a ∧ Ev (tOp (rIx K) te (tC (.int 1))) ρ b := fun h => ev_sq2 he h
      have hlen : RLD (fun xs H Q => ∃ x n, xs = [x] ∧ LenV K x H n ∧ Q (.int n) H) [e] (.int 2) := rl_lenD (K := K) hs
      have e2 : (!(sqOf e).isSome || (!eqD (.int 2) (.int 2) || (!unlB a || !unlB b))) = !(unlB a && unlB b) := by
        rw [hs, eqD_int]; simp
      have e3 : termB e = ((unlB a && unlB b) && (nmsD a).all fun x => !decide (x ∈ nmsD b)) := by unfold termB; rw [hs]
      rw [e3]
      cases hu : (unlB a && unlB b) with
      | false =>
        exact .inl (st_seqR (st_if (b := (!(sqOf e).isSome || (!eqD (.int 2) (.int 2) || (!unlB a || !unlB b)))) (et_or (ev1 rfl) fun _ => et_or (et_test (ev_op (ev_cb (ev_cons (ev_var rfl) ev_nil) hlen) ev_int (rd_ne ok_int ok_int))) fun _ => et_or (et_not (et_B (ev_call (ev_cons (v (ev_var rfl)).1 ev_nil) ⟨a, rfl, hx a (by simp), rfl⟩))) fun _ => et_not (et_B (ev_call (ev_cons (v (ev_var rfl)).2 ev_nil) ⟨b, rfl, hx b (by simp), rfl⟩))) (fun _ => st_ret ev_bl) fun h => by rw [e2, hu] at h; cases h))
      | true =>
        obtain ⟨ha, hb⟩ := Bool.and_eq_true_iff.mp hu
        obtain ⟨qa, _, na⟩ := unlB_sq ha
        obtain ⟨qb, _, nb⟩ := unlB_sq hb
        have ka := hk _ hs a (by simp)
        have kb := hk _ hs b (by simp)
        have hla : (nmsD a).length ≤ 20 := by
          obtain ⟨xs, hxs⟩ : ∃ xs, sqOf a = some xs := by
            unfold unlB at ha
            cases h : sqOf a with
            | none => rw [h] at ha; cases ha
            | some xs => exact ⟨xs, rfl⟩
          have := ((hx a (by simp)).2 xs hxs).1
          unfold nmsD; rw [hxs]; simpa using this
        rw [Bool.true_and]
        have e4 : ((nmsD a).all fun x => !decide (x ∈ nmsD b)) = (((nmsD a).map fun x => !decide (x ∈ nmsD b)).all id) := by rw [List.all_map]; rfl
        rw [e4]
        refine .inl (st_seq (st_if (b := (!(sqOf e).isSome || (!eqD (.int 2) (.int 2) || (!unlB a || !unlB b)))) (et_or (ev1 rfl) fun _ => et_or (et_test (ev_op (ev_cb (ev_cons (ev_var rfl) ev_nil) hlen) ev_int (rd_ne ok_int ok_int))) fun _ => et_or (et_not (et_B (ev_call (ev_cons (v (ev_var rfl)).1 ev_nil) ⟨a, rfl, hx a (by simp), rfl⟩))) fun _ => et_not (et_B (ev_call (ev_cons (v (ev_var rfl)).2 ev_nil) ⟨b, rfl, hx b (by simp), rfl⟩))) (fun h => by rw [e2, hu] at h; cases h) fun _ => st_next) (st_ret (ev_cb (ev_cons (d := .lst (((nmsD a).map fun x => !decide (x ∈ nmsD b)).map Du.D.bl)) ?_ ev_nil) rl_all)))
        rw [List.map_map]
        exact ev_lc1 (φ := Du.D.str) (ei_sq (v (ev_var rfl)).1 qa) (by omega) fun x hx => ⟨_, gw_name (by simp), ev_op (ev_var rfl) (v (ev_var rfl)).2 (rd_notInSq qb (ka x hx) kb)⟩
    · have e3 : termB e = false := by
        unfold termB
        cases hs : sqOf e with
        | none => rfl
        | some xs =>
          match xs, hs with
          | [], _ => rfl
          | [_], _ => rfl
          | [a, b], hs => exact absurd ⟨a, b, hs⟩ h2
          | _ :: _ :: _ :: _, _ => rfl
      rw [e3]
      cases hs : sqOf e with
      | none =>
        exact .inl (st_seqR (st_if (b := !(sqOf e).isSome || false) (et_or (ev1 rfl) fun h => by rw [hs] at h; cases h) (fun _ => st_ret ev_bl) fun h => by rw [hs] at h; cases h))
      | some xs =>
        have hn : ¬ xs.length = 2 := fun h => by
          match xs, h with
          | [a, b], _ => exact h2 ⟨a, b, hs⟩
        have e5 : (!(sqOf e).isSome || (!eqD (.int (xs.length : Nat)) (.int 2) || false)) = true := by
          have : ¬ ((xs.length : Nat) : Int) = 2 := by omega
          rw [eqD_int]; simp [this]
        refine .inl (st_seqR (st_if (b := !(sqOf e).isSome || (!eqD (.int (xs.length : Nat)) (.int 2) || false)) (et_or (ev1 rfl) fun _ => et_or (et_test (ev_op (ev_cb (ev_cons (ev_var rfl) ev_nil) (rl_lenD (K := K) hs)) ev_int (rd_ne ok_int ok_int))) fun h => ?_) (fun _ => st_ret ev_bl) fun h => by rw [e5] at h; cases h))
        rw [eqD_int] at h
        have : ¬ ((xs.length : Nat) : Int) = 2 := by omega
        simp [this] at h
end
end Du
namespace Du
open PySem L2
def nmsOf (ps : List (D × Tm)) : List Str := ps.flatMap fun p => p.2.1 ++ p.2.2
def ptsOf (ps : List (D × Tm)) : List (List Str) := (choices (uniq (nmsOf ps))).filter fun r => ps.any fun p => trueAt p.2 r
theorem nms_take {ps : List (D × Tm)} {i : Nat} {p : D × Tm} (h : ps[i]? = some p) : nmsOf (ps.take (i + 1)) = nmsOf (ps.take i) ++ (p.2.1 ++ p.2.2) := by
  have e : ps.take (i + 1) = ps.take i ++ [p] := by rw [List.take_add_one, h]; rfl
  unfold nmsOf
  rw [e, List.flatMap_append]
  simp
theorem nms_le (ps : List (D × Tm)) (i : Nat) : (nmsOf (ps.take i)).length ≤ (nmsOf ps).length := by
  have : nmsOf ps = nmsOf (ps.take i) ++ nmsOf (ps.drop i) := by unfold nmsOf; rw [← List.flatMap_append, List.take_append_drop]
  rw [this, List.length_append]; omega
section
variable {P : Program} {w : World} {K : PySem.W.Frag} {mg : Str → Option Value} {base : Heap} {C : Addr} {ρ : Rho}
def ROfTerms (C : Addr) (ds : List D) (d : D) : Prop := ∃ (e : D) (ps : List (D × Tm)), ds = [e] ∧ (e = .lst (ps.map Prod.fst) ∨ e = .tup (ps.map Prod.fst)) ∧ ps.length ≤ 1000 ∧ (∀ p ∈ ps, isTm p.1 p.2.1 p.2.2 ∧ TmOk p.2) ∧ (nmsOf ps).length ≤ 4000 ∧ (uniq (nmsOf ps)).length ≤ 12 ∧ d = SayD C (sN (nmsOf ps) (ptsOf ps)) (sP (nmsOf ps) (ptsOf ps))
abbrev s_Say_of_terms : Stmt := inClass (top 21) 4
abbrev n_Say_of_terms : List Str := ["terms", "names", "index", "thing", "row", "term"]
theorem sc_Say_of_terms : FnScope n_Say_of_terms ["terms"] (defScope s_Say_of_terms) := ⟨rfl, rfl, rfl, by decide +kernel, rfl, by decide +kernel, by decide +kernel⟩

theorem ok_Say_of_terms {f : Addr} {fd : FuncData} (F : Fun K "of_terms" "Say.of_terms" s_Say_of_terms f fd) (T : Tx K mg C) (c_is_list : C8.Cal P w K mg base 1 "is_list" (spP RIsList) []) (c_is_term : C8.Cal P w K mg base 3 "is_term" (spP RIsTerm) []) (c_said_at : C8.Cal P w K mg base 3 "said_at" (spP (RSaidG C)) []) (c_choices_over : C8.Cal P w K mg base 2 "choices_over" (spP ROverG) []) (c_is_true_at : C8.Cal P w K mg base 1 "is_true_at" (spP RTrueAt) []) : FnOk P w K mg base CX0 4 f fd ["terms"] (spP (ROfTerms C)) := by
  refine pure_ok F sc_Say_of_terms (fun ds d h => ?_) (fun cdv A outer s H E hr => ?_)
  · obtain ⟨e, ps, rfl, _⟩ := h; rfl
  · refine ⟨_, (pss_cons (ps_if (pt_not (pt_val (C8.pe_c c_is_list hr (by omega) rfl (pa_cons (pv 0) pa_nil)))) (pss_one ps_never) pss_nil) (pss_cons (ps_set (i := 1) sc_Say_of_terms.nd rfl (by first | exact Or.inl rfl | exact Or.inr rfl) (pe_lst pa_nil)) (pss_cons (ps_for PassesOwn.never rfl (pi_enumA (K := K) rfl (by rfl) T.enumerate (pa_cons (pv 0) pa_nil)) (k_pgt (K := K) (n := 2) rfl rfl (pgs_cons (pg_name (i := 2) sc_Say_of_terms.nd rfl (by first | exact Or.inl rfl | exact Or.inr rfl)) (pgs_cons (pg_name (i := 3) sc_Say_of_terms.nd rfl (by first | exact Or.inl rfl | exact Or.inr rfl)) pgs_nil))) (pss_cons (ps_if (pt_not (pt_val (C8.pe_c c_is_term hr (by omega) rfl (pa_cons (pv 3) pa_nil)))) (pss_one ps_never) pss_nil) (pss_one (ps_expr (k_bm (K := K) rfl PySem.F.plainAttrs_list PySem.F.slot_list_extend PySem.F.type_list_extend mt_extend (pv 1) (pa_cons (pe_lst (k_star (K := K) rfl (pe_ix (k_ix (K := K) rfl) (pv 3) pe_int (fun _ _ => rfl)) (k_star (K := K) rfl (pe_ix (k_ix (K := K) rfl) (pv 3) pe_int (fun _ _ => rfl)) pa_nil))) pa_nil)))))) (pss_one (ps_ret (C8.pe_c c_said_at hr (by omega) rfl (pa_cons (pv 1) (pa_cons (pe_lc (own := [("row", 4)]) rfl sc_Say_of_terms.nd (k_seq (K := K) rfl (C8.pe_c c_choices_over hr (by omega) rfl (pa_cons (pv 1) pa_nil))) (blkOk_by (own := [("row", 4)]) (N := n_Say_of_terms) (sc := defScope s_Say_of_terms) (by decide +kernel)) (fun _ _ _ _ _ => (pg_name (i := 4) sc_Say_of_terms.nd rfl (by first | exact Or.inl rfl | exact Or.inr rfl))) (fun _ _ _ _ _ => pts_one (pt_val (pe_callB (k_any (K := K) rfl rfl) (by rfl) T.any (by decide +kernel) (pa_cons (pe_lc (own := [("term", 5)]) rfl sc_Say_of_terms.nd (k_seq (K := K) rfl (pv 0)) (blkIn (own := [("term", 5)]) (N := n_Say_of_terms) (sc0 := defScope s_Say_of_terms) rfl (by decide +kernel)) (fun _ _ _ _ _ => (pg_name (i := 5) sc_Say_of_terms.nd rfl (by first | exact Or.inl rfl | exact Or.inr rfl))) (fun _ _ _ _ _ => pts_nil) (fun _ _ _ _ _ => (C8.pe_c c_is_true_at hr (by omega) rfl (pa_cons (pv 5) (pa_cons (pv 4) pa_nil))))) pa_nil)))) (fun _ _ _ _ _ => (pv 4))) pa_nil)))))))), ?_⟩
    intro ds d h
    obtain ⟨e, ps, rfl, he, hl, hp, hn, hu, rfl⟩ := h
    have ht : sqTy e := by
      rcases he with rfl | rfl
      · exact .inl ⟨_, rfl⟩
      · exact .inr ⟨_, rfl⟩
    have hE : ∀ {ρ : Rho}, ρ[0]? = some (some e) → EvI (iEnumA K (tCons (tVar 0) tNil)) ρ ((ps.map Prod.fst).zipIdx.map fun p => Du.D.tup [.int p.2, p.1]) := fun h0 => by
      rcases he with rfl | rfl
      · exact ei_enumL (ev_cons (ev_var h0) ev_nil)
      · exact ei_enumT (ev_cons (ev_var h0) ev_nil)
    have hI : ∀ {ρ : Rho}, ρ[0]? = some (some e) → EvI (iSeq K (tVar 0)) ρ (ps.map Prod.fst) := fun h0 => by
      rcases he with rfl | rfl
      · exact ei_seqL (ev_var h0)
      · exact ei_seqT (ev_var h0)
    have okn : okS (nmsOf ps) := fun x hx => by
      obtain ⟨p, hpm, h⟩ := List.mem_flatMap.mp hx
      rcases List.mem_append.mp h with h | h
      · exact (hp p hpm).2.sy x h
      · exact (hp p hpm).2.sn x h
    refine .inl (st_seq (st_if (et_not (b := true) (et_B (ev_call (ev_cons (ev_var rfl) ev_nil) ⟨e, rfl, ht, rfl⟩))) (fun h => by cases h) fun _ => st_next) (st_gs (gs_own (gea_nil ⟨by decide, fun a _ => ?_⟩))))
    refine gs_seq (gs_for (fun i ρ' μ' => ρ' = [some e, some (.ptr a), none, none, none, none] ∧ μ' = [(a, lS (nmsOf (ps.take i)))]) (hE rfl) (Lq.rf _) ⟨rfl, rfl⟩ ?_ ?_)
    · rintro i d ρi μi hd ⟨rfl, rfl⟩
      rw [List.getElem?_map] at hd
      obtain ⟨q, hq, rfl⟩ := Option.map_eq_some_iff.mp hd
      rw [List.getElem?_zipIdx, List.getElem?_map] at hq
      obtain ⟨q1, hq1, rfl⟩ := Option.map_eq_some_iff.mp hq
      obtain ⟨p, hpi, rfl⟩ := Option.map_eq_some_iff.mp hq1
      obtain ⟨⟨x, y, hx, hy, hxy⟩, hto⟩ := hp p (List.mem_of_getElem? hpi)
      have v : ∀ {te : TE} {ρ : Rho}, Ev te ρ p.1 → Ev (tOp (rIx K) te (tC (.int 0))) ρ x ∧ Ev (tOp (rIx K) te (tC (.int 1))) ρ y := fun h => ev_sq2 hxy h
      have h1 := nms_le ps (i + 1)
      have hnt := nms_take hpi
      rw [hnt, List.length_append, List.length_append] at h1
      refine ⟨_, ga_tup (gas_cons ga_name (gas_cons ga_name gas_nil)) rfl, gs_seq (gs_st (st_if (et_not (b := true) (et_B (ev_call (ev_cons (ev_var rfl) ev_nil) ⟨p.1, p.2, rfl, ⟨x, y, hx, hy, hxy⟩, hto, rfl⟩))) (fun h => by cases h) fun _ => st_next) (gs_drop (ge_extend (ge_ev (ev_var rfl) ⟨a, 0, _, rfl, rfl, gea_ev (ev_cons (ev_lst (ev_starSq hx (v (ev_var rfl)).1 (ev_starSq hy (v (ev_var rfl)).2 ev_nil)) (by simp; omega)) ev_nil) ⟨_, _, rfl, rfl, ?_, _, .keep (.keep (.skip (.skip (.skip (.skip .nil))))), rfl, ?_⟩⟩))))⟩
      · simp; omega
      · rw [hnt]; simp [lS]
    · rintro ρ' μ' ⟨rfl, rfl⟩
      have el : (((ps.map Prod.fst).zipIdx.map fun p => Du.D.tup [.int p.2, p.1]).length) = ps.length := by simp
      rw [el, List.take_length]
      have okr : ∀ r ∈ choices (uniq (nmsOf ps)), okS r := fun r hr => okS_choice (okS_uniq okn) hr
      have hcl := choices_le hu
      refine gs_freeze (i := 1) rfl (gs_ret (ge_ev (ev_call (ev_cons (ev_var rfl) (ev_cons (d := lR (ptsOf ps)) (ev_lc (φ := tS) (pb := fun r => ps.any fun p => trueAt p.2 r) (ei_seqL (ev_call (ev_cons (ev_var rfl) ev_nil) ⟨nmsOf ps, rfl, hu, hn, rfl⟩)) (by omega) fun r hr => ⟨_, gw_name (by simp), et_B ?_, fun _ => ev_var rfl⟩) ev_nil)) ⟨nmsOf ps, ptsOf ps, .inl rfl, hu, hn, okn, fun p hp' => okr p (List.mem_filter.mp hp').1, rfl⟩) ⟨[], .inl ⟨rfl, by simp [dom]⟩, rfl⟩))
      have e1 : (ps.any fun p => trueAt p.2 r) = ((ps.map fun p => trueAt p.2 r).any id) := by rw [List.any_map]; rfl
      rw [e1]
      refine ev_cb (ev_cons (d := .lst ((ps.map fun p => trueAt p.2 r).map Du.D.bl)) ?_ ev_nil) rl_any
      rw [List.map_map]
      refine ev_lc1 (φ := Prod.fst) (hI rfl) (by omega) fun p hp' => ⟨_, gw_name (by simp), ev_call (ev_cons (ev_var rfl) (ev_cons (ev_var rfl) ev_nil)) ⟨p.1, p.2, r, rfl, (hp p hp').1, (hp p hp').2.sy, (hp p hp').2.sn, by have := (hp p hp').2.ly; omega, by have := (hp p hp').2.ln; omega, okr r hr, rfl⟩⟩

end
/-! errors of this law -/
section
variable {P : Program} {w : World} {K : PySem.W.Frag} {mg : Str → Option Value} {base : Heap} {C CN CT CE : Addr} {ρ : Rho}
abbrev s_BadName_init : Stmt := inClass (top 9) 0
abbrev n_BadName_init : List Str := ["self", "name"]
theorem sc_BadName_init : FnScope n_BadName_init ["self", "name"] (defScope s_BadName_init) := ⟨rfl, rfl, rfl, by decide +kernel, rfl, by decide +kernel, by decide +kernel⟩

theorem ok_BN_init {DE f : Addr} {mc : Value} {fd : FuncData} (F : Fun K "__init__" "BadName.__init__" s_BadName_init f fd) (gD : mg "DeedError" = some (.ref DE)) (rd : ClX.CRead K DE mc) (fc : PySem.W.findCls K (.ref DE) mc "__init__" = some (.val (.builtin "ValueError.__init__"))) (T : OexC K CN) (no : PySem.W.findIn K (.ref CN) "name" = some none) : FnOk P w K mg base CX0 1 f fd ["self", "name"] (spInF CN "name") := by
  refine F.ok sc_BadName_init (fun vs H Q E h => ?_) (fun cdv A outer s H vs Q E hr h => ?_)
  · obtain ⟨a, v, rfl, _⟩ := h; rfl
  · obtain ⟨a, v, rfl, ha, q⟩ := h
    refine ⟨_, pss_cons (ps_expr (pe_deinit (pe_glob (v := .ref _) rfl gD rfl) rd fc (pa_cons (pv 0) (pa_cons pe_str pa_nil)))) (pss_one (ps_ost (pv 0) (pv 1))), ?_⟩
    exact ⟨rfl, _, rfl, a, CN, [.str _], rfl, by decide, T, ha, _, rfl, _, rfl, a, CN, rfl, T, no, .inl ⟨ha, q⟩⟩
abbrev s_BadTruth_init : Stmt := inClass (top 10) 0
abbrev n_BadTruth_init : List Str := ["self", "thing"]
theorem sc_BadTruth_init : FnScope n_BadTruth_init ["self", "thing"] (defScope s_BadTruth_init) := ⟨rfl, rfl, rfl, by decide +kernel, rfl, by decide +kernel, by decide +kernel⟩

theorem ok_BT_init {DE f : Addr} {mc : Value} {fd : FuncData} (F : Fun K "__init__" "BadTruth.__init__" s_BadTruth_init f fd) (gD : mg "DeedError" = some (.ref DE)) (rd : ClX.CRead K DE mc) (fc : PySem.W.findCls K (.ref DE) mc "__init__" = some (.val (.builtin "ValueError.__init__"))) (T : OexC K CT) (no : PySem.W.findIn K (.ref CT) "thing" = some none) : FnOk P w K mg base CX0 1 f fd ["self", "thing"] (spInF CT "thing") := by
  refine F.ok sc_BadTruth_init (fun vs H Q E h => ?_) (fun cdv A outer s H vs Q E hr h => ?_)
  · obtain ⟨a, v, rfl, _⟩ := h; rfl
  · obtain ⟨a, v, rfl, ha, q⟩ := h
    refine ⟨_, pss_cons (ps_expr (pe_deinit (pe_glob (v := .ref _) rfl gD rfl) rd fc (pa_cons (pv 0) (pa_cons pe_str pa_nil)))) (pss_one (ps_ost (pv 0) (pv 1))), ?_⟩
    exact ⟨rfl, _, rfl, a, CT, [.str _], rfl, by decide, T, ha, _, rfl, _, rfl, a, CT, rfl, T, no, .inl ⟨ha, q⟩⟩
abbrev s_BadTerm_init : Stmt := inClass (top 11) 0
abbrev n_BadTerm_init : List Str := ["self", "index"]
theorem sc_BadTerm_init : FnScope n_BadTerm_init ["self", "index"] (defScope s_BadTerm_init) := ⟨rfl, rfl, rfl, by decide +kernel, rfl, by decide +kernel, by decide +kernel⟩

theorem ok_BE_init {DE f : Addr} {mc : Value} {fd : FuncData} (F : Fun K "__init__" "BadTerm.__init__" s_BadTerm_init f fd) (gD : mg "DeedError" = some (.ref DE)) (rd : ClX.CRead K DE mc) (fc : PySem.W.findCls K (.ref DE) mc "__init__" = some (.val (.builtin "ValueError.__init__"))) (T : OexC K CE) (no : PySem.W.findIn K (.ref CE) "index" = some none) : FnOk P w K mg base CX0 1 f fd ["self", "index"] (spInF CE "index") := by
  refine F.ok sc_BadTerm_init (fun vs H Q E h => ?_) (fun cdv A outer s H vs Q E hr h => ?_)
  · obtain ⟨a, v, rfl, _⟩ := h; rfl
  · obtain ⟨a, v, rfl, ha, q⟩ := h
    refine ⟨_, pss_cons (ps_expr (pe_deinit (pe_glob (v := .ref _) rfl gD rfl) rd fc (pa_cons (pv 0) (pa_cons pe_str pa_nil)))) (pss_one (ps_ost (pv 0) (pv 1))), ?_⟩
    exact ⟨rfl, _, rfl, a, CE, [.str _], rfl, by decide, T, ha, _, rfl, _, rfl, a, CE, rfl, T, no, .inl ⟨ha, q⟩⟩
/-! what refuses -/
def RxName (CN : Addr) (ds : List D) (C : Addr) (f : Str) (d : D) : Prop := ∃ e, ds = [e] ∧ oddOk e ∧ nmB e = false ∧ C = CN ∧ f = "name" ∧ d = e
theorem ok_check_nameX {f : Addr} {fd : FuncData} (F : Fun K "check_name" "check_name" s_check_name f fd) (T : Tx K mg C) (U_BadName : ErrF P w K mg base 1 CN "BadName" "name") (c_is_name : C8.Cal P w K mg base 1 "is_name" (spP RIsNameG) []) : FnOk P w K mg base (L2.CX P w) 3 f fd ["name"] (spXF (RxName CN)) := by
  refine raiseF_ok F sc_check_name (fun ds C f d h => ?_) (fun cdv A outer s H E hr => ?_)
  · obtain ⟨e, rfl, _⟩ := h; rfl
  · refine ⟨_, (pss_one (ps_if (pt_not (pt_val (C8.pe_c c_is_name hr (by omega) rfl (pa_cons (pv 0) pa_nil)))) (pss_one (ps_raise rfl takesX (pmk_F U_BadName hr (by omega) rfl (pa_cons (pv 0) pa_nil)))) pss_nil)), ?_⟩
    rintro ds C f d ⟨e, rfl, ho, hn, rfl, rfl, rfl⟩
    exact gsx_if (gt_ev (et_not (et_B (ev_call (ev_cons (ev_var rfl) ev_nil) ⟨_, rfl, ho, rfl⟩))) (by rw [hn]; exact gsx_raise (ge_ev (ev_var rfl) ⟨rfl, rfl, rfl⟩)))
theorem ok_Say_testX {f : Addr} {fd : FuncData} (F : Fun K "test" "Say.test" s_Say_test f fd) (T : Tx K mg C) (x_check_name : CalX P w K mg base 3 "check_name" (spF RCheck (RxName CN))) (c_Say : C8.Mak P w K mg base 1 "Say" C (spM (RInit C)) []) : FnOk P w K mg base (L2.CX P w) 4 f fd ["name"] (spXF (RxName CN)) := by
  refine raiseF_ok F sc_Say_test (fun ds C f d h => ?_) (fun cdv A outer s H E hr => ?_)
  · obtain ⟨e, rfl, _⟩ := h; rfl
  · refine ⟨_, (pss_cons (ps_expr (pe_cX x_check_name hr (by omega) passX rfl (pa_cons (pv 0) pa_nil))) (pss_one (ps_ret (C8.pe_mk c_Say hr (by omega) rfl (pa_cons (pe_lst (pa_cons (pv 0) pa_nil)) (pa_cons (pe_lst (pa_cons (pe_tup (pa_cons (pv 0) pa_nil)) pa_nil)) pa_nil)))))), ?_⟩
    rintro ds C f d ⟨e, rfl, ho, hn, rfl, rfl, rfl⟩
    exact gsx_seq (gsx_drop (gex_call (gea_ev (ev_cons (ev_var rfl) ev_nil) (.inr ⟨_, _, _, ⟨_, rfl, ho, hn, rfl, rfl, rfl⟩, rfl, rfl, rfl⟩))))
def RxHolds (C0 CN : Addr) (ds : List D) (C : Addr) (f : Str) (d : D) : Prop := ∃ (nn : List Str) (ps : List (List Str)) (ns : List Str) (e : D) (rest : List D) (x : D), ds = [SayD C0 nn ps, x] ∧ sqOf x = some (ns.map D.str ++ e :: rest) ∧ (∀ n ∈ ns, nmOk n = true) ∧ oddOk e ∧ nmB e = false ∧ C = CN ∧ f = "name" ∧ d = e
theorem ok_Say_holdsX {f : Addr} {fd : FuncData} (F : Fun K "holds" "Say.holds" s_Say_holds f fd) (T : Tx K mg C) (x_check_name : CalX P w K mg base 3 "check_name" (spF RCheck (RxName CN))) (c_Say_at : C8.Met P w K mg base 1 C "at" (spP (RAt C)) []) : FnOk P w K mg base (L2.CX P w) 4 f fd ["self", "true"] (spXF (RxHolds C CN)) := by
  refine raiseF_ok F sc_Say_holds (fun ds C f d h => ?_) (fun cdv A outer s H E hr => ?_)
  · obtain ⟨nn, ps, ns, e, rest, x, rfl, _⟩ := h; rfl
  · refine ⟨_, (pss_cons (ps_for (passes_of rfl) rfl (k_seq (K := K) rfl (pv 1)) (pg_name (i := 2) sc_Say_holds.nd rfl (by first | exact Or.inl rfl | exact Or.inr rfl)) (pss_one (ps_expr (pe_cX x_check_name hr (by omega) passX rfl (pa_cons (pv 2) pa_nil))))) (pss_one (ps_ret (C8.pe_mt c_Say_at hr (by omega) (pv 0) (pa_cons (pv 1) pa_nil))))), ?_⟩
    rintro ds C' f d ⟨nn, ps, ns, e, rest, x, rfl, hs, hn, ho, hb, rfl, rfl, rfl⟩
    refine gsx_seq (gsx_for (fun i ρ' μ' => ρ' = [some (SayD C nn ps), some x, none] ∧ μ' = [] ∧ i ≤ ns.length) (ei_sqD (ev_var rfl) hs) (Lq.rf _) ⟨rfl, rfl, Nat.zero_le _⟩ ?_ ?_)
    · rintro i d' ρi μi hd ⟨rfl, rfl, hi⟩
      by_cases hl : i < ns.length
      · rw [List.getElem?_append_left (by simpa using hl), List.getElem?_map] at hd
        obtain ⟨n, hn', rfl⟩ := Option.map_eq_some_iff.mp hd
        exact ⟨_, ga_name, gsx_drop (gex_call (gea_ev (ev_cons (ev_var rfl) ev_nil) (.inl ⟨_, ⟨n, rfl, hn n (List.mem_of_getElem? hn'), rfl⟩, _, .keep (.keep (.skip .nil)), rfl, rfl, hl⟩)))⟩
      · have : i = ns.length := by omega
        subst this
        rw [List.getElem?_append_right (by simp)] at hd
        simp at hd
        subst hd
        exact ⟨_, ga_name, gsx_drop (gex_call (gea_ev (ev_cons (ev_var rfl) ev_nil) (.inr ⟨_, _, _, ⟨_, rfl, ho, hb, rfl, rfl, rfl⟩, rfl, rfl, rfl⟩)))⟩
    · rintro ρ' μ' ⟨_, _, h⟩
      simp at h
      omega
def RxGiven (C0 CN CT : Addr) (ds : List D) (C : Addr) (f : Str) (d : D) : Prop := ∃ (nn : List Str) (ps : List (List Str)) (e t : D), ds = [SayD C0 nn ps, e, t] ∧ ((oddOk e ∧ nmB e = false ∧ C = CN ∧ f = "name" ∧ d = e) ∨ (∃ s, e = .str s ∧ nmOk s = true ∧ (∃ ty, tyD t = some ty ∧ ty ≠ "bool") ∧ C = CT ∧ f = "thing" ∧ d = t))
theorem ok_Say_givenX {f : Addr} {fd : FuncData} (F : Fun K "given" "Say.given" s_Say_given f fd) (T : Tx K mg C) (U_BadTruth : ErrF P w K mg base 1 CT "BadTruth" "thing") (x_check_name : CalX P w K mg base 3 "check_name" (spF RCheck (RxName CN))) (c_said_at : C8.Cal P w K mg base 3 "said_at" (spP (RSaid C)) []) (c_choices_of : C8.Cal P w K mg base 1 "choices_of" (spP RChoices) []) (c_set_to : C8.Cal P w K mg base 1 "set_to" (spP RSetTo) []) (c_Say_at : C8.Met P w K mg base 1 C "at" (spP (RAt C)) []) : FnOk P w K mg base (L2.CX P w) 4 f fd ["self", "name", "truth"] (spXF (RxGiven C CN CT)) := by
  refine raiseF_ok F sc_Say_given (fun ds C f d h => ?_) (fun cdv A outer s H E hr => ?_)
  · obtain ⟨nn, ps, e, t, rfl, _⟩ := h; rfl
  · refine ⟨_, (pss_cons (ps_expr (pe_cX x_check_name hr (by omega) passX rfl (pa_cons (pv 1) pa_nil))) (pss_cons (ps_if (pt_not (pt_val (pe_callB (k_isi (K := K) rfl) (by rfl) T.isinstance (by decide +kernel) (pa_cons (pv 2) (pa_cons (pe_bltn (v := .ty "bool") (by rfl) T.bool (by decide +kernel) rfl) pa_nil))))) (pss_one (ps_raise rfl takesX (pmk_F U_BadTruth hr (by omega) rfl (pa_cons (pv 2) pa_nil)))) pss_nil) (pss_one (ps_ret (C8.pe_c c_said_at hr (by omega) rfl (pa_cons (k_fld (K := K) rfl (pv 0) rfl) (pa_cons (pe_lc (own := [("row", 3)]) rfl sc_Say_given.nd (k_seq (K := K) rfl (C8.pe_c c_choices_of hr (by omega) rfl (pa_cons (k_fld (K := K) rfl (pv 0) rfl) pa_nil))) (blkOk_by (own := [("row", 3)]) (N := n_Say_given) (sc := defScope s_Say_given) (by decide +kernel)) (fun _ _ _ _ _ => (pg_name (i := 3) sc_Say_given.nd rfl (by first | exact Or.inl rfl | exact Or.inr rfl))) (fun _ _ _ _ _ => pts_one (pt_val (C8.pe_mt c_Say_at hr (by omega) (pv 0) (pa_cons (C8.pe_c c_set_to hr (by omega) rfl (pa_cons (pv 3) (pa_cons (pv 1) (pa_cons (pv 2) pa_nil)))) pa_nil)))) (fun _ _ _ _ _ => (pv 3))) pa_nil))))))), ?_⟩
    rintro ds C' f d ⟨nn, ps, e, t, rfl, ⟨ho, hb, rfl, rfl, rfl⟩ | ⟨s, rfl, hn, ⟨ty, ht, hne⟩, rfl, rfl, rfl⟩⟩
    · exact gsx_seq (gsx_drop (gex_call (gea_ev (ev_cons (ev_var rfl) ev_nil) (.inr ⟨_, _, _, ⟨_, rfl, ho, hb, rfl, rfl, rfl⟩, rfl, rfl, rfl⟩))))
    · have hk : PySem.W.kitOne K (.type ty) (.type "bool") = some false := by rw [isi_bl ht]; simp [hne]
      exact gsx_seq (gsx_drop (gex_call (gea_ev (ev_cons (ev_var rfl) ev_nil) (.inl ⟨_, ⟨s, rfl, hn, rfl⟩, gsx_seq (gsx_if (gt_ev (et_not (b := false) (et_B (ev_cb (ev_cons (ev_var rfl) (ev_cons ev_ty ev_nil)) (rl_isi ht hk)))) (gsx_raise (ge_ev (ev_var rfl) ⟨rfl, rfl, rfl⟩))))⟩))))
def RxSome (C0 CN : Addr) (ds : List D) (C : Addr) (f : Str) (d : D) : Prop := ∃ (nn : List Str) (ps : List (List Str)) (e : D), ds = [SayD C0 nn ps, e] ∧ oddOk e ∧ nmB e = false ∧ C = CN ∧ f = "name" ∧ d = e
theorem ok_Say_someX {f : Addr} {fd : FuncData} (F : Fun K "some" "Say.some" s_Say_some f fd) (T : Tx K mg C) (o_or : OBin P w K mg base 4 C .BitOr (spP (ROp C (· || ·)))) (x_Say_given : MetX P w K mg base 4 C "given" (spF (RGiven C) (RxGiven C CN CT))) : FnOk P w K mg base (L2.CX P w) 5 f fd ["self", "name"] (spXF (RxSome C CN)) := by
  refine raiseF_ok F sc_Say_some (fun ds C f d h => ?_) (fun cdv A outer s H E hr => ?_)
  · obtain ⟨nn, ps, e, rfl, _⟩ := h; rfl
  · refine ⟨_, (pss_one (ps_ret (pe_op (k_bin o_or hr (by omega)) (pe_mtX x_Say_given hr (by omega) passX (pv 0) (pa_cons (pv 1) (pa_cons pe_bl pa_nil))) (pe_mtX x_Say_given hr (by omega) passX (pv 0) (pa_cons (pv 1) (pa_cons pe_bl pa_nil)))))), ?_⟩
    rintro ds C' f d ⟨nn, ps, e, rfl, ho, hb, rfl, rfl, rfl⟩
    exact gsx_ret (gex_op (gex_meth (ev_var rfl) rfl (gea_ev (ev_cons (ev_var rfl) (ev_cons ev_bl ev_nil)) (.inr ⟨_, _, _, ⟨nn, ps, _, _, rfl, .inl ⟨ho, hb, rfl, rfl, rfl⟩⟩, rfl, rfl, rfl⟩))))
theorem ok_Say_everyX {f : Addr} {fd : FuncData} (F : Fun K "every" "Say.every" s_Say_every f fd) (T : Tx K mg C) (o_and : OBin P w K mg base 4 C .BitAnd (spP (ROp C (· && ·)))) (x_Say_given : MetX P w K mg base 4 C "given" (spF (RGiven C) (RxGiven C CN CT))) : FnOk P w K mg base (L2.CX P w) 5 f fd ["self", "name"] (spXF (RxSome C CN)) := by
  refine raiseF_ok F sc_Say_every (fun ds C f d h => ?_) (fun cdv A outer s H E hr => ?_)
  · obtain ⟨nn, ps, e, rfl, _⟩ := h; rfl
  · refine ⟨_, (pss_one (ps_ret (pe_op (k_bin o_and hr (by omega)) (pe_mtX x_Say_given hr (by omega) passX (pv 0) (pa_cons (pv 1) (pa_cons pe_bl pa_nil))) (pe_mtX x_Say_given hr (by omega) passX (pv 0) (pa_cons (pv 1) (pa_cons pe_bl pa_nil)))))), ?_⟩
    rintro ds C' f d ⟨nn, ps, e, rfl, ho, hb, rfl, rfl, rfl⟩
    exact gsx_ret (gex_op (gex_meth (ev_var rfl) rfl (gea_ev (ev_cons (ev_var rfl) (ev_cons ev_bl ev_nil)) (.inr ⟨_, _, _, ⟨nn, ps, _, _, rfl, .inl ⟨ho, hb, rfl, rfl, rfl⟩⟩, rfl, rfl, rfl⟩))))
/-! Say.of_terms -/
def RxTerms (CE : Addr) (ds : List D) (C : Addr) (f : Str) (d : D) : Prop := ∃ x, ds = [x] ∧ C = CE ∧ f = "index" ∧ (((tyD x).isSome = true ∧ sqOf x = none ∧ d = .int 0) ∨
  ∃ (gs : List (D × Tm)) (e : D) (rest : List D), sqOf x = some (gs.map Prod.fst ++ e :: rest) ∧ gs.length ≤ 100 ∧ (∀ p ∈ gs, isTm p.1 p.2.1 p.2.2 ∧ TmOk p.2) ∧ oddT e ∧ (∀ xs, sqOf e = some xs → ∀ x ∈ xs, okS (nmsD x)) ∧ termB e = false ∧ d = .int gs.length)
theorem tm_odd {d : D} {t : Tm} (h : isTm d t.1 t.2) (ho : TmOk t) : oddT d ∧ (∀ xs, sqOf d = some xs → ∀ x ∈ xs, okS (nmsD x)) ∧ termB d = true := by
  obtain ⟨a, b, ha, hb, hd⟩ := h
  have sq : ∀ {a : D} {ns : List Str}, isSq a ns → ns.length ≤ 20 → (∀ n ∈ ns, nmOk n = true) → sqOf a = some (ns.map D.str) ∧ nmsD a = ns ∧ oddL a := by
    intro a ns h hl hn
    have ho : ∀ x ∈ ns.map D.str, oddOk x := fun x hx => by
      obtain ⟨n, h1, rfl⟩ := List.mem_map.mp hx
      exact ⟨rfl, fun s e => by cases e; have := nmOk_len (hn n h1); omega⟩
    have e1 : (ns.map D.str).map strD = ns := by
      rw [List.map_map]
      conv => rhs; rw [← List.map_id ns]
      rfl
    rcases h with rfl | rfl
    · exact ⟨rfl, e1, ⟨rfl, fun s e => by cases e⟩, fun xs e => by cases e; exact ⟨by simpa using hl, ho⟩⟩
    · exact ⟨rfl, e1, ⟨rfl, fun s e => by cases e⟩, fun xs e => by cases e; exact ⟨by simpa using hl, ho⟩⟩
  obtain ⟨sa, na, oa⟩ := sq ha ho.ly ho.oy
  obtain ⟨sb, nb, ob⟩ := sq hb ho.ln ho.on
  have hs : sqOf d = some [a, b] := by rcases hd with rfl | rfl <;> rfl
  have un : ∀ {a : D} {ns : List Str}, sqOf a = some (ns.map D.str) → nmsD a = ns → ns.Nodup → (∀ n ∈ ns, nmOk n = true) → unlB a = true := by
    intro a ns h1 h2 h3 h4
    have e1 : (ns.map D.str).map strD = ns := by unfold nmsD at h2; rw [h1] at h2; exact h2
    unfold unlB
    rw [h1]
    simp only [Bool.and_eq_true, decide_eq_true_eq]
    refine ⟨?_, by rw [e1]; exact h3⟩
    rw [List.all_eq_true]
    intro x hx
    obtain ⟨n, hn, rfl⟩ := List.mem_map.mp hx
    exact h4 n hn
  refine ⟨⟨⟨?_, ?_⟩, ?_⟩, ?_, ?_⟩
  · rcases hd with rfl | rfl <;> rfl
  · intro s e; rcases hd with rfl | rfl <;> cases e
  · intro xs e
    rw [hs] at e; cases e
    refine ⟨by simp, fun x hx => ?_⟩
    rcases List.mem_cons.mp hx with rfl | hx
    · exact oa
    · rcases List.mem_cons.mp hx with rfl | hx
      · exact ob
      · cases hx
  · intro xs e x hx
    rw [hs] at e; cases e
    rcases List.mem_cons.mp hx with rfl | hx
    · rw [na]; exact ho.sy
    · rcases List.mem_cons.mp hx with rfl | hx
      · rw [nb]; exact ho.sn
      · cases hx
  · unfold termB
    rw [hs]
    simp only [un sa na ho.ny ho.oy, un sb nb ho.nn ho.on, na, nb, Bool.true_and]
    rw [List.all_eq_true]
    intro x hx
    simpa using ho.dis x hx
theorem ok_Say_of_termsX {f : Addr} {fd : FuncData} (F : Fun K "of_terms" "Say.of_terms" s_Say_of_terms f fd) (T : Tx K mg C) (U_BadTerm : ErrF P w K mg base 1 CE "BadTerm" "index") (c_is_list : C8.Cal P w K mg base 1 "is_list" (spP RIsListG) []) (c_is_term : C8.Cal P w K mg base 3 "is_term" (spP RIsTermG) []) (c_said_at : C8.Cal P w K mg base 3 "said_at" (spP (RSaidG C)) []) (c_choices_over : C8.Cal P w K mg base 2 "choices_over" (spP ROverG) []) (c_is_true_at : C8.Cal P w K mg base 1 "is_true_at" (spP RTrueAt) []) : FnOk P w K mg base (L2.CX P w) 4 f fd ["terms"] (spXF (RxTerms CE)) := by
  refine raiseF_ok F sc_Say_of_terms (fun ds C f d h => ?_) (fun cdv A outer s H E hr => ?_)
  · obtain ⟨e, rfl, _⟩ := h; rfl
  · refine ⟨_, (pss_cons (ps_if (pt_not (pt_val (C8.pe_c c_is_list hr (by omega) rfl (pa_cons (pv 0) pa_nil)))) (pss_one (ps_raise rfl takesX (pmk_F U_BadTerm hr (by omega) rfl (pa_cons pe_int pa_nil)))) pss_nil) (pss_cons (ps_set (i := 1) sc_Say_of_terms.nd rfl (by first | exact Or.inl rfl | exact Or.inr rfl) (pe_lst pa_nil)) (pss_cons (ps_for (passes_of rfl) rfl (pi_enumA (K := K) rfl (by rfl) T.enumerate (pa_cons (pv 0) pa_nil)) (k_pgt (K := K) (n := 2) rfl rfl (pgs_cons (pg_name (i := 2) sc_Say_of_terms.nd rfl (by first | exact Or.inl rfl | exact Or.inr rfl)) (pgs_cons (pg_name (i := 3) sc_Say_of_terms.nd rfl (by first | exact Or.inl rfl | exact Or.inr rfl)) pgs_nil))) (pss_cons (ps_if (pt_not (pt_val (C8.pe_c c_is_term hr (by omega) rfl (pa_cons (pv 3) pa_nil)))) (pss_one (ps_raise rfl takesX (pmk_F U_BadTerm hr (by omega) rfl (pa_cons (pv 2) pa_nil)))) pss_nil) (pss_one (ps_expr (k_bm (K := K) rfl PySem.F.plainAttrs_list PySem.F.slot_list_extend PySem.F.type_list_extend mt_extend (pv 1) (pa_cons (pe_lst (k_star (K := K) rfl (pe_ix (k_ix (K := K) rfl) (pv 3) pe_int (fun _ _ => rfl)) (k_star (K := K) rfl (pe_ix (k_ix (K := K) rfl) (pv 3) pe_int (fun _ _ => rfl)) pa_nil))) pa_nil)))))) (pss_one (ps_ret (C8.pe_c c_said_at hr (by omega) rfl (pa_cons (pv 1) (pa_cons (pe_lc (own := [("row", 4)]) rfl sc_Say_of_terms.nd (k_seq (K := K) rfl (C8.pe_c c_choices_over hr (by omega) rfl (pa_cons (pv 1) pa_nil))) (blkOk_by (own := [("row", 4)]) (N := n_Say_of_terms) (sc := defScope s_Say_of_terms) (by decide +kernel)) (fun _ _ _ _ _ => (pg_name (i := 4) sc_Say_of_terms.nd rfl (by first | exact Or.inl rfl | exact Or.inr rfl))) (fun _ _ _ _ _ => pts_one (pt_val (pe_callB (k_any (K := K) rfl rfl) (by rfl) T.any (by decide +kernel) (pa_cons (pe_lc (own := [("term", 5)]) rfl sc_Say_of_terms.nd (k_seq (K := K) rfl (pv 0)) (blkIn (own := [("term", 5)]) (N := n_Say_of_terms) (sc0 := defScope s_Say_of_terms) rfl (by decide +kernel)) (fun _ _ _ _ _ => (pg_name (i := 5) sc_Say_of_terms.nd rfl (by first | exact Or.inl rfl | exact Or.inr rfl))) (fun _ _ _ _ _ => pts_nil) (fun _ _ _ _ _ => (C8.pe_c c_is_true_at hr (by omega) rfl (pa_cons (pv 5) (pa_cons (pv 4) pa_nil))))) pa_nil)))) (fun _ _ _ _ _ => (pv 4))) pa_nil)))))))), ?_⟩
    rintro ds C' f d ⟨x, rfl, rfl, rfl, ⟨ht, hs, rfl⟩ | ⟨gs, e, rest, hs, hl, hg, ho, hk, hb, rfl⟩⟩
    · exact gsx_seq (gsx_if (gt_ev (et_not (b := false) (et_B (ev_call (ev_cons (ev_var rfl) ev_nil) ⟨x, rfl, ht, by rw [hs]; rfl⟩))) (gsx_raise (ge_ev ev_int ⟨rfl, rfl, rfl⟩))))
    · have ht : (tyD x).isSome = true := by rcases sqOf_is hs with rfl | rfl <;> rfl
      have hE : ∀ {ρ : Rho}, ρ[0]? = some (some x) → EvI (iEnumA K (tCons (tVar 0) tNil)) ρ ((gs.map Prod.fst ++ e :: rest).zipIdx.map fun p => Du.D.tup [.int p.2, p.1]) := fun h0 => by
        rcases sqOf_is hs with rfl | rfl
        · exact ei_enumL (ev_cons (ev_var h0) ev_nil)
        · exact ei_enumT (ev_cons (ev_var h0) ev_nil)
      have nl : ∀ i, (nmsOf (gs.take i)).length ≤ 40 * i := fun i => by
        induction i with
        | zero => simp [nmsOf]
        | succ i ih =>
          by_cases hi : i < gs.length
          · obtain ⟨p, hp⟩ : ∃ p, gs[i]? = some p := ⟨_, List.getElem?_eq_getElem hi⟩
            rw [nms_take hp, List.length_append, List.length_append]
            have h1 := (hg p (List.mem_of_getElem? hp)).2.ly
            have h2 := (hg p (List.mem_of_getElem? hp)).2.ln
            omega
          · rw [List.take_of_length_le (by omega)] at ih ⊢; omega
      refine gsx_seq (gsx_if (gt_ev (et_not (b := true) (et_B (ev_call (ev_cons (ev_var rfl) ev_nil) ⟨x, rfl, ht, by rw [hs]; rfl⟩))) (gsx_gs (gs_next (gsx_own (gea_nil ⟨by decide, fun a _ => ?_⟩))))))
      refine gsx_seq (gsx_for (fun i ρ' μ' => ρ' = [some x, some (.ptr a), none, none, none, none] ∧ μ' = [(a, lS (nmsOf (gs.take i)))] ∧ i ≤ gs.length) (hE rfl) (Lq.rf _) ⟨rfl, rfl, Nat.zero_le _⟩ ?_ ?_)
      · rintro i d ρi μi hd ⟨rfl, rfl, hi⟩
        rw [List.getElem?_map] at hd
        obtain ⟨q, hq, rfl⟩ := Option.map_eq_some_iff.mp hd
        rw [List.getElem?_zipIdx] at hq
        obtain ⟨q1, hq1, rfl⟩ := Option.map_eq_some_iff.mp hq
        by_cases hlt : i < gs.length
        · rw [List.getElem?_append_left (by simpa using hlt), List.getElem?_map] at hq1
          obtain ⟨p, hpi, rfl⟩ := Option.map_eq_some_iff.mp hq1
          obtain ⟨htm, hto⟩ := hg p (List.mem_of_getElem? hpi)
          obtain ⟨o1, o2, o3⟩ := tm_odd htm hto
          obtain ⟨x', y, hx, hy, hxy⟩ := htm
          have v : ∀ {te : TE} {ρ : Rho}, Ev te ρ p.1 → Ev (tOp (rIx K) te (tC (.int 0))) ρ x' ∧ Ev (tOp (rIx K) te (tC (.int 1))) ρ y := fun h => ev_sq2 hxy h
          have hnt := nms_take hpi
          have h1 := nl i
          have h2 := hto.ly
          have h3 := hto.ln
          refine ⟨_, ga_tup (gas_cons ga_name (gas_cons ga_name gas_nil)) rfl, gsx_seq (gsx_if (gt_ev (et_not (b := true) (et_B (ev_call (ev_cons (ev_var rfl) ev_nil) ⟨p.1, rfl, o1, o2, by rw [o3]⟩))) (gsx_gs (gs_next (gsx_gs (gs_drop (ge_extend (ge_ev (ev_var rfl) ⟨a, 0, _, rfl, rfl, gea_ev (ev_cons (ev_lst (ev_starSq hx (v (ev_var rfl)).1 (ev_starSq hy (v (ev_var rfl)).2 ev_nil)) (by simp; omega)) ev_nil) ⟨_, _, rfl, rfl, ?_, _, .keep (.keep (.skip (.skip (.skip (.skip .nil))))), rfl, ?_, hlt⟩⟩))))))))⟩
          · simp; omega
          · rw [hnt]; simp [lS]
        · have : i = gs.length := by omega
          subst this
          rw [List.getElem?_append_right (by simp)] at hq1
          simp at hq1
          subst hq1
          refine ⟨_, ga_tup (gas_cons ga_name (gas_cons ga_name gas_nil)) rfl, gsx_seq (gsx_if (gt_ev (et_not (b := false) (et_B (ev_call (ev_cons (ev_var rfl) ev_nil) ⟨_, rfl, ho, hk, by rw [hb]⟩))) (gsx_raise (ge_ev (ev_var rfl) ⟨[], .inr ⟨_, rfl⟩, rfl, rfl, ?_⟩))))⟩
          simp
      · rintro ρ' μ' ⟨_, _, h⟩
        simp at h
        omega
end
end Du
namespace Du
open PySem L2
/-- what is asked to be the same: {} too -/
inductive SmD : Nat → D → Prop
  | non {n : Nat} : SmD (n + 1) .non
  | bl {n : Nat} (b : Bool) : SmD (n + 1) (.bl b)
  | int {n : Nat} (i : Int) : SmD (n + 1) (.int i)
  | str {n : Nat} {s : Str} : PyData.strOk s = true → SmD (n + 1) (.str s)
  | lst {n : Nat} {ds : List D} : ds.length ≤ 100000 → (∀ d ∈ ds, SmD n d) → SmD (n + 1) (.lst ds)
  | tup {n : Nat} {ds : List D} : ds.length ≤ 100000 → (∀ d ∈ ds, SmD n d) → SmD (n + 1) (.tup ds)
  | dic {n : Nat} : SmD (n + 1) (.dK [])
section
variable {P : Program} {w : World} {K : PySem.W.Frag} {mg : Str → Option Value} {base : Heap} {C : Addr} {ρ : Rho}
def RSameD (n : Nat) (ds : List D) (d : D) : Prop := ∃ e, ds = [e, e] ∧ SmD n e ∧ d = .bl true
theorem ok_law_sameD {f : Addr} {fd : FuncData} (n : Nat) (F : Fun K "_law_same" "_law_same" s_law_same f fd) (T : Bn mg) (c_law_same : C8.Cal P w K mg base (n + 1) "_law_same" (spP (RSameD n)) []) : FnOk P w K mg base CX0 (n + 2) f fd ["_law_found", "_law_due"] (spP (RSameD (n + 1))) := by
  refine pure_ok F sc_law_same (fun ds d h => ?_) (fun cdv A outer s H E hr => ?_)
  · obtain ⟨e, rfl, _⟩ := h; rfl
  · refine ⟨_, (pss_cons (ps_if (pt_val (pe_callB (k_isiT (K := K) rfl) (by rfl) T.isinstance (by decide +kernel) (pa_cons (pv 1) (pa_cons (pe_tup (pa_cons (pe_bltn (v := .ty "list") (by rfl) T.list (by decide +kernel) rfl) (pa_cons (pe_bltn (v := .ty "tuple") (by rfl) T.tuple (by decide +kernel) rfl) pa_nil))) pa_nil)))) (pss_cons (ps_if (PW.pt (pw_or (pt_cmpR (k_ne (K := K) rfl hr) (pe_callB (k_isi (K := K) rfl) (by rfl) T.isinstance (by decide +kernel) (pa_cons (pv 0) (pa_cons (pe_bltn (v := .ty "list") (by rfl) T.list (by decide +kernel) rfl) pa_nil))) (pe_callB (k_isi (K := K) rfl) (by rfl) T.isinstance (by decide +kernel) (pa_cons (pv 1) (pa_cons (pe_bltn (v := .ty "list") (by rfl) T.list (by decide +kernel) rfl) pa_nil))) (nomark _)) (pw_or1 (pt_cmpR (k_ne (K := K) rfl hr) (pe_callB (k_isi (K := K) rfl) (by rfl) T.isinstance (by decide +kernel) (pa_cons (pv 0) (pa_cons (pe_bltn (v := .ty "tuple") (by rfl) T.tuple (by decide +kernel) rfl) pa_nil))) (pe_callB (k_isi (K := K) rfl) (by rfl) T.isinstance (by decide +kernel) (pa_cons (pv 1) (pa_cons (pe_bltn (v := .ty "tuple") (by rfl) T.tuple (by decide +kernel) rfl) pa_nil))) (nomark _))))) (pss_one (ps_ret pe_bl)) pss_nil) (pss_one (ps_ret (pe_and (pe_cmpR (k_eq (K := K) rfl hr) (pe_callB (k_len (K := K) rfl) (by rfl) T.len (by decide +kernel) (pa_cons (pv 0) pa_nil)) (pe_callB (k_len (K := K) rfl) (by rfl) T.len (by decide +kernel) (pa_cons (pv 1) pa_nil)) (nomark _)) (pe_one (pe_callB (k_all (K := K) rfl rfl) (by rfl) T.all (by decide +kernel) (pa_cons (pe_lc (own := [("_law_x", 2), ("_law_y", 3)]) rfl sc_law_same.nd (k_zip (K := K) rfl (by rfl) T.zip (pa_cons (pv 0) (pa_cons (pv 1) pa_nil))) (blkOk_by (own := [("_law_x", 2), ("_law_y", 3)]) (N := n_law_same) (sc := defScope s_law_same) (by decide +kernel)) (fun _ _ _ _ _ => (k_pgt (K := K) (n := 2) rfl rfl (pgs_cons (pg_name (i := 2) sc_law_same.nd rfl (by first | exact Or.inl rfl | exact Or.inr rfl)) (pgs_cons (pg_name (i := 3) sc_law_same.nd rfl (by first | exact Or.inl rfl | exact Or.inr rfl)) pgs_nil)))) (fun _ _ _ _ _ => pts_nil) (fun _ _ _ _ _ => (C8.pe_c c_law_same hr (by omega) rfl (pa_cons (pv 2) (pa_cons (pv 3) pa_nil))))) pa_nil))))))) pss_nil) (pss_cons (ps_if (pt_val (pe_callB (k_isi (K := K) rfl) (by rfl) T.isinstance (by decide +kernel) (pa_cons (pv 1) (pa_cons (pe_bltn (v := .ty "int") (by rfl) T.int (by decide +kernel) rfl) pa_nil)))) (pss_one (ps_ret (pe_and (pe_callB (k_isi (K := K) rfl) (by rfl) T.isinstance (by decide +kernel) (pa_cons (pv 0) (pa_cons (pe_bltn (v := .ty "int") (by rfl) T.int (by decide +kernel) rfl) pa_nil))) (pe_and (pe_cmpR (k_eq (K := K) rfl hr) (pe_callB (k_isi (K := K) rfl) (by rfl) T.isinstance (by decide +kernel) (pa_cons (pv 0) (pa_cons (pe_bltn (v := .ty "bool") (by rfl) T.bool (by decide +kernel) rfl) pa_nil))) (pe_callB (k_isi (K := K) rfl) (by rfl) T.isinstance (by decide +kernel) (pa_cons (pv 1) (pa_cons (pe_bltn (v := .ty "bool") (by rfl) T.bool (by decide +kernel) rfl) pa_nil))) (nomark _)) (pe_one (pe_cmpR (k_eq (K := K) rfl hr) (pv 0) (pv 1) (nomark _))))))) pss_nil) (pss_one (ps_ret (pe_and (pe_cmpR op_isBl (pe_callB (k_isiT (K := K) rfl) (by rfl) T.isinstance (by decide +kernel) (pa_cons (pv 0) (pa_cons (pe_tup (pa_cons (pe_bltn (v := .ty "int") (by rfl) T.int (by decide +kernel) rfl) (pa_cons (pe_bltn (v := .ty "list") (by rfl) T.list (by decide +kernel) rfl) (pa_cons (pe_bltn (v := .ty "tuple") (by rfl) T.tuple (by decide +kernel) rfl) pa_nil)))) pa_nil))) pe_bl (nomark _)) (pe_one (pe_cmpR (k_eqDK (K := K) rfl hr) (pv 0) (pv 1) (nomark _)))))))), ?_⟩
    intro ds d h
    obtain ⟨e, rfl, ho, rfl⟩ := h
    refine .inl ?_
    have i1 : ∀ {t : String} {b : Bool}, tyD e = some t → PySem.W.kitAny K (.type t) ([ "list", "tuple" ].map Value.type) = some b → EvT _ [some e, some e, none, none] b := fun ht hb => et_B (ev_cb (ev_cons (ev_var (i := 1) rfl) (ev_cons (ev_tup (ev_cons ev_ty (ev_cons ev_ty ev_nil)) (by simp)) ev_nil)) (rl_isiT (Ts := ["list", "tuple"]) ht hb))
    cases ho with
    | lst hl hd =>
      rename_i ds
      refine st_seqR (st_if (i1 (t := "list") (b := true) rfl rfl) (fun _ => st_seq (st_if (et_or (et_test (ev_op (ev_isi (ev_var rfl) rfl (by simp)) (ev_isi (ev_var rfl) rfl (by simp)) (rd_ne ok_bl ok_bl))) fun _ => et_test (ev_op (ev_isi (ev_var rfl) rfl (by simp)) (ev_isi (ev_var rfl) rfl (by simp)) (rd_ne ok_bl ok_bl))) (fun h => ?_) fun _ => st_next) (st_ret ?_)) fun h => by cases h)
      · rw [eqD_bl, eqD_bl] at h; simp at h
      · have e1 : Du.D.bl true = .bl (eqD (.int ds.length) (.int ds.length) && (((ds.zip ds).map fun _ => true).all id)) := by
          rw [eqD_int]; simp
        rw [e1]
        refine ev_andV (ev_op (ev_cb (ev_cons (ev_var rfl) ev_nil) rl_lenL) (ev_cb (ev_cons (ev_var rfl) ev_nil) rl_lenL) (rd_eq ok_int ok_int)) fun _ => ev_cb (ev_cons (d := .lst (((ds.zip ds).map fun _ => true).map Du.D.bl)) ?_ ev_nil) rl_all
        rw [List.map_map]
        refine ev_lc1 (φ := fun p : Du.D × Du.D => Du.D.tup [p.1, p.2]) (ei_zip (ev_cons (ev_var rfl) (ev_cons (ev_var rfl) ev_nil))) (by simp; omega) fun p hp => ⟨_, gw_tup (gws_cons (gw_name (by simp)) (gws_cons (gw_name (by simp)) gws_nil)) rfl, ev_call (ev_cons (ev_var rfl) (ev_cons (ev_var rfl) ev_nil)) ⟨p.1, ?_, hd p.1 (List.of_mem_zip hp).1, rfl⟩⟩
        have : p.2 = p.1 := by
          have : ∀ (l : List Du.D) (p : Du.D × Du.D), p ∈ l.zip l → p.2 = p.1 := by
            intro l
            induction l with
            | nil => intro p h; simp at h
            | cons x l ih =>
              intro p h
              rcases List.mem_cons.mp h with rfl | h
              · rfl
              · exact ih p h
          exact this ds p hp
        rw [this]
    | tup hl hd =>
      rename_i ds
      refine st_seqR (st_if (i1 (t := "tuple") (b := true) rfl rfl) (fun _ => st_seq (st_if (et_or (et_test (ev_op (ev_isi (ev_var rfl) rfl (by simp)) (ev_isi (ev_var rfl) rfl (by simp)) (rd_ne ok_bl ok_bl))) fun _ => et_test (ev_op (ev_isi (ev_var rfl) rfl (by simp)) (ev_isi (ev_var rfl) rfl (by simp)) (rd_ne ok_bl ok_bl))) (fun h => ?_) fun _ => st_next) (st_ret ?_)) fun h => by cases h)
      · rw [eqD_bl, eqD_bl] at h; simp at h
      · have e1 : Du.D.bl true = .bl (eqD (.int ds.length) (.int ds.length) && (((ds.zip ds).map fun _ => true).all id)) := by
          rw [eqD_int]; simp
        rw [e1]
        refine ev_andV (ev_op (ev_cb (ev_cons (ev_var rfl) ev_nil) rl_lenT) (ev_cb (ev_cons (ev_var rfl) ev_nil) rl_lenT) (rd_eq ok_int ok_int)) fun _ => ev_cb (ev_cons (d := .lst (((ds.zip ds).map fun _ => true).map Du.D.bl)) ?_ ev_nil) rl_all
        rw [List.map_map]
        refine ev_lc1 (φ := fun p : Du.D × Du.D => Du.D.tup [p.1, p.2]) (ei_zipT (ev_cons (ev_var rfl) (ev_cons (ev_var rfl) ev_nil))) (by simp; omega) fun p hp => ⟨_, gw_tup (gws_cons (gw_name (by simp)) (gws_cons (gw_name (by simp)) gws_nil)) rfl, ev_call (ev_cons (ev_var rfl) (ev_cons (ev_var rfl) ev_nil)) ⟨p.1, ?_, hd p.1 (List.of_mem_zip hp).1, rfl⟩⟩
        have : p.2 = p.1 := by
          have : ∀ (l : List Du.D) (p : Du.D × Du.D), p ∈ l.zip l → p.2 = p.1 := by
            intro l
            induction l with
            | nil => intro p h; simp at h
            | cons x l ih =>
              intro p h
              rcases List.mem_cons.mp h with rfl | h
              · rfl
              · exact ih p h
          exact this ds p hp
        rw [this]
    | bl b =>
      refine st_seq (st_if (i1 (t := "bool") (b := false) rfl rfl) (fun h => by cases h) fun _ => st_next) (st_seqR (st_if (et_B (ev_isi (ev_var rfl) rfl (by simp))) (fun _ => st_ret ?_) fun h => by simp at h))
      have e1 : Du.D.bl true = .bl ((decide ("bool" = "int") || (decide ("bool" = "bool") && decide ("int" = "int"))) && (eqD (.bl (decide ("bool" = "bool") || (decide ("bool" = "bool") && decide ("bool" = "int")))) (.bl (decide ("bool" = "bool") || (decide ("bool" = "bool") && decide ("bool" = "int")))) && eqD (.bl b) (.bl b))) := by
        rw [eqD_bl, eqD_bl]; simp
      rw [e1]
      exact ev_andV (ev_isi (ev_var rfl) rfl (by simp)) fun _ => ev_andV (ev_op (ev_isi (ev_var rfl) rfl (by simp)) (ev_isi (ev_var rfl) rfl (by simp)) (rd_eq ok_bl ok_bl)) fun _ => ev_op (ev_var rfl) (ev_var rfl) (rd_eq ok_bl ok_bl)
    | int i =>
      refine st_seq (st_if (i1 (t := "int") (b := false) rfl rfl) (fun h => by cases h) fun _ => st_next) (st_seqR (st_if (et_B (ev_isi (ev_var rfl) rfl (by simp))) (fun _ => st_ret ?_) fun h => by simp at h))
      have e1 : Du.D.bl true = .bl ((decide ("int" = "int") || (decide ("int" = "bool") && decide ("int" = "int"))) && (eqD (.bl (decide ("int" = "bool") || (decide ("int" = "bool") && decide ("bool" = "int")))) (.bl (decide ("int" = "bool") || (decide ("int" = "bool") && decide ("bool" = "int")))) && eqD (.int i) (.int i))) := by
        rw [eqD_bl, eqD_int]; simp
      rw [e1]
      exact ev_andV (ev_isi (ev_var rfl) rfl (by simp)) fun _ => ev_andV (ev_op (ev_isi (ev_var rfl) rfl (by simp)) (ev_isi (ev_var rfl) rfl (by simp)) (rd_eq ok_bl ok_bl)) fun _ => ev_op (ev_var rfl) (ev_var rfl) (rd_eq ok_int ok_int)
    | non =>
      refine st_seq (st_if (i1 (t := "NoneType") (b := false) rfl rfl) (fun h => by cases h) fun _ => st_next) (st_seq (st_if (et_B (ev_isi (ev_var rfl) rfl (by simp))) (fun h => by simp at h) fun _ => st_next) (st_ret ?_))
      have e1 : Du.D.bl true = .bl (decide (false = false) && eqD .non .non) := by
        simp [eqD, toP, PyData.eqv]
      rw [e1]
      exact ev_andV (ev_op (ev_cb (ev_cons (ev_var rfl) (ev_cons (ev_tup (ev_cons ev_ty (ev_cons ev_ty (ev_cons ev_ty ev_nil))) (by simp)) ev_nil)) (rl_isiT (Ts := ["int", "list", "tuple"]) (t := "NoneType") rfl rfl)) ev_bl rd_isB) fun _ => ev_op (ev_var rfl) (ev_var rfl) (rd_orL (rd_eq ok_non ok_non))
    | str hs =>
      rename_i z
      refine st_seq (st_if (i1 (t := "str") (b := false) rfl rfl) (fun h => by cases h) fun _ => st_next) (st_seq (st_if (et_B (ev_isi (ev_var rfl) rfl (by simp))) (fun h => by simp at h) fun _ => st_next) (st_ret ?_))
      have e1 : Du.D.bl true = .bl (decide (false = false) && eqD (.str z) (.str z)) := by
        rw [eqD_str]; simp
      rw [e1]
      exact ev_andV (ev_op (ev_cb (ev_cons (ev_var rfl) (ev_cons (ev_tup (ev_cons ev_ty (ev_cons ev_ty (ev_cons ev_ty ev_nil))) (by simp)) ev_nil)) (rl_isiT (Ts := ["int", "list", "tuple"]) (t := "str") rfl rfl)) ev_bl rd_isB) fun _ => ev_op (ev_var rfl) (ev_var rfl) (rd_orL (rd_eq (ok_str hs) (ok_str hs)))
    | dic =>
      refine st_seq (st_if (i1 (t := "dict") (b := false) rfl rfl) (fun h => by cases h) fun _ => st_next) (st_seq (st_if (et_B (ev_isi (ev_var rfl) rfl (by simp))) (fun h => by simp at h) fun _ => st_next) (st_ret ?_))
      have e1 : Du.D.bl true = .bl (decide (false = false) && true) := by simp
      rw [e1]
      exact ev_andV (ev_op (ev_cb (ev_cons (ev_var rfl) (ev_cons (ev_tup (ev_cons ev_ty (ev_cons ev_ty (ev_cons ev_ty ev_nil))) (by simp)) ev_nil)) (rl_isiT (Ts := ["int", "list", "tuple"]) (t := "dict") rfl rfl)) ev_bl rd_isB) fun _ => ev_op (ev_var rfl) (ev_var rfl) (rd_orR rd_eqK0)
theorem all_law_sameD {f : Addr} {fd : FuncData} (F : Fun K "_law_same" "_law_same" s_law_same f fd) (hm : mg "_law_same" = some (.ref f)) (hb : Binds K fd ["_law_found", "_law_due"] []) (T : Bn mg) : ∀ n, C8.Cal P w K mg base (n + 1) "_law_same" (spP (RSameD n)) []
  | 0 => mkCal F hm hb (fn_none F sc_law_same fun vs H Q E h => by
      obtain ⟨Z, ds, d, _, _, ⟨e, _, h, _⟩, _⟩ := h
      cases h)
  | n + 1 => mkCal F hm hb (ok_law_sameD n F T (all_law_sameD F hm hb T n))
end
end Du
namespace Du
open PySem L2
/-! what is tried -/
abbrev lT (CN CT CE : Addr) : List (Addr × Str × Str) := [(CN, "name", "name"), (CT, "thing", "truth"), (CE, "index", "term")]
section
open LamX
abbrev s_law_tried : Stmt := top 28
abbrev n_law_tried : List Str := ["_law_ask", "e"]
theorem sc_law_tried : FnScope n_law_tried ["_law_ask"] (defScope s_law_tried) := ⟨rfl, rfl, rfl, by decide +kernel, rfl, by decide +kernel, by decide +kernel⟩

structure TrT (K : PySem.W.Frag) (mg : Str → Option Value) (fr : Addr) (fdr : FuncData) (CN CT CE : Addr) : Prop where
  F : Fun K "_law_tried" "_law_tried" s_law_tried fr fdr
  g : mg "_law_tried" = some (.ref fr)
  b : L2.Binds K fdr ["_law_ask"] []
  gN : mg "BadName" = some (.ref CN)
  gT : mg "BadTruth" = some (.ref CT)
  gE : mg "BadTerm" = some (.ref CE)
  xN : XfC K CN
  xT : XfC K CT
  xE : XfC K CE
  nN : PySem.W.findIn K (.ref CN) "name" = some none
  nT : PySem.W.findIn K (.ref CT) "thing" = some none
  nE : PySem.W.findIn K (.ref CE) "index" = some none
  eNN : PySem.W.exmOne K (.ref CN) (.ref CN) = some true
  eTN : PySem.W.exmOne K (.ref CT) (.ref CN) = some false
  eTT : PySem.W.exmOne K (.ref CT) (.ref CT) = some true
  eEN : PySem.W.exmOne K (.ref CE) (.ref CN) = some false
  eET : PySem.W.exmOne K (.ref CE) (.ref CT) = some false
  eEE : PySem.W.exmOne K (.ref CE) (.ref CE) = some true
theorem pe_tried {X : Cx} {k : Nat} {c Pt fr CN CT CE : Addr} {fdr : FuncData} {params : Arguments} {body : Expr} {scope : Scope} {t : XK → TE} {p lpos pos : Pos} (R : TrT X.K X.mg fr fdr CN CT CE) (TB : TabB X.base X.mg c Pt) (hcode : X.env.code = .ref c) (hr : Room (k + 2) X.A) (hg : Gl X "_law_tried") (L : LamS X.env.scope scope) (hdef : defaultsOf params X.env = ([], []))
    (hbind : ∀ (q : Str) (cl : List (Str × Addr)) (pm cv ctv : Value), bindArgs (PySem.W.kla_fn "<lambda>" q params body scope cl pm cv ctv) ⟨[], []⟩ = pure [])
    (hbody : ∀ (A : Around) (outer : List Env) (s : Shared) (H : Hp) (E : XK) (f c' : Addr), Room k (A.deeper (lamEnv X scope s.heap.objs.size f c')) → PE (lamCx X A outer s H E scope f c') body (t E)) :
    PE X (.Call (.Name "_law_tried" p) [.Lambda params body scope lpos] [] pos) (tLamA Pt (X.env.qual ++ "<lambda>") (TTr X.K (lT CN CT CE) "told" 0) t) := by
  obtain ⟨oc, od, kV, doc, pm, an, cdv, ct, osl, rfl, lk, hcd⟩ := R.F.ex
  refine pe_lamA (Ng := n_law_tried) hg R.g R.F.kp lk hcd R.b sc_law_tried rfl (.inl rfl) (tried_gives (n := "e") (i := 1) sc_law_tried.nd rfl rfl (fun f => rfl) (fun s H => ?_) fun s H => ?_) TB hcode hr L hdef hbind hbody
  · exact .cons ⟨rfl, rfl, .inl R.gN⟩ (fun a oe cls d pn hz hf => pss_one (ps_ret (pe_tup (pa_cons pe_str (pa_cons (pe_xf R.xN R.nN hz hf (pv 1)) pa_nil)))))
      (.cons ⟨rfl, rfl, .inl R.gT⟩ (fun a oe cls d pn hz hf => pss_one (ps_ret (pe_tup (pa_cons pe_str (pa_cons (pe_xf R.xT R.nT hz hf (pv 1)) pa_nil)))))
        (.cons ⟨rfl, rfl, .inl R.gE⟩ (fun a oe cls d pn hz hf => pss_one (ps_ret (pe_tup (pa_cons pe_str (pa_cons (pe_xf R.xE R.nE hz hf (pv 1)) pa_nil))))) .nil))
  · exact pss_one (ps_ret (pe_tup (pa_cons pe_str (pa_cons pe_int pa_nil))))
end
theorem sm_up : ∀ {n : Nat} {d : D}, SmD n d → SmD (n + 1) d
  | _, _, .non => .non
  | _, _, .bl b => .bl b
  | _, _, .int i => .int i
  | _, _, .str h => .str h
  | _, _, .lst h1 h2 => .lst h1 fun d hd => sm_up (h2 d hd)
  | _, _, .tup h1 h2 => .tup h1 fun d hd => sm_up (h2 d hd)
  | _, _, .dic => .dic
section
variable {P : Program} {w : World} {K : PySem.W.Frag} {mg : Str → Option Value} {base : Heap} {C CN CT CE fr : Addr} {fdr : FuncData} {ρ : Rho}
theorem TrT.hitN (R : TrT K mg fr fdr CN CT CE) : Hits K (lT CN CT CE) CN "name" "name" := .inl ⟨rfl, rfl, rfl, R.eNN⟩
theorem TrT.hitT (R : TrT K mg fr fdr CN CT CE) : Hits K (lT CN CT CE) CT "thing" "truth" := .inr ⟨R.eTN, .inl ⟨rfl, rfl, rfl, R.eTT⟩⟩
theorem TrT.hitE (R : TrT K mg fr fdr CN CT CE) : Hits K (lT CN CT CE) CE "index" "term" := .inr ⟨R.eEN, .inr ⟨R.eET, .inl ⟨rfl, rfl, rfl, R.eEE⟩⟩⟩
def SpT (P1 P2 : Addr) (q1 q2 : Str) (a c : Addr) (N : Nat) (μ : Mu) : Prop := ∃ μs, μ = [(P1, .str q1), (P2, .str q2)] ++ μs ∧ SpS a c N μs
theorem SpT.up {P1 P2 a c : Addr} {q1 q2 : Str} {N M : Nat} {μ : Mu} (h : SpT P1 P2 q1 q2 a c N μ) (hn : N ≤ M) : SpT P1 P2 q1 q2 a c M μ := by
  obtain ⟨μs, rfl, h⟩ := h; exact ⟨μs, rfl, h.up hn⟩
theorem SpT.fst {P1 P2 a c : Addr} {q1 q2 : Str} {N : Nat} {μ : Mu} (h : SpT P1 P2 q1 q2 a c N μ) : μ.map (·.1) = [P1, P2, a, c] := by
  obtain ⟨μs, rfl, h⟩ := h
  rw [List.map_append, h.fst]; rfl
theorem SpT.t1 {P1 P2 a c : Addr} {q1 q2 : Str} {N : Nat} {μ : Mu} (h : SpT P1 P2 q1 q2 a c N μ) : (P1, .str q1) ∈ μ := by
  obtain ⟨μs, rfl, h⟩ := h; simp
theorem SpT.t2 {P1 P2 a c : Addr} {q1 q2 : Str} {N : Nat} {μ : Mu} (h : SpT P1 P2 q1 q2 a c N μ) : (P2, .str q2) ∈ μ := by
  obtain ⟨μs, rfl, h⟩ := h; simp
/-- pick, draw beside tables and what else is owned -/
theorem ge_pickT {P1 P2 a c : Addr} {q1 q2 : Str} {N : Nat} {ν μ : Mu} {Φ : D → Mu → Prop} {ta : TA} {xs : List D} {E : XK} (hs : SpT P1 P2 q1 q2 a c N μ) (ha : EvA ta ρ [.ptr a, .lst xs]) (hN : N < 100000) (h0 : 0 < xs.length) (h1 : xs.length < 100000) (q : ∀ μ' d, SpT P1 P2 q1 q2 a c (N + 1) μ' → d ∈ xs → Φ d (ν ++ μ')) : GE (tCall (spM RPick) [] E ta) ρ (ν ++ μ) Φ := by
  obtain ⟨μs, rfl, hs⟩ := hs
  exact ge_callL (gea_ev ha ⟨ν ++ [(P1, .str q1), (P2, .str q2)], μs, by simp, a, c, N, xs, rfl, hs, hN, h0, h1, fun μ' d hs' hd => by show Φ d (ν ++ [(P1, Du.D.str q1), (P2, Du.D.str q2)] ++ μ'); rw [List.append_assoc]; exact q _ d ⟨μ', rfl, hs'⟩ hd⟩)
theorem ge_drawT {P1 P2 a c : Addr} {q1 q2 : Str} {N k : Nat} {ν μ : Mu} {Φ : D → Mu → Prop} {ta : TA} {E : XK} (hs : SpT P1 P2 q1 q2 a c N μ) (ha : EvA ta ρ [.ptr a, .int k]) (hN : N < 100000) (h0 : 0 < k) (h1 : k < 100000) (q : ∀ μ' d, SpT P1 P2 q1 q2 a c (N + 1) μ' → d < k → Φ (.int d) (ν ++ μ')) : GE (tCall (spM RDraw) [] E ta) ρ (ν ++ μ) Φ := by
  obtain ⟨μs, rfl, hs⟩ := hs
  exact ge_callL (gea_ev ha ⟨ν ++ [(P1, .str q1), (P2, .str q2)], μs, by simp, a, c, N, k, rfl, hs, hN, h0, h1, fun μ' d hs' hd => by show Φ (.int d) (ν ++ [(P1, Du.D.str q1), (P2, Du.D.str q2)] ++ μ'); rw [List.append_assoc]; exact q _ d ⟨μ', rfl, hs'⟩ hd⟩)
/-! odd names, odd truths -/
def oddNs : List D := [.non, .int 5, .str "", .str "A", .str "a b", .str "a1", .str "ninechars", .str "a_", .bl true, .tup [.str "a"], .lst [.str "a"], .dK []]
def oddTs : List D := [.non, .int 0, .int 1, .str "True", .lst [], .tup [.bl true], .dK []]
theorem sOk_a : PyData.strOk "a" = true := by decide +kernel
theorem oddN_ok {d : D} (h : d ∈ oddNs) : oddOk d ∧ nmB d = false ∧ SmD 3 d := by
  have st : ∀ s : Str, s.length ≤ 100000 → nmOk s = false → PyData.strOk s = true → oddOk (.str s) ∧ nmB (.str s) = false ∧ SmD 3 (.str s) := fun s h1 h2 h3 => ⟨⟨rfl, fun z e => by cases e; exact h1⟩, h2, .str h3⟩
  simp only [oddNs, List.mem_cons, List.not_mem_nil, or_false] at h
  rcases h with rfl | rfl | rfl | rfl | rfl | rfl | rfl | rfl | rfl | rfl | rfl | rfl
  · exact ⟨⟨rfl, fun s e => by cases e⟩, rfl, .non⟩
  · exact ⟨⟨rfl, fun s e => by cases e⟩, rfl, .int 5⟩
  · exact st _ (by decide +kernel) (by decide +kernel) (by decide +kernel)
  · exact st _ (by decide +kernel) (by decide +kernel) (by decide +kernel)
  · exact st _ (by decide +kernel) (by decide +kernel) (by decide +kernel)
  · exact st _ (by decide +kernel) (by decide +kernel) (by decide +kernel)
  · exact st _ (by decide +kernel) (by decide +kernel) (by decide +kernel)
  · exact st _ (by decide +kernel) (by decide +kernel) (by decide +kernel)
  · exact ⟨⟨rfl, fun s e => by cases e⟩, rfl, .bl true⟩
  · exact ⟨⟨rfl, fun s e => by cases e⟩, rfl, .tup (by simp) fun d hd => by rw [List.mem_singleton.mp hd]; exact .str sOk_a⟩
  · exact ⟨⟨rfl, fun s e => by cases e⟩, rfl, .lst (by simp) fun d hd => by rw [List.mem_singleton.mp hd]; exact .str sOk_a⟩
  · exact ⟨⟨rfl, fun s e => by cases e⟩, rfl, .dic⟩
theorem oddT_ok {d : D} (h : d ∈ oddTs) : (∃ ty, tyD d = some ty ∧ ty ≠ "bool") ∧ SmD 3 d := by
  simp only [oddTs, List.mem_cons, List.not_mem_nil, or_false] at h
  rcases h with rfl | rfl | rfl | rfl | rfl | rfl | rfl
  · exact ⟨⟨_, rfl, by decide⟩, .non⟩
  · exact ⟨⟨_, rfl, by decide⟩, .int 0⟩
  · exact ⟨⟨_, rfl, by decide⟩, .int 1⟩
  · exact ⟨⟨_, rfl, by decide⟩, .str (by decide +kernel)⟩
  · exact ⟨⟨_, rfl, by decide⟩, .lst (by simp) fun d hd => by cases hd⟩
  · exact ⟨⟨_, rfl, by decide⟩, .tup (by simp) fun d hd => by rw [List.mem_singleton.mp hd]; exact .bl true⟩
  · exact ⟨⟨_, rfl, by decide⟩, .dic⟩
abbrev s_law_names_right : Stmt := top 29
abbrev n_law_names_right : List Str := ["_law_spring_here", "_law_say", "_law_names_here", "_law_odd", "_law_thing", "_law_some", "_law_found", "_law_k"]
theorem sc_law_names_right : FnScope n_law_names_right ["_law_spring_here", "_law_say", "_law_names_here"] (defScope s_law_names_right) := ⟨rfl, rfl, rfl, by decide +kernel, rfl, by decide +kernel, by decide +kernel⟩

def qLam1 : Str := (PyProof.Rows.envOfC "_law_names_right" (defScope s_law_names_right) 0 0 .none).qual ++ "<lambda>"
abbrev s_law_terms_right : Stmt := top 30
abbrev n_law_terms_right : List Str := ["_law_spring_here", "_law_names_here", "_law_name", "_law_odd", "_law_good", "_law_at", "_law_bad", "_law_thing", "_law_found", "_law_one"]
theorem sc_law_terms_right : FnScope n_law_terms_right ["_law_spring_here", "_law_names_here"] (defScope s_law_terms_right) := ⟨rfl, rfl, rfl, by decide +kernel, rfl, by decide +kernel, by decide +kernel⟩

def qLam2 : Str := (PyProof.Rows.envOfC "_law_terms_right" (defScope s_law_terms_right) 0 0 .none).qual ++ "<lambda>"
def RNamesR (C P1 P2 : Addr) (ds : List D) (μ : Mu) (Φ : D → Mu → Prop) : Prop := ∃ (a c : Addr) (N : Nat) (nn : List Str) (ps : List (List Str)) (ns : List Str), ds = [.ptr a, SayD C nn ps, lS ns] ∧ 0 < ns.length ∧ ns.length ≤ 4 ∧ (∀ n ∈ ns, nmOk n = true) ∧ SpT P1 P2 qLam1 qLam2 a c N μ ∧ N + 20 < 90000 ∧ ∀ μ', SpT P1 P2 qLam1 qLam2 a c (N + 20) μ' → Φ (.bl true) μ'
theorem ok_law_names_right {f c P1 P2 : Addr} {fd : FuncData} (F : FunC K "_law_names_right" "_law_names_right" s_law_names_right f fd c) (T : Tx K mg C) (RT : TrT K mg fr fdr CN CT CE) (TBt : LamX.TabB base mg c P1)
    (sx_test : OSmX P w K mg base 4 C "test" (spF (RTest C) (RxName CN))) (x_Say_holds : MetX P w K mg base 4 C "holds" (spF (RHolds C) (RxHolds C CN))) (x_Say_given : MetX P w K mg base 4 C "given" (spF (RGiven C) (RxGiven C CN CT))) (x_Say_some : MetX P w K mg base 5 C "some" (spF (RSome C (· || ·)) (RxSome C CN))) (x_Say_every : MetX P w K mg base 5 C "every" (spF (RSome C (· && ·)) (RxSome C CN)))
    (c_law_draw : C8.Cal P w K mg base 1 "_law_draw" (spM RDraw) []) (c_law_pick : C8.Cal P w K mg base 2 "_law_pick" (spM RPick) []) (c_law_same : C8.Cal P w K mg base 6 "_law_same" (spP (RSameD 5)) []) : FnOk P w K mg base CX0 10 f fd ["_law_spring_here", "_law_say", "_law_names_here"] (spM (RNamesR C P1 P2)) := by
  refine eff_okC F sc_law_names_right (fun ds μ Φ h => ?_) (fun A outer s H E hr => ?_)
  · obtain ⟨a, c, N, nn, ps, ns, rfl, _⟩ := h; rfl
  · have hr7 : Room (5 + 2) _ := hr.mono (by omega)
    refine ⟨_, (pss_cons (ps_set (i := 3) sc_law_names_right.nd rfl (by first | exact Or.inl rfl | exact Or.inr rfl) (pe_lst (pa_cons pe_non (pa_cons pe_int (pa_cons pe_str (pa_cons pe_str (pa_cons pe_str (pa_cons pe_str (pa_cons pe_str (pa_cons pe_str (pa_cons pe_bl (pa_cons (pe_tup (pa_cons pe_str pa_nil)) (pa_cons (pe_lst (pa_cons pe_str pa_nil)) (pa_cons pe_dnewK pa_nil)))))))))))))) (pss_cons (ps_for PassesOwn.never rfl (k_seq (K := K) rfl (pe_lc (own := [("_law_k", 7)]) rfl sc_law_names_right.nd (pi_range1 (by rfl) T.range (pa_cons pe_int pa_nil)) (blkOk_by (own := [("_law_k", 7)]) (N := n_law_names_right) (sc := defScope s_law_names_right) (by decide +kernel)) (fun _ _ _ _ _ => (pg_name (i := 7) sc_law_names_right.nd rfl (by first | exact Or.inl rfl | exact Or.inr rfl))) (fun _ _ _ _ _ => pts_nil) (fun _ _ _ _ _ => (C8.pe_c c_law_pick hr (by omega) rfl (pa_cons (pv 0) (pa_cons (pv 3) pa_nil)))))) (pg_name (i := 4) sc_law_names_right.nd rfl (by first | exact Or.inl rfl | exact Or.inr rfl)) (pss_cons (ps_set (i := 5) sc_law_names_right.nd rfl (by first | exact Or.inl rfl | exact Or.inr rfl) (pe_op (k_addU (K := K) rfl) (pe_op (k_addU (K := K) rfl) (pv 2) (pe_lst (pa_cons (pv 4) pa_nil))) (pe_op op_mulU (pe_lst (pa_cons pe_non pa_nil)) (C8.pe_c c_law_draw hr (by omega) rfl (pa_cons (pv 0) (pa_cons pe_int pa_nil)))))) (pss_cons (ps_set (i := 6) sc_law_names_right.nd rfl (by first | exact Or.inl rfl | exact Or.inr rfl) (pe_lst (pa_cons (pe_tried RT TBt rfl hr7 rfl (LamX.lamS_by (sc := defScope s_law_names_right) (by decide +kernel)) rfl (fun _ _ _ _ _ => rfl) (fun A outer s H E f c' hr => (lam_sm sx_test hr (by omega) (pe_glob (v := .ref _) rfl T.g_Say rfl) (pa_cons (pv 4) pa_nil)))) pa_nil))) (pss_cons (ps_expr (k_bm (K := K) rfl PySem.F.plainAttrs_list PySem.F.slot_list_append PySem.F.type_list_append mt_append (pv 6) (pa_cons (pe_tried RT TBt rfl hr7 rfl (LamX.lamS_by (sc := defScope s_law_names_right) (by decide +kernel)) rfl (fun _ _ _ _ _ => rfl) (fun A outer s H E f c' hr => (lam_mt x_Say_holds hr (by omega) (pv 1) (pa_cons (C8.pe_c c_law_pick hr (by omega) rfl (pa_cons (pv 0) (pa_cons (pe_lst (pa_cons (pv 5) (pa_cons (k_tupleOf (K := K) rfl (by rfl) T.tuple (pv 5)) pa_nil))) pa_nil))) pa_nil)))) pa_nil))) (pss_cons (ps_expr (k_bm (K := K) rfl PySem.F.plainAttrs_list PySem.F.slot_list_append PySem.F.type_list_append mt_append (pv 6) (pa_cons (pe_tried RT TBt rfl hr7 rfl (LamX.lamS_by (sc := defScope s_law_names_right) (by decide +kernel)) rfl (fun _ _ _ _ _ => rfl) (fun A outer s H E f c' hr => (lam_mt x_Say_given hr (by omega) (pv 1) (pa_cons (pv 4) (pa_cons pe_int pa_nil))))) pa_nil))) (pss_cons (ps_expr (k_bm (K := K) rfl PySem.F.plainAttrs_list PySem.F.slot_list_append PySem.F.type_list_append mt_append (pv 6) (pa_cons (pe_tried RT TBt rfl hr7 rfl (LamX.lamS_by (sc := defScope s_law_names_right) (by decide +kernel)) rfl (fun _ _ _ _ _ => rfl) (fun A outer s H E f c' hr => (lam_mt x_Say_some hr (by omega) (pv 1) (pa_cons (pv 4) pa_nil)))) pa_nil))) (pss_cons (ps_expr (k_bm (K := K) rfl PySem.F.plainAttrs_list PySem.F.slot_list_append PySem.F.type_list_append mt_append (pv 6) (pa_cons (pe_tried RT TBt rfl hr7 rfl (LamX.lamS_by (sc := defScope s_law_names_right) (by decide +kernel)) rfl (fun _ _ _ _ _ => rfl) (fun A outer s H E f c' hr => (lam_mt x_Say_every hr (by omega) (pv 1) (pa_cons (pv 4) pa_nil)))) pa_nil))) (pss_one (ps_if (pt_not (pt_val (C8.pe_c c_law_same hr (by omega) rfl (pa_cons (pv 6) (pa_cons (pe_op op_mulU (pe_lst (pa_cons (pe_tup (pa_cons pe_str (pa_cons (pv 4) pa_nil))) pa_nil)) pe_int) pa_nil))))) (pss_one (ps_ret pe_bl)) pss_nil))))))))) (pss_cons (ps_for PassesOwn.never rfl (k_seq (K := K) rfl (pe_lst (pa_cons pe_non (pa_cons pe_int (pa_cons pe_int (pa_cons pe_str (pa_cons (pe_lst pa_nil) (pa_cons (pe_tup (pa_cons pe_bl pa_nil)) (pa_cons pe_dnewK pa_nil))))))))) (pg_name (i := 4) sc_law_names_right.nd rfl (by first | exact Or.inl rfl | exact Or.inr rfl)) (pss_one (ps_if (pt_not (pt_val (C8.pe_c c_law_same hr (by omega) rfl (pa_cons (pe_tried RT TBt rfl hr7 rfl (LamX.lamS_by (sc := defScope s_law_names_right) (by decide +kernel)) rfl (fun _ _ _ _ _ => rfl) (fun A outer s H E f c' hr => (lam_mt x_Say_given hr (by omega) (pv 1) (pa_cons (pe_ix (k_ix (K := K) rfl) (pv 2) pe_int (fun _ _ => rfl)) (pa_cons (pv 4) pa_nil))))) (pa_cons (pe_tup (pa_cons pe_str (pa_cons (pv 4) pa_nil))) pa_nil))))) (pss_one (ps_ret pe_bl)) pss_nil))) (pss_one (ps_ret pe_bl))))), ?_⟩
    intro ds μ Φ h
    obtain ⟨a, c, N, nn, ps, ns, rfl, h0, hl, hn, hs, hN, hΦ⟩ := h
    have hfst := hs.fst
    refine gs_seq (gs_st (st_asg (d := .lst oddNs) (ev_lst (ev_cons ev_non (ev_cons ev_int (ev_cons ev_str (ev_cons ev_str (ev_cons ev_str (ev_cons ev_str (ev_cons ev_str (ev_cons ev_str (ev_cons ev_bl (ev_cons (ev_tup (ev_cons ev_str ev_nil) (by simp)) (ev_cons (ev_lst (ev_cons ev_str ev_nil) (by simp)) (ev_cons ev_dK0 ev_nil)))))))))))) (by decide)) ga_name) ?_)
    refine gs_seq (gsE_for (ge_lc (fun k acc μ' => SpT P1 P2 qLam1 qLam2 a c (N + k) μ' ∧ acc.length = k ∧ ∀ x ∈ acc, x ∈ oddNs) (ei_range1 (n := 3) (ev_cons ev_int ev_nil) (by decide)) (by simp) ⟨hs, rfl, by simp⟩ ?_ ?_))
    · rintro k d acc μi hd ⟨hsi, hla, hmem⟩
      have hk : k < 3 := by have := (List.getElem?_eq_some_iff.mp hd).1; simpa using this
      refine ⟨_, true, gw_name (by simp), et_yes, fun _ => ?_, fun h => by cases h⟩
      refine ge_pickT (ν := []) hsi (xs := oddNs) (ev_cons (ev_var rfl) (ev_cons (ev_var rfl) ev_nil)) (by omega) (by decide) (by decide) fun μ' d hs' hd => ⟨hs', by simp [hla], fun x hx => ?_⟩
      rcases List.mem_append.mp hx with h | h
      · exact hmem x h
      · rw [List.mem_singleton.mp h]; exact hd
    · rintro acc μ1 ⟨hs1, hla, hmem⟩
      simp only [List.length_map, List.length_range] at hs1 hla
      refine ⟨acc, fun i ρ' μ' => ρ' = [some (.ptr a), some (SayD C nn ps), some (lS ns), some (.lst oddNs), none, none, none, none] ∧ SpT P1 P2 qLam1 qLam2 a c (N + 3 + 2 * i) μ', _, rfl, Lq.rf _, ⟨rfl, hs1.up (by omega)⟩, ?_, ?_⟩
      · rintro i d ρi μi hd ⟨rfl, hsi⟩
        have hi : i < 3 := by have := (List.getElem?_eq_some_iff.mp hd).1; omega
        obtain ⟨ho, hb, hsm⟩ := oddN_ok (hmem d (List.mem_of_getElem? hd))
        refine ⟨_, ga_name, ?_⟩
        have hN1 : Hits K (lT CN CT CE) CN "name" "name" := RT.hitN
        have evC : ∀ {ρ : Rho}, Ev (tC (.ref C)) ρ (.ptr C) := fun {ρ} _ _ H _ _ _ q => q _ H (Ex.rf H) (.ptr C)
        refine gs_seq (gs_asg (ge_op (ge_ev (ev_op (ev_var rfl) (ev_lst (ev_cons (ev_var rfl) ev_nil) (by simp)) (rd_addL (by simp; omega))) (ge_op (ge_ev (ev_lst (ev_cons ev_non ev_nil) (by simp)) (ge_drawT (ν := []) hsi (k := 2) (ev_cons (ev_var rfl) (ev_cons ev_int ev_nil)) (by omega) (by decide) (by decide) ?_))))))
        intro μ2 j hs2 hj
        refine ⟨_, rd_rep (n := j) (by omega) (by simp; omega), _, rd_addL (by simp; omega), ?_⟩
        have hfi := hs2.fst
        have e1 : Du.D.lst (ns.map Du.D.str ++ [d] ++ (List.replicate j [Du.D.non]).flatten) = .lst (ns.map Du.D.str ++ d :: (List.replicate j [Du.D.non]).flatten) := by simp
        rw [e1]
        generalize hsome : (List.replicate j [Du.D.non]).flatten = rest
        refine gs_own (gea_cons (ge_tried hs2.t1 fun E => gex_sm evC (gea_ev (ev_cons (ev_var rfl) ev_nil) (.inr ⟨CN, "name", d, ⟨d, rfl, ho, hb, rfl, rfl, rfl⟩, "name", hN1, rfl, gea_nil ⟨by simp, fun b hb' => ?_⟩⟩))))
        refine gs_seq (gs_drop (ge_append (ge_ev (ev_var rfl) ⟨b, 0, _, rfl, rfl, gea_cons (ge_tried (List.mem_cons_of_mem _ hs2.t1) fun E => gex_meth (ev_var rfl) rfl (gea_cons (ge_pickT (ν := [(b, _)]) hs2 (xs := [.lst (ns.map Du.D.str ++ d :: rest), .tup (ns.map Du.D.str ++ d :: rest)]) (ev_cons (ev_var rfl) (ev_cons (ev_lst (ev_cons (ev_var rfl) (ev_cons (ev_then (ev_var rfl) r1_tupL) ev_nil)) (by simp)) ev_nil)) (by omega) (by simp) (by simp) ?_)))⟩)))
        intro μ3 x hs3 hx
        have hsx : sqOf x = some (ns.map Du.D.str ++ d :: rest) := by
          simp only [List.mem_cons, List.not_mem_nil, or_false] at hx
          rcases hx with rfl | rfl <;> rfl
        refine gea_nil (.inr ⟨CN, "name", d, ⟨nn, ps, ns, d, rest, x, rfl, hsx, hn, ho, hb, rfl, rfl, rfl⟩, "name", hN1, ?_, gea_nil ⟨_, _, rfl, rfl, by simp, ?_⟩⟩)
        · simp [hs3.fst, hs2.fst]
        have m3 : ∀ {z : Addr × Du.D}, (P1, Du.D.str qLam1) ∈ z :: μ3 := List.mem_cons_of_mem _ hs3.t1
        refine gs_seq (gs_drop (ge_append (ge_ev (ev_var rfl) ⟨b, 0, _, rfl, rfl, gea_cons (ge_tried m3 fun E => gex_meth (ev_var rfl) rfl (gea_ev (ev_cons (ev_var rfl) (ev_cons ev_int ev_nil)) (.inr ⟨CN, "name", d, ⟨nn, ps, d, _, rfl, .inl ⟨ho, hb, rfl, rfl, rfl⟩⟩, "name", hN1, rfl, gea_nil ⟨_, _, rfl, rfl, by simp, ?_⟩⟩)))⟩)))
        refine gs_seq (gs_drop (ge_append (ge_ev (ev_var rfl) ⟨b, 0, _, rfl, rfl, gea_cons (ge_tried m3 fun E => gex_meth (ev_var rfl) rfl (gea_ev (ev_cons (ev_var rfl) ev_nil) (.inr ⟨CN, "name", d, ⟨nn, ps, d, rfl, ho, hb, rfl, rfl, rfl⟩, "name", hN1, rfl, gea_nil ⟨_, _, rfl, rfl, by simp, ?_⟩⟩)))⟩)))
        refine gs_seq (gs_drop (ge_append (ge_ev (ev_var rfl) ⟨b, 0, _, rfl, rfl, gea_cons (ge_tried m3 fun E => gex_meth (ev_var rfl) rfl (gea_ev (ev_cons (ev_var rfl) ev_nil) (.inr ⟨CN, "name", d, ⟨nn, ps, d, rfl, ho, hb, rfl, rfl, rfl⟩, "name", hN1, rfl, gea_nil ⟨_, _, rfl, rfl, by simp, ?_⟩⟩)))⟩)))
        refine gs_freezeG (i := 6) (μ1 := []) rfl ?_
        have sm : SmD 5 (.lst [.tup [.str "name", d], .tup [.str "name", d], .tup [.str "name", d], .tup [.str "name", d], .tup [.str "name", d]]) := .lst (by simp) fun x hx => by
          simp only [List.mem_cons, List.not_mem_nil, or_false, or_self] at hx
          rw [hx]
          exact .tup (by simp) fun y hy => by
            simp only [List.mem_cons, List.not_mem_nil, or_false] at hy
            rcases hy with rfl | rfl
            · exact .str (by decide +kernel)
            · exact hsm
        refine gs_st (st_if (b := false) (et_not (b := true) (et_B (ev_call (ev_cons (ev_var rfl) (ev_cons (ev_op (ev_lst (ev_cons (ev_tup (ev_cons ev_str (ev_cons (ev_var rfl) ev_nil)) (by simp)) ev_nil) (by simp)) ev_int (rd_rep (n := 5) (by decide) (by simp))) ev_nil)) ⟨_, rfl, sm, rfl⟩))) (fun h => by cases h) fun _ => st_next) ⟨_, .inl ⟨rfl, ?_⟩, _, .keep (.keep (.keep (.keep (.skip (.skip (.skip (.keep .nil))))))), rfl, hs3.up (by omega)⟩
        have hb2 : b ∉ μ2.map (·.1) := hb'
        show b ∉ μ3.map (·.1)
        rw [hs3.fst]; rw [hs2.fst] at hb2; exact hb2
      · rintro ρ' μ' ⟨rfl, hs2⟩
        have evN : ∀ {ρ : Rho}, ρ[2]? = some (some (lS ns)) → Ev (tOp (rIx K) (tVar 2) (tC (.int 0))) ρ (.str ns[0]) := fun h => ev_op (ev_var h) ev_int (rd_ixL (i := 0) (by rw [List.getElem?_map, List.getElem?_eq_getElem h0]; rfl))
        refine gs_seq (gs_for (fun i ρ' μ' => ρ' = [some (.ptr a), some (SayD C nn ps), some (lS ns), some (.lst oddNs), none, none, none, none] ∧ SpT P1 P2 qLam1 qLam2 a c (N + 20) μ') (ei_seqL (ds := oddTs) (ev_lst (ev_cons ev_non (ev_cons ev_int (ev_cons ev_int (ev_cons ev_str (ev_cons (ev_lst ev_nil (by simp)) (ev_cons (ev_tup (ev_cons ev_bl ev_nil) (by simp)) (ev_cons ev_dK0 ev_nil))))))) (by decide))) (Lq.rf _) ⟨rfl, hs2.up (by omega)⟩ ?_ ?_)
        · rintro i d ρi μi hd ⟨rfl, hsi⟩
          obtain ⟨ht, hsm⟩ := oddT_ok (List.mem_of_getElem? hd)
          have sm : SmD 5 (.tup [.str "truth", d]) := .tup (by simp) fun y hy => by
            simp only [List.mem_cons, List.not_mem_nil, or_false] at hy
            rcases hy with rfl | rfl
            · exact .str (by decide +kernel)
            · exact sm_up hsm
          refine ⟨_, ga_name, gs_if (gt_not (gt_B (ge_callP (gea_cons (ge_tried hsi.t1 fun E => gex_meth (ev_var rfl) rfl (gea_ev (ev_cons (evN rfl) (ev_cons (ev_var rfl) ev_nil)) (.inr ⟨CT, "thing", d, ⟨nn, ps, _, d, rfl, .inr ⟨ns[0], rfl, hn _ (List.getElem_mem h0), ht, rfl, rfl, rfl⟩⟩, "truth", RT.hitT, rfl, gea_ev (ev_cons (ev_tup (ev_cons ev_str (ev_cons (ev_var rfl) ev_nil)) (by simp)) ev_nil) ⟨_, ⟨_, rfl, sm, rfl⟩, true, rfl, ?_⟩⟩)))))))⟩
          exact gs_next ⟨_, .keep (.keep (.keep (.keep (.skip (.skip (.skip (.skip .nil))))))), rfl, hsi⟩
        · rintro ρ' μ' ⟨rfl, hs3⟩
          exact gs_ret (ge_ev ev_bl ⟨by rw [hs3.fst, hfst], hΦ _ hs3⟩)
end
end Du
namespace Du
open PySem L2
/-! odd terms -/
def oddA (n : Str) : List D := [.non, .int 5, .str "ab", .tup [], .tup [.lst []], .tup [.lst [], .lst [], .lst []], .tup [.lst [.str n, .str n], .lst []], .tup [.lst [], .lst [.str n, .str n]], .tup [.lst [.str n], .lst [.str n]]]
def oddB (n : Str) : List D := [.tup [.lst [], .lst [.int 5]], .tup [.non, .lst []], .tup [.lst [], .str n], .dK [], .tup [.lst [.lst [.str n]], .lst []], .bl true, .tup [.str n, .lst []], .tup [.lst [], .lst [.str "a1"]], .tup [.lst [.str "A"], .lst []]]
theorem sOk0 : PyData.strOk "" = true := by decide +kernel
theorem nm_A : nmOk "A" = false := by decide +kernel
theorem nm_a1 : nmOk "a1" = false := by decide +kernel
theorem sOk_A : PyData.strOk "A" = true := by decide +kernel
theorem sOk_a1 : PyData.strOk "a1" = true := by decide +kernel
theorem odd_ty {d : D} (h : (tyD d).isSome = true) (hs : ∀ s, d ≠ .str s) : oddOk d := ⟨h, fun s e => absurd e (hs s)⟩
theorem odd_st {s : Str} (h : s.length ≤ 100000) : oddOk (.str s) := ⟨rfl, fun z e => by cases e; exact h⟩
theorem oddL_at {d : D} (h : oddOk d) (hs : sqOf d = none) : oddL d := ⟨h, fun xs e => by rw [hs] at e; cases e⟩
theorem oddL_sq {d : D} {xs : List D} (hs : sqOf d = some xs) (hl : xs.length ≤ 20) (h : ∀ x ∈ xs, oddOk x) : oddL d := by
  refine ⟨?_, fun ys e => ?_⟩
  · rcases sqOf_is hs with rfl | rfl
    · exact odd_ty rfl fun s e => by cases e
    · exact odd_ty rfl fun s e => by cases e
  · rw [hs] at e; cases e; exact ⟨hl, h⟩
structure OddTm (d : D) : Prop where
  o : oddT d
  k : ∀ xs, sqOf d = some xs → ∀ x ∈ xs, okS (nmsD x)
  b : termB d = false
theorem oddTm_at {d : D} (h : oddOk d) (hs : sqOf d = none) : OddTm d := ⟨⟨h, fun xs e => by rw [hs] at e; cases e⟩, (fun xs e => by rw [hs] at e; cases e), by unfold termB; rw [hs]⟩
theorem oddTm_sq {d : D} {xs : List D} (hs : sqOf d = some xs) (hl : xs.length ≤ 20) (h : ∀ x ∈ xs, oddL x ∧ okS (nmsD x)) (hb : termB d = false) : OddTm d := by
  refine ⟨⟨?_, fun ys e => ?_⟩, fun ys e => ?_, hb⟩
  · rcases sqOf_is hs with rfl | rfl
    · exact odd_ty rfl fun s e => by cases e
    · exact odd_ty rfl fun s e => by cases e
  · rw [hs] at e; cases e; exact ⟨hl, fun x hx => (h x hx).1⟩
  · rw [hs] at e; cases e; exact fun x hx => (h x hx).2
/-- a part of an odd term -/
theorem part_l {xs : List D} (hl : xs.length ≤ 20) (h : ∀ x ∈ xs, oddOk x ∧ PyData.strOk (strD x) = true) : oddL (.lst xs) ∧ okS (nmsD (.lst xs)) :=
  ⟨oddL_sq rfl hl fun x hx => (h x hx).1, fun s hs => by
    obtain ⟨x, hx, rfl⟩ := List.mem_map.mp hs
    exact (h x hx).2⟩
theorem part_a {d : D} (h : oddOk d) (hs : sqOf d = none) : oddL d ∧ okS (nmsD d) := ⟨oddL_at h hs, fun s hm => by unfold nmsD at hm; rw [hs] at hm; cases hm⟩
theorem part_n : oddL (.lst []) ∧ okS (nmsD (.lst [])) := part_l (by simp) fun x hx => by cases hx
theorem part_1 {d : D} (h : oddOk d) (hs : PyData.strOk (strD d) = true) : oddL (.lst [d]) ∧ okS (nmsD (.lst [d])) := part_l (by simp) fun x hx => by rw [List.mem_singleton.mp hx]; exact ⟨h, hs⟩
theorem part_2 {d : D} (h : oddOk d) (hs : PyData.strOk (strD d) = true) : oddL (.lst [d, d]) ∧ okS (nmsD (.lst [d, d])) := part_l (by simp) fun x hx => by
  simp only [List.mem_cons, List.not_mem_nil, or_false, or_self] at hx
  rw [hx]; exact ⟨h, hs⟩
theorem two {a b : D} {P : D → Prop} (ha : P a) (hb : P b) : ∀ x ∈ [a, b], P x := fun x hx => by
  simp only [List.mem_cons, List.not_mem_nil, or_false] at hx
  rcases hx with rfl | rfl
  · exact ha
  · exact hb
theorem odds {n : Str} (hn : nmOk n = true) (ho : PyData.strOk n = true) {d : D} (h : d ∈ oddA n ++ oddB n) : OddTm d := by
  have hl : n.length ≤ 100000 := by have := nmOk_len hn; omega
  have on : oddOk (.str n) := odd_st hl
  have oi : ∀ i, oddOk (.int i) := fun i => odd_ty rfl fun s e => by cases e
  have p2 := part_2 on ho
  have p1 := part_1 on ho
  have pn := part_n
  simp only [oddA, oddB, List.mem_append, List.mem_cons, List.not_mem_nil, or_false] at h
  rcases h with (rfl | rfl | rfl | rfl | rfl | rfl | rfl | rfl | rfl) | (rfl | rfl | rfl | rfl | rfl | rfl | rfl | rfl | rfl)
  · exact oddTm_at (odd_ty rfl fun s e => by cases e) rfl
  · exact oddTm_at (odd_ty rfl fun s e => by cases e) rfl
  · exact oddTm_at (odd_st (by decide +kernel)) rfl
  · exact oddTm_sq rfl (by simp) (fun x hx => by cases hx) rfl
  · exact oddTm_sq rfl (by simp) (fun x hx => by rw [List.mem_singleton.mp hx]; exact pn) rfl
  · exact oddTm_sq rfl (by simp) (fun x hx => by
      simp only [List.mem_cons, List.not_mem_nil, or_false, or_self] at hx
      rw [hx]; exact pn) rfl
  · exact oddTm_sq rfl (by simp) (two p2 pn) (by simp [termB, unlB, sqOf, strD])
  · exact oddTm_sq rfl (by simp) (two pn p2) (by simp [termB, unlB, sqOf, strD])
  · exact oddTm_sq rfl (by simp) (two p1 p1) (by simp [termB, unlB, sqOf, strD, nmsD])
  · exact oddTm_sq rfl (by simp) (two pn (part_1 (oi 5) sOk0)) (by simp [termB, unlB, sqOf, nmB])
  · exact oddTm_sq rfl (by simp) (two (part_a (odd_ty rfl fun s e => by cases e) rfl) pn) (by simp [termB, unlB, sqOf])
  · exact oddTm_sq rfl (by simp) (two pn (part_a on rfl)) (by simp [termB, unlB, sqOf])
  · exact oddTm_at (odd_ty rfl fun s e => by cases e) rfl
  · exact oddTm_sq rfl (by simp) (two (part_1 (odd_ty rfl fun s e => by cases e) sOk0) pn) (by simp [termB, unlB, sqOf, nmB])
  · exact oddTm_at (odd_ty rfl fun s e => by cases e) rfl
  · exact oddTm_sq rfl (by simp) (two (part_a on rfl) pn) (by simp [termB, unlB, sqOf])
  · exact oddTm_sq rfl (by simp) (two pn (part_1 (odd_st (by decide +kernel)) sOk_a1)) (by simp [termB, unlB, sqOf, nmB, nm_a1])
  · exact oddTm_sq rfl (by simp) (two (part_1 (odd_st (by decide +kernel)) sOk_A) pn) (by simp [termB, unlB, sqOf, nmB, nm_A])
/-! good terms -/
def gds (ns : List Str) : List (D × Tm) := ns.map (fun n => (D.tup [.lst [.str n], .lst []], ([n], []))) ++ [(D.tup [.lst [], lS ns], ([], ns)), (D.tup [.tup [], .tup []], ([], []))]
theorem gds_ok {ns : List Str} (nd : ns.Nodup) (hl : ns.length ≤ 4) (hn : ∀ n ∈ ns, nmOk n = true) (ho : okS ns) : ∀ p ∈ gds ns, isTm p.1 p.2.1 p.2.2 ∧ TmOk p.2 := by
  intro p hp
  rcases List.mem_append.mp hp with h | h
  · obtain ⟨n, hm, rfl⟩ := List.mem_map.mp h
    refine ⟨⟨_, _, .inl rfl, .inl rfl, .inl rfl⟩, by simp, by simp, by simp, by simp, by simp, fun x hx => ?_, by simp, fun x hx => ?_, okS_nil⟩
    · rw [List.mem_singleton.mp hx]; exact hn n hm
    · rw [List.mem_singleton.mp hx]; exact ho n hm
  · simp only [List.mem_cons, List.not_mem_nil, or_false] at h
    rcases h with rfl | rfl
    · exact ⟨⟨_, _, .inl rfl, .inl rfl, .inl rfl⟩, by simp, nd, by simp, by simp, by simp; omega, by simp, hn, okS_nil, ho⟩
    · exact ⟨⟨_, _, .inr rfl, .inr rfl, .inl rfl⟩, by simp, by simp, by simp, by simp, by simp, by simp, by simp, okS_nil, okS_nil⟩
theorem gds_len (ns : List Str) : (gds ns).length = ns.length + 2 := by simp [gds]
theorem gds_nms (ns : List Str) : nmsOf (gds ns) = ns ++ ns := by
  unfold nmsOf gds
  rw [List.flatMap_append]
  have : (ns.map fun n => ((D.tup [.lst [.str n], .lst []], ([n], [])) : D × Tm)).flatMap (fun p => p.2.1 ++ p.2.2) = ns := by
    induction ns with
    | nil => rfl
    | cons n ns ih => simp only [List.map_cons, List.flatMap_cons, ih]; rfl
  rw [this]; simp
section
variable {P : Program} {w : World} {K : PySem.W.Frag} {mg : Str → Option Value} {base : Heap} {C CN CT CE fr : Addr} {fdr : FuncData} {ρ : Rho}
theorem ev_dropA {te tn : TE} {ds : List D} {n : Nat} (h : Ev te ρ (.lst ds)) (hn : Ev tn ρ (.int n)) (hl : n ≤ ds.length) : Ev (tSl (rSlL K) te (tPart tn) tNoPart) ρ (.lst (ds.drop n)) := ev_cut1 h (eo_some hn) eo_none hl
def RTermsR (P1 P2 : Addr) (ds : List D) (μ : Mu) (Φ : D → Mu → Prop) : Prop := ∃ (a c : Addr) (N : Nat) (ns : List Str), ds = [.ptr a, lS ns] ∧ 0 < ns.length ∧ ns.length ≤ 4 ∧ ns.Nodup ∧ (∀ n ∈ ns, nmOk n = true) ∧ okS ns ∧ SpT P1 P2 qLam1 qLam2 a c N μ ∧ N + 20 < 90000 ∧ ∀ μ', SpT P1 P2 qLam1 qLam2 a c (N + 20) μ' → Φ (.bl true) μ'
theorem ok_law_terms_right {f c P1 P2 : Addr} {fd : FuncData} (F : FunC K "_law_terms_right" "_law_terms_right" s_law_terms_right f fd c) (T : Tx K mg C) (RT : TrT K mg fr fdr CN CT CE) (TBt : LamX.TabB base mg c P2)
    (sx_of_terms : OSmX P w K mg base 4 C "of_terms" (spF (ROfTerms C) (RxTerms CE))) (c_law_draw : C8.Cal P w K mg base 1 "_law_draw" (spM RDraw) []) (c_law_pick : C8.Cal P w K mg base 2 "_law_pick" (spM RPick) []) (c_law_same : C8.Cal P w K mg base 6 "_law_same" (spP (RSameD 5)) []) : FnOk P w K mg base CX0 10 f fd ["_law_spring_here", "_law_names_here"] (spM (RTermsR P1 P2)) := by
  refine eff_okC F sc_law_terms_right (fun ds μ Φ h => ?_) (fun A outer s H E hr => ?_)
  · obtain ⟨a, c, N, ns, rfl, _⟩ := h; rfl
  · have hr7 : Room (5 + 2) _ := hr.mono (by omega)
    refine ⟨_, (pss_cons (ps_set (i := 2) sc_law_terms_right.nd rfl (by first | exact Or.inl rfl | exact Or.inr rfl) (pe_ix (k_ix (K := K) rfl) (pv 1) pe_int (fun _ _ => rfl))) (pss_cons (ps_set (i := 3) sc_law_terms_right.nd rfl (by first | exact Or.inl rfl | exact Or.inr rfl) (pe_lst (pa_cons pe_non (pa_cons pe_int (pa_cons pe_str (pa_cons (pe_tup pa_nil) (pa_cons (pe_tup (pa_cons (pe_lst pa_nil) pa_nil)) (pa_cons (pe_tup (pa_cons (pe_lst pa_nil) (pa_cons (pe_lst pa_nil) (pa_cons (pe_lst pa_nil) pa_nil)))) (pa_cons (pe_tup (pa_cons (pe_lst (pa_cons (pv 2) (pa_cons (pv 2) pa_nil))) (pa_cons (pe_lst pa_nil) pa_nil))) (pa_cons (pe_tup (pa_cons (pe_lst pa_nil) (pa_cons (pe_lst (pa_cons (pv 2) (pa_cons (pv 2) pa_nil))) pa_nil))) (pa_cons (pe_tup (pa_cons (pe_lst (pa_cons (pv 2) pa_nil)) (pa_cons (pe_lst (pa_cons (pv 2) pa_nil)) pa_nil))) pa_nil))))))))))) (pss_cons (ps_expr (k_bm (K := K) rfl PySem.F.plainAttrs_list PySem.F.slot_list_extend PySem.F.type_list_extend mt_extend (pv 3) (pa_cons (pe_lst (pa_cons (pe_tup (pa_cons (pe_lst pa_nil) (pa_cons (pe_lst (pa_cons pe_int pa_nil)) pa_nil))) (pa_cons (pe_tup (pa_cons pe_non (pa_cons (pe_lst pa_nil) pa_nil))) (pa_cons (pe_tup (pa_cons (pe_lst pa_nil) (pa_cons (pv 2) pa_nil))) (pa_cons pe_dnewK (pa_cons (pe_tup (pa_cons (pe_lst (pa_cons (pe_lst (pa_cons (pv 2) pa_nil)) pa_nil)) (pa_cons (pe_lst pa_nil) pa_nil))) (pa_cons pe_bl (pa_cons (pe_tup (pa_cons (pv 2) (pa_cons (pe_lst pa_nil) pa_nil))) (pa_cons (pe_tup (pa_cons (pe_lst pa_nil) (pa_cons (pe_lst (pa_cons pe_str pa_nil)) pa_nil))) (pa_cons (pe_tup (pa_cons (pe_lst (pa_cons pe_str pa_nil)) (pa_cons (pe_lst pa_nil) pa_nil))) pa_nil)))))))))) pa_nil))) (pss_cons (ps_set (i := 4) sc_law_terms_right.nd rfl (by first | exact Or.inl rfl | exact Or.inr rfl) (pe_op (k_addU (K := K) rfl) (pe_lc (own := [("_law_one", 9)]) rfl sc_law_terms_right.nd (k_seq (K := K) rfl (pv 1)) (blkOk_by (own := [("_law_one", 9)]) (N := n_law_terms_right) (sc := defScope s_law_terms_right) (by decide +kernel)) (fun _ _ _ _ _ => (pg_name (i := 9) sc_law_terms_right.nd rfl (by first | exact Or.inl rfl | exact Or.inr rfl))) (fun _ _ _ _ _ => pts_nil) (fun _ _ _ _ _ => (pe_tup (pa_cons (pe_lst (pa_cons (pv 9) pa_nil)) (pa_cons (pe_lst pa_nil) pa_nil))))) (pe_lst (pa_cons (pe_tup (pa_cons (pe_lst pa_nil) (pa_cons (pv 1) pa_nil))) (pa_cons (pe_tup (pa_cons (pe_tup pa_nil) (pa_cons (pe_tup pa_nil) pa_nil))) pa_nil))))) (pss_cons (ps_set (i := 5) sc_law_terms_right.nd rfl (by first | exact Or.inl rfl | exact Or.inr rfl) (C8.pe_c c_law_draw hr (by omega) rfl (pa_cons (pv 0) (pa_cons (pe_op (k_addU (K := K) rfl) (pe_callB (k_len (K := K) rfl) (by rfl) T.len (by decide +kernel) (pa_cons (pv 4) pa_nil)) pe_int) pa_nil)))) (pss_cons (ps_set (i := 6) sc_law_terms_right.nd rfl (by first | exact Or.inl rfl | exact Or.inr rfl) (pe_op (k_addU (K := K) rfl) (pe_op (k_addU (K := K) rfl) (pe_op (k_addU (K := K) rfl) (pe_slice (k_sl (K := K) rfl) (pv 4) po_none (po_some (pv 5))) (pe_lst (pa_cons (C8.pe_c c_law_pick hr (by omega) rfl (pa_cons (pv 0) (pa_cons (pv 3) pa_nil))) pa_nil))) (pe_slice (k_sl (K := K) rfl) (pv 4) (po_some (pv 5)) po_none)) (pe_op op_mulU (pe_lst (pa_cons pe_non pa_nil)) (C8.pe_c c_law_draw hr (by omega) rfl (pa_cons (pv 0) (pa_cons pe_int pa_nil)))))) (pss_cons (ps_if (pt_not (pt_val (C8.pe_c c_law_same hr (by omega) rfl (pa_cons (pe_tried RT TBt rfl hr7 rfl (LamX.lamS_by (sc := defScope s_law_terms_right) (by decide +kernel)) rfl (fun _ _ _ _ _ => rfl) (fun A outer s H E f c' hr => (lam_sm sx_of_terms hr (by omega) (pe_glob (v := .ref _) rfl T.g_Say rfl) (pa_cons (C8.pe_c c_law_pick hr (by omega) rfl (pa_cons (pv 0) (pa_cons (pe_lst (pa_cons (pv 6) (pa_cons (k_tupleOf (K := K) rfl (by rfl) T.tuple (pv 6)) pa_nil))) pa_nil))) pa_nil)))) (pa_cons (pe_tup (pa_cons pe_str (pa_cons (pv 5) pa_nil))) pa_nil))))) (pss_one (ps_ret pe_bl)) pss_nil) (pss_cons (ps_set (i := 7) sc_law_terms_right.nd rfl (by first | exact Or.inl rfl | exact Or.inr rfl) (C8.pe_c c_law_pick hr (by omega) rfl (pa_cons (pv 0) (pa_cons (pe_lst (pa_cons pe_non (pa_cons pe_int (pa_cons pe_str (pa_cons pe_str (pa_cons pe_dnewK (pa_cons pe_bl pa_nil))))))) pa_nil)))) (pss_cons (ps_set (i := 8) sc_law_terms_right.nd rfl (by first | exact Or.inl rfl | exact Or.inr rfl) (pe_lst (pa_cons (pe_tried RT TBt rfl hr7 rfl (LamX.lamS_by (sc := defScope s_law_terms_right) (by decide +kernel)) rfl (fun _ _ _ _ _ => rfl) (fun A outer s H E f c' hr => (lam_sm sx_of_terms hr (by omega) (pe_glob (v := .ref _) rfl T.g_Say rfl) (pa_cons (pv 7) pa_nil)))) pa_nil))) (pss_cons (ps_expr (k_bm (K := K) rfl PySem.F.plainAttrs_list PySem.F.slot_list_append PySem.F.type_list_append mt_append (pv 8) (pa_cons (pe_tried RT TBt rfl hr7 rfl (LamX.lamS_by (sc := defScope s_law_terms_right) (by decide +kernel)) rfl (fun _ _ _ _ _ => rfl) (fun A outer s H E f c' hr => (lam_sm sx_of_terms hr (by omega) (pe_glob (v := .ref _) rfl T.g_Say rfl) (pa_cons (pv 4) pa_nil)))) pa_nil))) (pss_one (ps_ret (C8.pe_c c_law_same hr (by omega) rfl (pa_cons (pv 8) (pa_cons (pe_lst (pa_cons (pe_tup (pa_cons pe_str (pa_cons pe_int pa_nil))) (pa_cons (pe_tup (pa_cons pe_str (pa_cons pe_int pa_nil))) pa_nil))) pa_nil))))))))))))))), ?_⟩
    intro ds μ Φ h
    obtain ⟨a, c, N, ns, rfl, h0, hl, nd, hn, ho, hs, hN, hΦ⟩ := h
    have hfst := hs.fst
    have hN1 : Hits K (lT CN CT CE) CE "index" "term" := RT.hitE
    have evC : ∀ {ρ : Rho}, Ev (tC (.ref C)) ρ (.ptr C) := fun {ρ} _ _ H _ _ _ q => q _ H (Ex.rf H) (.ptr C)
    generalize hn0 : ns[0] = n0
    have hm0 : n0 ∈ ns := hn0 ▸ List.getElem_mem h0
    refine gs_seq (gs_st (st_asg (d := .str n0) (ev_op (ev_var rfl) ev_int (rd_ixL (i := 0) (by rw [List.getElem?_map, List.getElem?_eq_getElem h0, hn0]; rfl))) ga_name) ?_)
    have ee : ∀ {ρ : Rho}, Ev (tLst tNil) ρ (.lst []) := ev_lst ev_nil (by simp)
    refine gs_own (gea_ev (ds := oddA n0) (ev_cons ev_non (ev_cons ev_int (ev_cons ev_str (ev_cons (ev_tup ev_nil (by simp)) (ev_cons (ev_tup (ev_cons ee ev_nil) (by simp)) (ev_cons (ev_tup (ev_cons ee (ev_cons ee (ev_cons ee ev_nil))) (by simp)) (ev_cons (ev_tup (ev_cons (ev_lst (ev_cons (ev_var rfl) (ev_cons (ev_var rfl) ev_nil)) (by simp)) (ev_cons ee ev_nil)) (by simp)) (ev_cons (ev_tup (ev_cons ee (ev_cons (ev_lst (ev_cons (ev_var rfl) (ev_cons (ev_var rfl) ev_nil)) (by simp)) ev_nil)) (by simp)) (ev_cons (ev_tup (ev_cons (ev_lst (ev_cons (ev_var rfl) ev_nil) (by simp)) (ev_cons (ev_lst (ev_cons (ev_var rfl) ev_nil) (by simp)) ev_nil)) (by simp)) ev_nil))))))))) ⟨by simp [oddA], fun b hb => ?_⟩)
    refine gs_seq (gs_drop (ge_extend (ge_ev (ev_var rfl) ⟨b, 0, _, rfl, rfl, gea_ev (ev_cons (d := .lst (oddB n0)) (ev_lst (ev_cons (ev_tup (ev_cons ee (ev_cons (ev_lst (ev_cons ev_int ev_nil) (by simp)) ev_nil)) (by simp)) (ev_cons (ev_tup (ev_cons ev_non (ev_cons ee ev_nil)) (by simp)) (ev_cons (ev_tup (ev_cons ee (ev_cons (ev_var rfl) ev_nil)) (by simp)) (ev_cons ev_dK0 (ev_cons (ev_tup (ev_cons (ev_lst (ev_cons (ev_lst (ev_cons (ev_var rfl) ev_nil) (by simp)) ev_nil) (by simp)) (ev_cons ee ev_nil)) (by simp)) (ev_cons ev_bl (ev_cons (ev_tup (ev_cons (ev_var rfl) (ev_cons ee ev_nil)) (by simp)) (ev_cons (ev_tup (ev_cons ee (ev_cons (ev_lst (ev_cons ev_str ev_nil) (by simp)) ev_nil)) (by simp)) (ev_cons (ev_tup (ev_cons (ev_lst (ev_cons ev_str ev_nil) (by simp)) (ev_cons ee ev_nil)) (by simp)) ev_nil))))))))) (by simp [oddB])) ev_nil) ⟨_, _, rfl, rfl, by simp [oddA, oddB], ?_⟩⟩)))
    refine gs_freezeG (i := 3) (μ1 := []) rfl ?_
    have hgo := gds_ok nd hl hn ho
    have hgl := gds_len ns
    have hg : Du.D.lst ((gds ns).map Prod.fst) = .lst ((ns.map fun n => Du.D.tup [.lst [.str n], .lst []]) ++ [.tup [.lst [], lS ns], .tup [.tup [], .tup []]]) := by
      unfold gds; rw [List.map_append, List.map_map]; rfl
    refine gs_seq (gs_st (st_asg (d := .lst ((gds ns).map Prod.fst)) (by
      rw [hg]
      exact ev_op (ev_lc1 (φ := Du.D.str) (fe := fun n => Du.D.tup [.lst [.str n], .lst []]) (ei_seqL (ev_var rfl)) (by omega) fun n hn => ⟨_, gw_name (by simp), ev_tup (ev_cons (ev_lst (ev_cons (ev_var rfl) ev_nil) (by simp)) (ev_cons ee ev_nil)) (by simp)⟩) (ev_lst (ev_cons (ev_tup (ev_cons ee (ev_cons (ev_var rfl) ev_nil)) (by simp)) (ev_cons (ev_tup (ev_cons (ev_tup ev_nil (by simp)) (ev_cons (ev_tup ev_nil (by simp)) ev_nil)) (by simp)) ev_nil)) (by simp)) (rd_addL (by simp; omega))) ga_name) ?_)
    generalize hG : (gds ns).map Prod.fst = G at *
    have lG : G.length = ns.length + 2 := by rw [← hG, List.length_map]; exact hgl
    refine gs_seq (gs_asg (ge_drawT (ν := []) hs (k := ns.length + 3) (ev_cons (ev_var rfl) (ev_cons (d := .int ((ns.length + 3 : Nat) : Int)) (by
      rw [show ((ns.length + 3 : Nat) : Int) = (G.length : Int) + 1 from by omega]
      exact ev_op (ev_cb (ev_cons (ev_var rfl) ev_nil) rl_lenL) ev_int rd_addI) ev_nil)) (by omega) (by omega) (by omega) fun μ1 k hs1 hk => ?_))
    refine gs_seq (gs_asg (ge_op (ge_op (ge_op (ge_ev (ev_take (ev_var rfl) (ev_var rfl)) (ge_lst (gea_cons (ge_pickT (ν := []) hs1 (xs := oddA n0 ++ oddB n0) (ev_cons (ev_var rfl) (ev_cons (ev_var rfl) ev_nil)) (by omega) (by simp [oddA, oddB]) (by simp [oddA, oddB]) fun μ2 e hs2 he => gea_nil ⟨by simp, _, rd_addL (by simp; omega), ge_ev (ev_dropA (ev_var rfl) (ev_var rfl) (by omega)) ⟨_, rd_addL (by simp; omega), ge_op (ge_ev (ev_lst (ev_cons ev_non ev_nil) (by simp)) (ge_drawT (ν := []) hs2 (k := 2) (ev_cons (ev_var rfl) (ev_cons ev_int ev_nil)) (by omega) (by decide) (by decide) fun μ3 j hs3 hj => ⟨_, rd_rep (n := j) (by omega) (by simp; omega), _, rd_addL (by simp; omega), ?_⟩))⟩⟩))))))))
    obtain ⟨oe, ok, ob⟩ := odds (hn n0 hm0) (ho n0 hm0) he
    have e1 : G.take k ++ [e] ++ G.drop k ++ (List.replicate j [Du.D.non]).flatten = ((gds ns).take k).map Prod.fst ++ e :: (G.drop k ++ (List.replicate j [Du.D.non]).flatten) := by
      rw [List.map_take, hG]; simp
    rw [e1]
    generalize hrest : G.drop k ++ (List.replicate j [Du.D.non]).flatten = rest
    generalize hbad : ((gds ns).take k).map Prod.fst ++ e :: rest = bad
    have ltk : ((gds ns).take k).length = k := by rw [List.length_take]; omega
    have smk : SmD 5 (.tup [.str "term", .int (k : Int)]) := .tup (by simp) (two (.str (by decide +kernel)) (.int _))
    refine gs_seq (gs_if (gt_not (gt_B (ge_callP (gea_cons (ge_tried hs3.t2 fun E => gex_sm evC (gea_cons (ge_pickT (ν := []) hs3 (xs := [.lst bad, .tup bad]) (ev_cons (ev_var rfl) (ev_cons (ev_lst (ev_cons (ev_var rfl) (ev_cons (ev_then (ev_var rfl) r1_tupL) ev_nil)) (by simp)) ev_nil)) (by omega) (by simp) (by simp) fun μ4 x hs4 hx => ?_))))))))
    have hsx : sqOf x = some (((gds ns).take k).map Prod.fst ++ e :: rest) := by
      rw [hbad]
      simp only [List.mem_cons, List.not_mem_nil, or_false] at hx
      rcases hx with rfl | rfl <;> rfl
    refine gea_nil (.inr ⟨CE, "index", .int (k : Int), ⟨x, rfl, rfl, rfl, .inr ⟨(gds ns).take k, e, rest, hsx, by rw [ltk]; omega, fun p hp => hgo p (List.mem_of_mem_take hp), oe, ok, ob, by rw [ltk]⟩⟩, "term", hN1, ?_, gea_ev (ev_cons (ev_tup (ev_cons ev_str (ev_cons (ev_var rfl) ev_nil)) (by simp)) ev_nil) ⟨_, ⟨_, rfl, smk, rfl⟩, true, rfl, ?_⟩⟩)
    · show μ4.map (·.1) = μ3.map (·.1)
      rw [hs4.fst, hs3.fst]
    refine gs_next ?_
    refine gs_seq (gs_asg (ge_pickT (ν := []) hs4 (xs := [.non, .int 5, .str "", .str "ab", .dK [], .bl true]) (ev_cons (ev_var rfl) (ev_cons (ev_lst (ev_cons ev_non (ev_cons ev_int (ev_cons ev_str (ev_cons ev_str (ev_cons ev_dK0 (ev_cons ev_bl ev_nil)))))) (by simp)) ev_nil)) (by omega) (by simp) (by simp) fun μ5 y hs5 hy => ?_))
    have oy : (tyD y).isSome = true ∧ sqOf y = none := by
      simp only [List.mem_cons, List.not_mem_nil, or_false] at hy
      rcases hy with rfl | rfl | rfl | rfl | rfl | rfl <;> exact ⟨rfl, rfl⟩
    refine gs_own (gea_cons (ge_tried hs5.t2 fun E => gex_sm evC (gea_ev (ev_cons (ev_var rfl) ev_nil) (.inr ⟨CE, "index", .int 0, ⟨y, rfl, rfl, rfl, .inl ⟨oy.1, oy.2, rfl⟩⟩, "term", hN1, rfl, gea_nil ⟨by simp, fun d hd => ?_⟩⟩))))
    refine gs_seq (gs_drop (ge_append (ge_ev (ev_var rfl) ⟨d, 0, _, rfl, rfl, gea_cons (ge_tried (List.mem_cons_of_mem _ hs5.t2) fun E => gex_sm evC (gea_ev (ev_cons (ev_var rfl) ev_nil) (.inl ⟨_, ⟨_, gds ns, rfl, .inl (by rw [hG]), by omega, hgo, by rw [gds_nms]; simp; omega, by rw [gds_nms]; have := uniq_len (ns ++ ns); rw [List.length_append] at this; omega, rfl⟩, gea_nil ⟨_, _, rfl, rfl, by simp, ?_⟩⟩)))⟩)))
    refine gs_freezeG (i := 8) (μ1 := []) rfl ?_
    have sm2 : SmD 5 (.lst [.tup [.str "term", .int 0], .tup [.str "told", .int 0]]) := .lst (by simp) (two (.tup (by simp) (two (.str (by decide +kernel)) (.int _))) (.tup (by simp) (two (.str (by decide +kernel)) (.int _))))
    refine gs_ret (ge_ev (ev_call (ev_cons (ev_var rfl) (ev_cons (ev_lst (ev_cons (ev_tup (ev_cons ev_str (ev_cons ev_int ev_nil)) (by simp)) (ev_cons (ev_tup (ev_cons ev_str (ev_cons ev_int ev_nil)) (by simp)) ev_nil)) (by simp)) ev_nil)) ⟨_, rfl, sm2, rfl⟩) ⟨_, .inl ⟨rfl, ?_⟩, _, .inl ⟨rfl, ?_⟩, ?_, hΦ _ (hs5.up (by omega))⟩)
    · exact hd
    · have hb2 : b ∉ μ.map (·.1) := hb
      show b ∉ μ5.map (·.1)
      rw [hs5.fst]; rw [hfst] at hb2; exact hb2
    · show μ5.map (·.1) = μ.map (·.1)
      rw [hs5.fst, hfst]
end
end Du
namespace Du
open PySem L2
/-! parity -/
def par (L row : List Str) : Bool := decide ((L.filter fun n => decide (n ∈ row)).length % 2 = 1)
theorem par_app (L : List Str) (n : Str) (row : List Str) : par (L ++ [n]) row = !eqD (.bl (par L row)) (.bl (decide (n ∈ row))) := by
  unfold par
  rw [eqD_bl, List.filter_append, List.length_append]
  by_cases h : n ∈ row
  · rw [List.filter_cons_of_pos (by simpa using h)]
    simp only [List.filter_nil, List.length_cons, List.length_nil, h, decide_true]
    generalize (L.filter fun n => decide (n ∈ row)).length = k
    by_cases hk : k % 2 = 1
    · have : ¬ (k + (0 + 1)) % 2 = 1 := by omega
      simp [hk, this]
    · have : (k + (0 + 1)) % 2 = 1 := by omega
      simp [hk, this]
  · rw [List.filter_cons_of_neg (by simpa using h)]
    simp only [List.filter_nil, List.length_nil, h, decide_false]
    generalize (L.filter fun n => decide (n ∈ row)).length = k
    by_cases hk : k % 2 = 1
    · have : (k + 0) % 2 = 1 := by omega
      simp [hk]
    · have : ¬ (k + 0) % 2 = 1 := by omega
      simp [hk]
theorem par_nil (L : List Str) : par L [] = false := by
  unfold par
  have : L.filter (fun n => decide (n ∈ ([] : List Str))) = [] := List.filter_eq_nil_iff.mpr fun x _ => by simp
  rw [this]; rfl
theorem par_one : ∀ {L : List Str} {x : Str}, L.Nodup → x ∈ L → par L [x] = true := by
  intro L x nd hx
  have : ∀ {L : List Str}, L.Nodup → x ∈ L → (L.filter fun n => decide (n ∈ [x])).length = 1 := by
    intro L
    induction L with
    | nil => intro _ h; cases h
    | cons y L ih =>
      intro nd h
      have nd' := List.nodup_cons.mp nd
      by_cases e : y = x
      · subst e
        rw [List.filter_cons_of_pos (by simp)]
        have : L.filter (fun n => decide (n ∈ [y])) = [] := List.filter_eq_nil_iff.mpr fun z hz => by
          simp only [List.mem_singleton, decide_eq_true_eq]
          intro e; subst e; exact nd'.1 hz
        rw [this]; rfl
      · rw [List.filter_cons_of_neg (by simpa using e)]
        rcases List.mem_cons.mp h with h | h
        · exact absurd h.symm e
        · exact ih nd'.2 h
  unfold par
  rw [this nd hx]; rfl
/-- a say that holds by parity has all the names -/
theorem par_names {nn L : List Str} {ps : List (List Str)} (hs : SS nn) (nd : L.Nodup) (sub : ∀ x ∈ nn, x ∈ L) (h : ∀ row, atS nn ps row = par L row) : nn = srt L := by
  refine hs.ext (srt_SS nd) fun x => ⟨fun hx => srt_mem.mpr (sub x hx), fun hx => ?_⟩
  have hx := srt_mem.mp hx
  by_cases hm : x ∈ nn
  · exact hm
  · have e := at_same (n1 := nn) (p1 := ps) (l := []) (row := [x]) fun n hn => by
      have : n ≠ x := fun e => hm (e ▸ hn)
      simp [this]
    rw [h, h, par_nil, par_one nd hx] at e
    cases e
theorem sm_strs {ns : List Str} (ho : okS ns) (hl : ns.length ≤ 100000) : SmD 5 (lS ns) := .lst (by simpa using hl) fun d hd => by
  obtain ⟨s, hs, rfl⟩ := List.mem_map.mp hd
  exact .str (ho s hs)
section
variable {P : Program} {w : World} {K : PySem.W.Frag} {mg : Str → Option Value} {base : Heap} {C CN CT CE fr : Addr} {fdr : FuncData} {ρ : Rho}
def spLawT2 (K : PySem.W.Frag) (P1 P2 : Addr) : Sp := fun vs H Q _ => ∃ (p : Addr) (cs : List Int), vs = [.ref p] ∧ SqL K H p (cs.map V.int) ∧ H P1 = some (.tbl #[]) ∧ H P2 = some (.tbl #[]) ∧ P1 ≠ P2 ∧ ∀ H', Q (.bl true) H'
/-- the spring, beside a table of code objects -/
theorem law_startT2 {us : TS} {m : Nat} {p P1 P2 : Addr} {q1 q2 : Str} {cs : List Int} {H : Hp} {E : Ends} {E' : XK} (hp : SqL K H p (cs.map V.int)) (ht : H P1 = some (.tbl #[])) (hu : H P2 = some (.tbl #[])) (h12 : P1 ≠ P2) (hq : ∀ H', E.rt (.bl true) H')
    (hg : ∀ a c, GS us (none :: some (.ptr a) :: List.replicate m none) ((P1, .str q1) :: (P2, .str q2) :: spr a c cs 0 0 7) (fun _ _ => False) (fun d _ => d = .bl true)) :
    tSeq (tAsg (tCall (spSpring K) [] E' (tCons (tVar 0) tNil)) (gName 1)) us E (some (.ref p) :: none :: List.replicate m none) H := by
  refine ⟨_, rfl, p, cs, rfl, hp, fun c a hc ne ha => ?_⟩
  dsimp only [gName]
  have na : P1 ≠ a := fun e => by rw [e, ha] at ht; cases ht
  have nc : P1 ≠ c := fun e => by rw [e, hc] at ht; cases ht
  have ma : P2 ≠ a := fun e => by rw [e, ha] at hu; cases hu
  have mc : P2 ≠ c := fun e => by rw [e, hc] at hu; cases hu
  let Z : Addr → Prop := fun b => b = a ∨ b = c ∨ b = P1 ∨ b = P2
  let H1 := upd (upd H c (.lst (cs.map V.int))) a (.lst [.ref c, .int 0, .int 0, .int 7])
  have hc1 : H1 c = some (.lst (cs.map V.int)) := by show upd _ a _ c = _; rw [upd_ne ne.symm]; exact upd_same
  have ht1 : H1 P1 = some (.tbl #[]) := by show upd _ a _ P1 = _; rw [upd_ne na, upd_ne nc]; exact ht
  have hu1 : H1 P2 = some (.tbl #[]) := by show upd _ a _ P2 = _; rw [upd_ne ma, upd_ne mc]; exact hu
  have ho : okZ Z H1 := fun b hb => by
    rcases hb with rfl | rfl | rfl | rfl
    · exact ⟨_, upd_same, rfl⟩
    · exact ⟨_, hc1, rfl⟩
    · exact ⟨_, ht1, rfl⟩
    · exact ⟨_, hu1, rfl⟩
  have hm : Mem Z H1 ((P1, .str q1) :: (P2, .str q2) :: spr a c cs 0 0 7) := by
    refine ⟨fun x hx => ?_, ?_⟩
    · rcases List.mem_cons.mp hx with rfl | hx
      · exact ⟨.inr (.inr (.inl rfl)), .tbl ht1 True.intro fun pos cv h => by
          have z : codeAmong pos [] = some cv := h
          simp [codeAmong] at z⟩
      · rcases List.mem_cons.mp hx with rfl | hx
        · exact ⟨.inr (.inr (.inr rfl)), .tbl hu1 True.intro fun pos cv h => by
            have z : codeAmong pos [] = some cv := h
            simp [codeAmong] at z⟩
        rcases List.mem_cons.mp hx with rfl | hx
        · exact ⟨.inl rfl, .lst upd_same (.cons (.ptr c) (.cons (.int 0) (.cons (.int 0) (.cons (.int 7) .nil))))⟩
        · have := List.mem_singleton.mp hx
          subst this
          exact ⟨.inr (.inl rfl), .lst hc1 (reps_int _ _ cs)⟩
    · simp [spr]; exact ⟨⟨h12, na, nc⟩, ⟨ma, mc⟩, ne⟩
  have hsr : SRep Z H1 (some (.ref p) :: some (.ref a) :: List.replicate m none) (none :: some (.ptr a) :: List.replicate m none) := by
    refine ⟨by simp, fun i d hi => ?_⟩
    match i, hi with
    | 0, hi => cases hi
    | 1, hi => cases hi; exact ⟨_, rfl, .ptr a⟩
    | i + 2, hi =>
      have h2 : (List.replicate m (none : Option Du.D))[i]? = some (some d) := hi
      rw [List.getElem?_replicate] at h2
      split at h2 <;> cases h2
  exact hg a c _ _ _ _ ho hsr hm (fun _ _ _ _ _ h => h.elim) fun v H' d μ' Z' e z r => by subst e; cases r; exact hq H'
abbrev s_law : Stmt := top 31
abbrev n_law : List Str := ["_law_script", "_law_spring_here", "_law_turn", "_law_names_here", "_law_say", "_law_name"]
theorem sc_law : FnScope n_law ["_law_script"] (defScope s_law) := ⟨rfl, rfl, rfl, by decide +kernel, rfl, by decide +kernel, by decide +kernel⟩

theorem ok_law {f P1 P2 : Addr} {fd : FuncData} (F : Fun K "law" "law" s_law f fd) (T : Tx K mg C) (o_xor : OBin P w K mg base 4 C .BitXor (spP (ROp C (fun a b => !eqD (.bl a) (.bl b))))) (s_test : OSm P w K mg base 3 C "test" (spP (RTest C)))
    (c_law_spring : C8.Cal P w K mg base 1 "_law_spring" (spSpring K) []) (c_law_draw : C8.Cal P w K mg base 1 "_law_draw" (spM RDraw) []) (c_law_names : C8.Cal P w K mg base 2 "_law_names" (spM RNames) []) (c_law_same : C8.Cal P w K mg base 6 "_law_same" (spP (RSameD 5)) [])
    (c_law_names_right : C8.Cal P w K mg base 10 "_law_names_right" (spM (RNamesR C P1 P2)) []) (c_law_terms_right : C8.Cal P w K mg base 10 "_law_terms_right" (spM (RTermsR P1 P2)) []) (c_Say_tests : C8.Met P w K mg base 1 C "tests" (spNw (RTests C)) []) : FnOk P w K mg base CX0 12 f fd ["_law_script"] (spLawT2 K P1 P2) := by
  refine F.ok sc_law (fun vs H Q E h => ?_) (fun cdv A outer s H vs Q E hr h => ?_)
  · obtain ⟨p, cs, rfl, _⟩ := h; rfl
  · obtain ⟨p, cs, rfl, hp, ht, hu, h12, q⟩ := h
    refine ⟨_, (pss_cons (ps_set (i := 1) sc_law.nd rfl (by first | exact Or.inl rfl | exact Or.inr rfl) (C8.pe_c c_law_spring hr (by omega) rfl (pa_cons (pv 0) pa_nil))) (pss_cons (ps_for PassesOwn.never rfl (pi_range1 (by rfl) T.range (pa_cons pe_int pa_nil)) (pg_name (i := 2) sc_law.nd rfl (by first | exact Or.inl rfl | exact Or.inr rfl)) (pss_cons (ps_set (i := 3) sc_law.nd rfl (by first | exact Or.inl rfl | exact Or.inr rfl) (C8.pe_c c_law_names hr (by omega) rfl (pa_cons (pv 1) (pa_cons (pe_op (k_addU (K := K) rfl) pe_int (C8.pe_c c_law_draw hr (by omega) rfl (pa_cons (pv 1) (pa_cons pe_int pa_nil)))) pa_nil)))) (pss_cons (ps_set (i := 4) sc_law.nd rfl (by first | exact Or.inl rfl | exact Or.inr rfl) (k_sm s_test hr (by omega) (pe_glob (v := .ref _) rfl T.g_Say rfl) (pa_cons (pe_ix (k_ix (K := K) rfl) (pv 3) pe_int (fun _ _ => rfl)) pa_nil))) (pss_cons (ps_for PassesOwn.never rfl (k_seq (K := K) rfl (pe_slice (k_sl (K := K) rfl) (pv 3) (po_some pe_int) po_none)) (pg_name (i := 5) sc_law.nd rfl (by first | exact Or.inl rfl | exact Or.inr rfl)) (pss_one (ps_set (i := 4) sc_law.nd rfl (by first | exact Or.inl rfl | exact Or.inr rfl) (pe_op (k_bin o_xor hr (by omega)) (pv 4) (k_sm s_test hr (by omega) (pe_glob (v := .ref _) rfl T.g_Say rfl) (pa_cons (pv 5) pa_nil)))))) (pss_cons (ps_if (PW.pt (pw_or (pt_not (pt_val (C8.pe_c c_law_names_right hr (by omega) rfl (pa_cons (pv 1) (pa_cons (pv 4) (pa_cons (pv 3) pa_nil)))))) (pw_or1 (pt_not (pt_val (C8.pe_c c_law_terms_right hr (by omega) rfl (pa_cons (pv 1) (pa_cons (pv 3) pa_nil)))))))) (pss_one (ps_ret pe_bl)) pss_nil) (pss_one (ps_if (pt_not (pt_val (C8.pe_c c_law_same hr (by omega) rfl (pa_cons (C8.pe_mt0 c_Say_tests hr (by omega) (pv 4)) (pa_cons (pe_callB (k_sortedS (K := K) rfl) (by rfl) T.sorted (by decide +kernel) (pa_cons (pe_lc (own := [("_law_name", 5)]) rfl sc_law.nd (k_seq (K := K) rfl (pv 3)) (blkOk_by (own := [("_law_name", 5)]) (N := n_law) (sc := defScope s_law) (by decide +kernel)) (fun _ _ _ _ _ => (pg_name (i := 5) sc_law.nd rfl (by first | exact Or.inl rfl | exact Or.inr rfl))) (fun _ _ _ _ _ => pts_nil) (fun _ _ _ _ _ => (pe_callTy SkE.call_str_str (by rfl) T.str (by decide +kernel) (pa_cons (pv 5) pa_nil)))) pa_nil)) pa_nil))))) (pss_one (ps_ret pe_bl)) pss_nil))))))) (pss_one (ps_ret pe_bl)))), ?_⟩
    refine law_startT2 (m := 4) (q1 := qLam1) (q2 := qLam2) hp ht hu h12 q fun a c => ?_
    have evC : ∀ {ρ : Rho}, Ev (tC (.ref C)) ρ (.ptr C) := fun {ρ} _ _ H _ _ _ q => q _ H (Ex.rf H) (.ptr C)
    refine gs_seq (gs_for (fun i ρ' μ' => ρ' = [none, some (.ptr a), none, none, none, none] ∧ SpT P1 P2 qLam1 qLam2 a c (i * 100) μ') (ei_range1 (n := 4) (ev_cons ev_int ev_nil) (by decide)) (Lq.rf _) ⟨rfl, _, rfl, cs, 0, 0, 7, rfl, by decide, by decide, by decide, by decide, by decide⟩ ?_ ?_)
    · rintro i d ρi μ1 hd ⟨rfl, hs⟩
      have hi : i < 4 := by have := (List.getElem?_eq_some_iff.mp hd).1; simpa using this
      refine ⟨_, ga_name, ?_⟩
      obtain ⟨μs, rfl, hss⟩ := hs
      refine gs_seq (gs_asg (ge_callL (gea_cons (ge_ev (ev_var rfl) (gea_cons (ge_op (ge_ev ev_int (ge_callL (gea_ev (ev_cons (ev_var rfl) (ev_cons ev_int ev_nil)) ⟨[(P1, .str qLam1), (P2, .str qLam2)], μs, rfl, a, c, i * 100, 4, rfl, hss, by omega, by decide, by decide, fun μ2 k hs2 hk => ⟨_, rd_addI, gea_nil ⟨[(P1, .str qLam1), (P2, .str qLam2)], μ2, rfl, a, c, i * 100 + 1, 1 + k, by simp, hs2, by omega, by omega, fun μ3 ns hs3 hlen nd hmenu => ?_⟩⟩⟩)))))))))
      have hok : ∀ n ∈ ns, nmOk n = true := fun n hn => (menu_ok n (hmenu n hn)).1
      have ho : okS ns := fun n hn => (menu_ok n (hmenu n hn)).2
      have hl : ns.length ≤ 4 := by omega
      have h0 : 0 < ns.length := by omega
      have hs4 : SpT P1 P2 qLam1 qLam2 a c (i * 100 + 10) ([(P1, .str qLam1), (P2, .str qLam2)] ++ μ3) := ⟨μ3, rfl, hs3.up (by omega)⟩
      show GS _ _ ([(P1, Du.D.str qLam1), (P2, Du.D.str qLam2)] ++ μ3) _ _
      generalize [(P1, Du.D.str qLam1), (P2, Du.D.str qLam2)] ++ μ3 = μ4 at *
      have hfst := hs4.fst
      refine gs_seq (gs_st (st_asg (d := SayD C [ns[0]] [[ns[0]]]) (ev_sm evC (ev_cons (ev_op (ev_var rfl) ev_int (rd_ixL (i := 0) (d := .str ns[0]) (by rw [List.getElem?_map, List.getElem?_eq_getElem h0]; rfl))) ev_nil) ⟨ns[0], rfl, hok _ (List.getElem_mem h0), rfl⟩) ga_name) ?_)
      have wfT : ∀ n ∈ ns, wf [n] [[n]] := fun n hn => ⟨by simp, fun x hx => by rw [List.mem_singleton.mp hx]; exact ho n hn, fun p hp => by rw [List.mem_singleton.mp hp]; exact fun x hx => by rw [List.mem_singleton.mp hx]; exact ho n hn, by simp⟩
      have atT : ∀ (n : Str) (row : List Str), atS [n] [[n]] row = decide (n ∈ row) := fun n row => by
        unfold atS
        by_cases h : n ∈ row <;> simp [h]
      refine gs_seq (gs_for (fun j ρ' μ' => μ' = μ4 ∧ ∃ nn ps, ρ' = [none, some (.ptr a), none, some (lS ns), some (SayD C nn ps), none] ∧ wf nn ps ∧ SS nn ∧ (∀ x ∈ nn, x ∈ ns.take (j + 1)) ∧ ∀ row, atS nn ps row = par (ns.take (j + 1)) row) (ds := (ns.drop 1).map Du.D.str) (by
        rw [List.map_drop]
        exact ei_seqL (ev_cut1 (n := 1) (ev_var rfl) (eo_some ev_int) eo_none (by simp; omega))) (.keep (.keep (.skip (.keep (.keep (.skip .nil)))))) ⟨rfl, [ns[0]], [[ns[0]]], rfl, wfT _ (List.getElem_mem h0), ⟨by simp, by simp⟩, ?_, ?_⟩ ?_ ?_)
      · intro x hx
        rw [List.mem_singleton.mp hx]
        cases ns with
        | nil => simp at h0
        | cons n ns => simp
      · intro row
        rw [atT]
        cases ns with
        | nil => simp at h0
        | cons n ns =>
          simp only [Nat.zero_add, List.take_succ_cons, List.take_zero, List.getElem_cons_zero]
          unfold par
          by_cases h : n ∈ row <;> simp [h]
      · rintro j d ρj μj hd ⟨rfl, nn, ps, rfl, hw, hss', hsub, hden⟩
        rw [List.getElem?_map] at hd
        obtain ⟨n, hn', rfl⟩ := Option.map_eq_some_iff.mp hd
        rw [List.getElem?_drop] at hn'
        have hnm : n ∈ ns := List.mem_of_getElem? hn'
        have htk : ns.take (j + 1 + 1) = ns.take (j + 1) ++ [n] := by rw [List.take_add_one, show j + 1 = 1 + j from by omega, hn']; rfl
        have hnl : nn.length ≤ 4 := by
          have h1 : nn.Sublist (srt ns) := hss'.sublist (srt_SS nd) fun x hx => srt_mem.mpr (List.mem_of_mem_take (hsub x hx))
          have h2 := h1.length_le
          rw [(srt_perm ns).length_eq] at h2; omega
        refine ⟨_, ga_name, gs_st (st_asg (d := opD C (fun a b => !eqD (.bl a) (.bl b)) nn ps [n] [[n]]) (ev_op (ev_var rfl) (ev_sm evC (ev_cons (ev_var rfl) ev_nil) ⟨n, rfl, hok n hnm, rfl⟩) (rd_bin ⟨nn, ps, [n], [[n]], rfl, hw, wfT n hnm, by simp; omega, rfl⟩)) ga_name) ⟨_, .keep (.keep (.skip (.keep (.keep (.skip .nil))))), rfl, _, _, rfl, said_wf (by simp; omega) (okS_app hw.2.1 (wfT n hnm).2.1), (said_canon _ _).ss, ?_, ?_⟩⟩
        · intro x hx
          rw [htk]
          have := uniq_mem.mp ((sN_sub _ _).subset hx)
          rcases List.mem_append.mp this with h | h
          · exact List.mem_append_left _ (hsub x h)
          · exact List.mem_append_right _ h
        · intro row
          rw [op_den, hden, atT, htk, par_app]
      · rintro ρ' μ' ⟨rfl, nn, ps, rfl, hw, hss', hsub, hden⟩
        have elen : ((ns.drop 1).map Du.D.str).length + 1 = ns.length := by simp; omega
        rw [elen, List.take_length] at hsub hden
        have hnn : nn = srt ns := par_names hss' nd hsub hden
        refine gs_seq (gs_if (gt_or (gt_not (gt_B (ge_callA (gea_ev (ev_cons (ev_var rfl) (ev_cons (ev_var rfl) (ev_cons (ev_var rfl) ev_nil))) ⟨a, c, i * 100 + 10, nn, ps, ns, rfl, h0, hl, hok, hs4, by omega, fun μ5 hs5 => ⟨true, rfl, ?_⟩⟩))))))
        show GT _ _ _ _
        refine gt_not (gt_B (ge_callA (gea_ev (ev_cons (ev_var rfl) (ev_cons (ev_var rfl) ev_nil)) ⟨a, c, i * 100 + 10 + 20, ns, rfl, h0, hl, nd, hok, ho, hs5, by omega, fun μ6 hs6 => ⟨true, rfl, ?_⟩⟩)))
        refine gs_next ?_
        refine gs_st (st_if (b := false) (et_not (b := true) (et_B (ev_call (ev_cons (ev_methN (es := (srt ns).map Du.D.str) (ev_var rfl) rfl ev_nil ⟨nn, ps, rfl, by rw [hnn]⟩) (ev_cons (ev_cb (ev_cons (ev_lc1 (φ := Du.D.str) (fe := Du.D.str) (ei_seqL (ev_var rfl)) (by omega) fun r hr => ⟨_, gw_name (by simp), ev_cb (ev_cons (ev_var rfl) ev_nil) rl_str⟩) ev_nil) (rl_sorted (by omega))) ev_nil)) ⟨_, rfl, sm_strs (fun x hx => ho x (srt_mem.mp hx)) (by rw [(srt_perm ns).length_eq]; omega), rfl⟩))) (fun h => by cases h) fun _ => st_next) ⟨_, .skip (.keep (.skip (.skip (.skip (.skip .nil))))), rfl, hs6.up (by omega)⟩
    · rintro ρ' μ' ⟨rfl, _⟩
      exact gs_ret (ge_ev ev_bl rfl)
end
end Du
namespace Du
open PySem L2
theorem exm_of {K : PySem.W.Frag} {cls : Value} {S : Addr} {b : Bool} (h1 : PySem.W.subIn K (.ref S) (.type "BaseException") = some true) (h2 : PySem.W.isClsIn K S = true) (h3 : PySem.W.typeIn K (.ref S) = some (.type "type")) (h4 : PySem.W.subIn K cls (.ref S) = some b) : PySem.W.exmOne K cls (.ref S) = some b := by
  have h2' : (PySem.W.clsIn K S).isSome = true := h2
  unfold PySem.W.exmOne PySem.W.kitCls
  simp only [h1, h2', h3, h4, beq_self_eq_true, Bool.and_self, if_true]
theorem fnR_of {P : Program} {w : World} {K : PySem.W.Frag} {mg : Str → Option Value} {base : Heap} {k : Nat} {f : Addr} {fd : FuncData} {ps : List Str} {sp : Sp} (F : FnOk P w K mg base CX0 k f fd ps sp) (b : Binds K fd ps []) : FnR P w K mg base CX0 k f sp := by
  have := F.raw b .nil
  simpa only [List.append_nil] using this
theorem all_mk {l : PySem.W.OpenLaw} {w : World} {K : PySem.W.Frag} {h : Heap} {mg : Str → Option Value} {fa C : Addr} {tL tM : Tok} (X : K.In h) (G : h.Ns mainGlobals mg) (hfa : mg "law" = some (.ref fa))
    {oc1 kV1 dc1 pm1 cd1 ct1 : Value} {od1 an1 : Option Addr} {sl1 : Array (Option Value)} {f1 : Addr}
    {oc2 kV2 dc2 pm2 cd2 ct2 : Value} {od2 an2 : Option Addr} {sl2 : Array (Option Value)} {f2 : Addr}
    {oc3 kV3 dc3 pm3 cd3 ct3 : Value} {od3 an3 : Option Addr} {sl3 : Array (Option Value)} {f3 : Addr}
    {oc4 kV4 dc4 pm4 cd4 ct4 : Value} {od4 an4 : Option Addr} {sl4 : Array (Option Value)} {f4 : Addr}
    {oc5 kV5 dc5 pm5 cd5 ct5 : Value} {od5 an5 : Option Addr} {sl5 : Array (Option Value)} {f5 : Addr}
    {oc6 kV6 dc6 pm6 cd6 ct6 : Value} {od6 an6 : Option Addr} {sl6 : Array (Option Value)} {f6 : Addr}
    {oc7 kV7 dc7 pm7 cd7 ct7 : Value} {od7 an7 : Option Addr} {sl7 : Array (Option Value)} {f7 : Addr}
    {oc8 kV8 dc8 pm8 cd8 ct8 : Value} {od8 an8 : Option Addr} {sl8 : Array (Option Value)} {f8 : Addr}
    {p8 : Addr} {r8 : List Value}
    {oc11 kV11 dc11 pm11 cd11 ct11 : Value} {od11 an11 : Option Addr} {sl11 : Array (Option Value)} {f11 : Addr}
    {oc12 kV12 dc12 pm12 cd12 ct12 : Value} {od12 an12 : Option Addr} {sl12 : Array (Option Value)} {f12 : Addr}
    {oc13 kV13 dc13 pm13 cd13 ct13 : Value} {od13 an13 : Option Addr} {sl13 : Array (Option Value)} {f13 : Addr}
    {oc14 kV14 dc14 pm14 cd14 ct14 : Value} {od14 an14 : Option Addr} {sl14 : Array (Option Value)} {f14 : Addr}
    {oc15 kV15 dc15 pm15 cd15 ct15 : Value} {od15 an15 : Option Addr} {sl15 : Array (Option Value)} {f15 : Addr}
    {oc16 kV16 dc16 pm16 cd16 ct16 : Value} {od16 an16 : Option Addr} {sl16 : Array (Option Value)} {f16 : Addr}
    {oc17 kV17 dc17 pm17 cd17 ct17 : Value} {od17 an17 : Option Addr} {sl17 : Array (Option Value)} {f17 : Addr}
    {oc18 kV18 dc18 pm18 cd18 ct18 : Value} {od18 an18 : Option Addr} {sl18 : Array (Option Value)} {f18 : Addr}
    {oc19 kV19 dc19 pm19 cd19 ct19 : Value} {od19 an19 : Option Addr} {sl19 : Array (Option Value)} {f19 : Addr}
    {oc20 kV20 dc20 pm20 cd20 ct20 : Value} {od20 an20 : Option Addr} {sl20 : Array (Option Value)} {f20 : Addr}
    {p20 : Addr} {r20 : List Value}
    {oc21 kV21 dc21 pm21 cd21 ct21 : Value} {od21 an21 : Option Addr} {sl21 : Array (Option Value)} {f21 : Addr}
    {oc22 kV22 dc22 pm22 cd22 ct22 : Value} {od22 an22 : Option Addr} {sl22 : Array (Option Value)} {f22 : Addr}
    {oc23 kV23 dc23 pm23 cd23 ct23 : Value} {od23 an23 : Option Addr} {sl23 : Array (Option Value)} {f23 : Addr}
    {oc24 kV24 dc24 pm24 cd24 ct24 : Value} {od24 an24 : Option Addr} {sl24 : Array (Option Value)} {f24 : Addr}
    {oc25 kV25 dc25 pm25 cd25 ct25 : Value} {od25 an25 : Option Addr} {sl25 : Array (Option Value)} {f25 : Addr}
    {oc26 kV26 dc26 pm26 cd26 ct26 : Value} {od26 an26 : Option Addr} {sl26 : Array (Option Value)} {f26 : Addr}
    {oc27 kV27 dc27 pm27 cd27 ct27 : Value} {od27 an27 : Option Addr} {sl27 : Array (Option Value)} {f27 : Addr}
    {oc28 kV28 dc28 pm28 cd28 ct28 : Value} {od28 an28 : Option Addr} {sl28 : Array (Option Value)} {f28 : Addr}
    {oc29 kV29 dc29 pm29 cd29 ct29 : Value} {od29 an29 : Option Addr} {sl29 : Array (Option Value)} {f29 : Addr}
    {oc30 kV30 dc30 pm30 cd30 ct30 : Value} {od30 an30 : Option Addr} {sl30 : Array (Option Value)} {f30 : Addr}
    {oc31 kV31 dc31 pm31 cd31 ct31 : Value} {od31 an31 : Option Addr} {sl31 : Array (Option Value)} {f31 : Addr}
    {oc32 kV32 dc32 pm32 cd32 ct32 : Value} {od32 an32 : Option Addr} {sl32 : Array (Option Value)} {f32 : Addr}
    {oc33 kV33 dc33 pm33 cd33 ct33 : Value} {od33 an33 : Option Addr} {sl33 : Array (Option Value)} {f33 : Addr}
    {oc34 kV34 dc34 pm34 cd34 ct34 : Value} {od34 an34 : Option Addr} {sl34 : Array (Option Value)} {f34 : Addr}
    {oc35 kV35 dc35 pm35 cd35 ct35 : Value} {od35 an35 : Option Addr} {sl35 : Array (Option Value)} {f35 : Addr}
    {oc36 kV36 dc36 pm36 cd36 ct36 : Value} {od36 an36 : Option Addr} {sl36 : Array (Option Value)} {f36 : Addr}
    {CN CT CE DE cT1 P1 cT2 P2 : Addr}
    {nmEn qEn : Str} {NEn : Addr} {bsEn : List Value} {snEn : List Str} {subEn : List Value} {abEn : Bool} {colEn : Option Bool} {ddEn : Option Addr} {mEn0 mEn1 mEn2 mEn3 mEn5 : Option Value}
    {nmEt qEt : Str} {NEt : Addr} {bsEt : List Value} {snEt : List Str} {subEt : List Value} {abEt : Bool} {colEt : Option Bool} {ddEt : Option Addr} {mEt0 mEt1 mEt2 mEt3 mEt5 : Option Value}
    {nmEe qEe : Str} {NEe : Addr} {bsEe : List Value} {snEe : List Str} {subEe : List Value} {abEe : Bool} {colEe : Option Bool} {ddEe : Option Addr} {mEe0 mEe1 mEe2 mEe3 mEe5 : Option Value}
    (a1 : PySem.W.nsIn K mainGlobals "is_name" = some (some (.ref f1)))
    (l1 : K.lookup f1 = some ⟨oc1, od1, .func (PySem.W.fnOf "is_name" "is_name" (defArgs s_is_name) (defBody s_is_name) (defScope s_is_name) .none kV1 dc1 pm1 an1 cd1 ct1), sl1⟩)
    (c1 : PySem.W.codeIn K cd1 "is_name" = true)
    (k1 : PySem.W.keepIn K (.ref f1) = true)
    (a2 : PySem.W.nsIn K mainGlobals "choices_of" = some (some (.ref f2)))
    (l2 : K.lookup f2 = some ⟨oc2, od2, .func (PySem.W.fnOf "choices_of" "choices_of" (defArgs s_choices_of) (defBody s_choices_of) (defScope s_choices_of) .none kV2 dc2 pm2 an2 cd2 ct2), sl2⟩)
    (c2 : PySem.W.codeIn K cd2 "choices_of" = true)
    (k2 : PySem.W.keepIn K (.ref f2) = true)
    (a3 : PySem.W.nsIn K mainGlobals "check_name" = some (some (.ref f3)))
    (l3 : K.lookup f3 = some ⟨oc3, od3, .func (PySem.W.fnOf "check_name" "check_name" (defArgs s_check_name) (defBody s_check_name) (defScope s_check_name) .none kV3 dc3 pm3 an3 cd3 ct3), sl3⟩)
    (c3 : PySem.W.codeIn K cd3 "check_name" = true)
    (k3 : PySem.W.keepIn K (.ref f3) = true)
    (a4 : PySem.W.nsIn K mainGlobals "set_to" = some (some (.ref f4)))
    (l4 : K.lookup f4 = some ⟨oc4, od4, .func (PySem.W.fnOf "set_to" "set_to" (defArgs s_set_to) (defBody s_set_to) (defScope s_set_to) .none kV4 dc4 pm4 an4 cd4 ct4), sl4⟩)
    (c4 : PySem.W.codeIn K cd4 "set_to" = true)
    (k4 : PySem.W.keepIn K (.ref f4) = true)
    (a5 : PySem.W.nsIn K mainGlobals "said_at" = some (some (.ref f5)))
    (l5 : K.lookup f5 = some ⟨oc5, od5, .func (PySem.W.fnOf "said_at" "said_at" (defArgs s_said_at) (defBody s_said_at) (defScope s_said_at) .none kV5 dc5 pm5 an5 cd5 ct5), sl5⟩)
    (c5 : PySem.W.codeIn K cd5 "said_at" = true)
    (k5 : PySem.W.keepIn K (.ref f5) = true)
    (a6 : PySem.W.nsIn K mainGlobals "choices_over" = some (some (.ref f6)))
    (l6 : K.lookup f6 = some ⟨oc6, od6, .func (PySem.W.fnOf "choices_over" "choices_over" (defArgs s_choices_over) (defBody s_choices_over) (defScope s_choices_over) .none kV6 dc6 pm6 an6 cd6 ct6), sl6⟩)
    (c6 : PySem.W.codeIn K cd6 "choices_over" = true)
    (k6 : PySem.W.keepIn K (.ref f6) = true)
    (a7 : PySem.W.findIn K (.ref C) "__init__" = some (some (.ref f7)))
    (i7 : PySem.W.isFn K (.ref f7) = true)
    (l7 : K.lookup f7 = some ⟨oc7, od7, .func (PySem.W.fnOf "__init__" "Say.__init__" (defArgs s_Say_init) (defBody s_Say_init) (defScope s_Say_init) .none kV7 dc7 pm7 an7 cd7 ct7), sl7⟩)
    (c7 : PySem.W.codeIn K cd7 "Say.__init__" = true)
    (k7 : PySem.W.keepIn K (.ref f7) = true)
    (a8 : PySem.W.findCls K (.ref C) (.type "type") "test" = some (.get (.builtin "staticmethod.__get__") (.ref p8) .none (.ref C)))
    (i8 : PySem.W.recIn K p8 "staticmethod" = some (.ref f8 :: r8))
    (l8 : K.lookup f8 = some ⟨oc8, od8, .func (PySem.W.fnOf "test" "Say.test" (defArgs s_Say_test) (defBody s_Say_test) (defScope s_Say_test) .none kV8 dc8 pm8 an8 cd8 ct8), sl8⟩)
    (c8 : PySem.W.codeIn K cd8 "Say.test" = true)
    (k8 : PySem.W.keepIn K (.ref f8) = true)
    (a11 : PySem.W.findIn K (.ref C) "at" = some (some (.ref f11)))
    (i11 : PySem.W.isFn K (.ref f11) = true)
    (l11 : K.lookup f11 = some ⟨oc11, od11, .func (PySem.W.fnOf "at" "Say.at" (defArgs s_Say_at) (defBody s_Say_at) (defScope s_Say_at) .none kV11 dc11 pm11 an11 cd11 ct11), sl11⟩)
    (c11 : PySem.W.codeIn K cd11 "Say.at" = true)
    (k11 : PySem.W.keepIn K (.ref f11) = true)
    (a12 : PySem.W.findIn K (.ref C) "holds" = some (some (.ref f12)))
    (i12 : PySem.W.isFn K (.ref f12) = true)
    (l12 : K.lookup f12 = some ⟨oc12, od12, .func (PySem.W.fnOf "holds" "Say.holds" (defArgs s_Say_holds) (defBody s_Say_holds) (defScope s_Say_holds) .none kV12 dc12 pm12 an12 cd12 ct12), sl12⟩)
    (c12 : PySem.W.codeIn K cd12 "Say.holds" = true)
    (k12 : PySem.W.keepIn K (.ref f12) = true)
    (a13 : PySem.W.findIn K (.ref C) "__and__" = some (some (.ref f13)))
    (i13 : PySem.W.isFn K (.ref f13) = true)
    (l13 : K.lookup f13 = some ⟨oc13, od13, .func (PySem.W.fnOf "__and__" "Say.__and__" (defArgs s_Say_and) (defBody s_Say_and) (defScope s_Say_and) .none kV13 dc13 pm13 an13 cd13 ct13), sl13⟩)
    (c13 : PySem.W.codeIn K cd13 "Say.__and__" = true)
    (k13 : PySem.W.keepIn K (.ref f13) = true)
    (a14 : PySem.W.findIn K (.ref C) "__or__" = some (some (.ref f14)))
    (i14 : PySem.W.isFn K (.ref f14) = true)
    (l14 : K.lookup f14 = some ⟨oc14, od14, .func (PySem.W.fnOf "__or__" "Say.__or__" (defArgs s_Say_or) (defBody s_Say_or) (defScope s_Say_or) .none kV14 dc14 pm14 an14 cd14 ct14), sl14⟩)
    (c14 : PySem.W.codeIn K cd14 "Say.__or__" = true)
    (k14 : PySem.W.keepIn K (.ref f14) = true)
    (a15 : PySem.W.findIn K (.ref C) "__xor__" = some (some (.ref f15)))
    (i15 : PySem.W.isFn K (.ref f15) = true)
    (l15 : K.lookup f15 = some ⟨oc15, od15, .func (PySem.W.fnOf "__xor__" "Say.__xor__" (defArgs s_Say_xor) (defBody s_Say_xor) (defScope s_Say_xor) .none kV15 dc15 pm15 an15 cd15 ct15), sl15⟩)
    (c15 : PySem.W.codeIn K cd15 "Say.__xor__" = true)
    (k15 : PySem.W.keepIn K (.ref f15) = true)
    (a16 : PySem.W.nsIn K mainGlobals "is_list" = some (some (.ref f16)))
    (l16 : K.lookup f16 = some ⟨oc16, od16, .func (PySem.W.fnOf "is_list" "is_list" (defArgs s_is_list) (defBody s_is_list) (defScope s_is_list) .none kV16 dc16 pm16 an16 cd16 ct16), sl16⟩)
    (c16 : PySem.W.codeIn K cd16 "is_list" = true)
    (k16 : PySem.W.keepIn K (.ref f16) = true)
    (a17 : PySem.W.nsIn K mainGlobals "are_unlike_names" = some (some (.ref f17)))
    (l17 : K.lookup f17 = some ⟨oc17, od17, .func (PySem.W.fnOf "are_unlike_names" "are_unlike_names" (defArgs s_are_unlike_names) (defBody s_are_unlike_names) (defScope s_are_unlike_names) .none kV17 dc17 pm17 an17 cd17 ct17), sl17⟩)
    (c17 : PySem.W.codeIn K cd17 "are_unlike_names" = true)
    (k17 : PySem.W.keepIn K (.ref f17) = true)
    (a18 : PySem.W.nsIn K mainGlobals "is_term" = some (some (.ref f18)))
    (l18 : K.lookup f18 = some ⟨oc18, od18, .func (PySem.W.fnOf "is_term" "is_term" (defArgs s_is_term) (defBody s_is_term) (defScope s_is_term) .none kV18 dc18 pm18 an18 cd18 ct18), sl18⟩)
    (c18 : PySem.W.codeIn K cd18 "is_term" = true)
    (k18 : PySem.W.keepIn K (.ref f18) = true)
    (a19 : PySem.W.nsIn K mainGlobals "is_true_at" = some (some (.ref f19)))
    (l19 : K.lookup f19 = some ⟨oc19, od19, .func (PySem.W.fnOf "is_true_at" "is_true_at" (defArgs s_is_true_at) (defBody s_is_true_at) (defScope s_is_true_at) .none kV19 dc19 pm19 an19 cd19 ct19), sl19⟩)
    (c19 : PySem.W.codeIn K cd19 "is_true_at" = true)
    (k19 : PySem.W.keepIn K (.ref f19) = true)
    (a20 : PySem.W.findCls K (.ref C) (.type "type") "of_terms" = some (.get (.builtin "staticmethod.__get__") (.ref p20) .none (.ref C)))
    (i20 : PySem.W.recIn K p20 "staticmethod" = some (.ref f20 :: r20))
    (l20 : K.lookup f20 = some ⟨oc20, od20, .func (PySem.W.fnOf "of_terms" "Say.of_terms" (defArgs s_Say_of_terms) (defBody s_Say_of_terms) (defScope s_Say_of_terms) .none kV20 dc20 pm20 an20 cd20 ct20), sl20⟩)
    (c20 : PySem.W.codeIn K cd20 "Say.of_terms" = true)
    (k20 : PySem.W.keepIn K (.ref f20) = true)
    (a21 : PySem.W.findIn K (.ref C) "tests" = some (some (.ref f21)))
    (i21 : PySem.W.isFn K (.ref f21) = true)
    (l21 : K.lookup f21 = some ⟨oc21, od21, .func (PySem.W.fnOf "tests" "Say.tests" (defArgs s_Say_tests) (defBody s_Say_tests) (defScope s_Say_tests) .none kV21 dc21 pm21 an21 cd21 ct21), sl21⟩)
    (c21 : PySem.W.codeIn K cd21 "Say.tests" = true)
    (k21 : PySem.W.keepIn K (.ref f21) = true)
    (a22 : PySem.W.findIn K (.ref C) "given" = some (some (.ref f22)))
    (i22 : PySem.W.isFn K (.ref f22) = true)
    (l22 : K.lookup f22 = some ⟨oc22, od22, .func (PySem.W.fnOf "given" "Say.given" (defArgs s_Say_given) (defBody s_Say_given) (defScope s_Say_given) .none kV22 dc22 pm22 an22 cd22 ct22), sl22⟩)
    (c22 : PySem.W.codeIn K cd22 "Say.given" = true)
    (k22 : PySem.W.keepIn K (.ref f22) = true)
    (a23 : PySem.W.findIn K (.ref C) "some" = some (some (.ref f23)))
    (i23 : PySem.W.isFn K (.ref f23) = true)
    (l23 : K.lookup f23 = some ⟨oc23, od23, .func (PySem.W.fnOf "some" "Say.some" (defArgs s_Say_some) (defBody s_Say_some) (defScope s_Say_some) .none kV23 dc23 pm23 an23 cd23 ct23), sl23⟩)
    (c23 : PySem.W.codeIn K cd23 "Say.some" = true)
    (k23 : PySem.W.keepIn K (.ref f23) = true)
    (a24 : PySem.W.findIn K (.ref C) "every" = some (some (.ref f24)))
    (i24 : PySem.W.isFn K (.ref f24) = true)
    (l24 : K.lookup f24 = some ⟨oc24, od24, .func (PySem.W.fnOf "every" "Say.every" (defArgs s_Say_every) (defBody s_Say_every) (defScope s_Say_every) .none kV24 dc24 pm24 an24 cd24 ct24), sl24⟩)
    (c24 : PySem.W.codeIn K cd24 "Say.every" = true)
    (k24 : PySem.W.keepIn K (.ref f24) = true)
    (a25 : PySem.W.nsIn K mainGlobals "_law_spring" = some (some (.ref f25)))
    (l25 : K.lookup f25 = some ⟨oc25, od25, .func (PySem.W.fnOf "_law_spring" "_law_spring" (defArgs s_law_spring) (defBody s_law_spring) (defScope s_law_spring) .none kV25 dc25 pm25 an25 cd25 ct25), sl25⟩)
    (c25 : PySem.W.codeIn K cd25 "_law_spring" = true)
    (k25 : PySem.W.keepIn K (.ref f25) = true)
    (a26 : PySem.W.nsIn K mainGlobals "_law_draw" = some (some (.ref f26)))
    (l26 : K.lookup f26 = some ⟨oc26, od26, .func (PySem.W.fnOf "_law_draw" "_law_draw" (defArgs s_law_draw) (defBody s_law_draw) (defScope s_law_draw) .none kV26 dc26 pm26 an26 cd26 ct26), sl26⟩)
    (c26 : PySem.W.codeIn K cd26 "_law_draw" = true)
    (k26 : PySem.W.keepIn K (.ref f26) = true)
    (a27 : PySem.W.nsIn K mainGlobals "_law_pick" = some (some (.ref f27)))
    (l27 : K.lookup f27 = some ⟨oc27, od27, .func (PySem.W.fnOf "_law_pick" "_law_pick" (defArgs s_law_pick) (defBody s_law_pick) (defScope s_law_pick) .none kV27 dc27 pm27 an27 cd27 ct27), sl27⟩)
    (c27 : PySem.W.codeIn K cd27 "_law_pick" = true)
    (k27 : PySem.W.keepIn K (.ref f27) = true)
    (a28 : PySem.W.nsIn K mainGlobals "_law_same" = some (some (.ref f28)))
    (l28 : K.lookup f28 = some ⟨oc28, od28, .func (PySem.W.fnOf "_law_same" "_law_same" (defArgs s_law_same) (defBody s_law_same) (defScope s_law_same) .none kV28 dc28 pm28 an28 cd28 ct28), sl28⟩)
    (c28 : PySem.W.codeIn K cd28 "_law_same" = true)
    (k28 : PySem.W.keepIn K (.ref f28) = true)
    (a29 : PySem.W.nsIn K mainGlobals "_law_names" = some (some (.ref f29)))
    (l29 : K.lookup f29 = some ⟨oc29, od29, .func (PySem.W.fnOf "_law_names" "_law_names" (defArgs s_law_names) (defBody s_law_names) (defScope s_law_names) .none kV29 dc29 pm29 an29 cd29 ct29), sl29⟩)
    (c29 : PySem.W.codeIn K cd29 "_law_names" = true)
    (k29 : PySem.W.keepIn K (.ref f29) = true)
    (a30 : PySem.W.nsIn K mainGlobals "_law_tried" = some (some (.ref f30)))
    (l30 : K.lookup f30 = some ⟨oc30, od30, .func (PySem.W.fnOf "_law_tried" "_law_tried" (defArgs s_law_tried) (defBody s_law_tried) (defScope s_law_tried) .none kV30 dc30 pm30 an30 cd30 ct30), sl30⟩)
    (c30 : PySem.W.codeIn K cd30 "_law_tried" = true)
    (k30 : PySem.W.keepIn K (.ref f30) = true)
    (a31 : PySem.W.nsIn K mainGlobals "_law_names_right" = some (some (.ref f31)))
    (l31 : K.lookup f31 = some ⟨oc31, od31, .func (PySem.W.fnOf "_law_names_right" "_law_names_right" (defArgs s_law_names_right) (defBody s_law_names_right) (defScope s_law_names_right) .none kV31 dc31 pm31 an31 cd31 ct31), sl31⟩)
    (c31 : PySem.W.codeIn K cd31 "_law_names_right" = true)
    (k31 : PySem.W.keepIn K (.ref f31) = true)
    (a32 : PySem.W.nsIn K mainGlobals "_law_terms_right" = some (some (.ref f32)))
    (l32 : K.lookup f32 = some ⟨oc32, od32, .func (PySem.W.fnOf "_law_terms_right" "_law_terms_right" (defArgs s_law_terms_right) (defBody s_law_terms_right) (defScope s_law_terms_right) .none kV32 dc32 pm32 an32 cd32 ct32), sl32⟩)
    (c32 : PySem.W.codeIn K cd32 "_law_terms_right" = true)
    (k32 : PySem.W.keepIn K (.ref f32) = true)
    (a33 : PySem.W.nsIn K mainGlobals "law" = some (some (.ref f33)))
    (l33 : K.lookup f33 = some ⟨oc33, od33, .func (PySem.W.fnOf "law" "law" (defArgs s_law) (defBody s_law) (defScope s_law) .none kV33 dc33 pm33 an33 cd33 ct33), sl33⟩)
    (c33 : PySem.W.codeIn K cd33 "law" = true)
    (k33 : PySem.W.keepIn K (.ref f33) = true)
    (a34 : PySem.W.findIn K (.ref CN) "__init__" = some (some (.ref f34)))
    (i34 : PySem.W.isFn K (.ref f34) = true)
    (l34 : K.lookup f34 = some ⟨oc34, od34, .func (PySem.W.fnOf "__init__" "BadName.__init__" (defArgs s_BadName_init) (defBody s_BadName_init) (defScope s_BadName_init) .none kV34 dc34 pm34 an34 cd34 ct34), sl34⟩)
    (c34 : PySem.W.codeIn K cd34 "BadName.__init__" = true)
    (k34 : PySem.W.keepIn K (.ref f34) = true)
    (a35 : PySem.W.findIn K (.ref CT) "__init__" = some (some (.ref f35)))
    (i35 : PySem.W.isFn K (.ref f35) = true)
    (l35 : K.lookup f35 = some ⟨oc35, od35, .func (PySem.W.fnOf "__init__" "BadTruth.__init__" (defArgs s_BadTruth_init) (defBody s_BadTruth_init) (defScope s_BadTruth_init) .none kV35 dc35 pm35 an35 cd35 ct35), sl35⟩)
    (c35 : PySem.W.codeIn K cd35 "BadTruth.__init__" = true)
    (k35 : PySem.W.keepIn K (.ref f35) = true)
    (a36 : PySem.W.findIn K (.ref CE) "__init__" = some (some (.ref f36)))
    (i36 : PySem.W.isFn K (.ref f36) = true)
    (l36 : K.lookup f36 = some ⟨oc36, od36, .func (PySem.W.fnOf "__init__" "BadTerm.__init__" (defArgs s_BadTerm_init) (defBody s_BadTerm_init) (defScope s_BadTerm_init) .none kV36 dc36 pm36 an36 cd36 ct36), sl36⟩)
    (c36 : PySem.W.codeIn K cd36 "BadTerm.__init__" = true)
    (k36 : PySem.W.keepIn K (.ref f36) = true)
    (aC : PySem.W.nsIn K mainGlobals "Say" = some (some (.ref C)))
    (pg : PySem.W.plainGet K C Str.empty = true)
    (hd : PySem.W.hasDictIn K C = true)
    (po : PySem.W.plainOver K C = true)
    (sa : PySem.W.findIn K (.ref C) "__setattr__" = some (some (.builtin "object.__setattr__")))
    (mk : PySem.W.makesIn K C = true)
    (kc : PySem.W.keepIn K (.ref C) = true)
    (nN : PySem.W.findIn K (.ref C) "names" = some none)
    (nP : PySem.W.findIn K (.ref C) "points" = some none)
    (gL : PySem.W.nsIn K mainGlobals "LETTERS" = some (some (.str "abcdefghijklmnopqrstuvwxyz" tL)))
    (gM : PySem.W.nsIn K mainGlobals "LONGEST" = some (some (.int 8 tM)))
    (ic : PySem.W.findIn K (.ref C) "__class__" = some (some (.builtin "object.__class__")))
    (isg : PySem.W.specialIn K (.builtin "object.__class__") "__get__" = some (some (.builtin "getset_descriptor.__get__")))
    (itk : PySem.W.takesIn K (.builtin "object.__class__") = some true)
    (imr : PySem.W.mroIn K C (.type "object") = some true)
    (sf : PySem.W.selfFirst K C = true)
    (nf : PySem.W.notFirst K C (.ref C) = true)
    (ne : PySem.W.findIn K (.ref C) "__ne__" = some (some (.builtin "object.__ne__")))
    (so : PySem.W.subIn K (.ref C) (.type "object") = some true)
    (rd : PySem.W.readsIn K C (.type "type") = true)
    (rg : PySem.W.specialIn K (.ref C) "__getattribute__" = some (some (.builtin "type.__getattribute__")))
    (aDE : PySem.W.nsIn K mainGlobals "DeedError" = some (some (.ref DE)))
    (aEn : PySem.W.nsIn K mainGlobals "BadName" = some (some (.ref CN)))
    (xEn : K.lookup CN = some (excClassObj nmEn qEn CN NEn bsEn [.ref DE, .type "ValueError", .type "Exception", .type "BaseException", .type "object"] true snEn subEn abEn colEn ddEn mEn0 mEn1 mEn2 mEn3 mEn5 "ValueError.__new__"))
    (saEn : PySem.W.findIn K (.ref CN) "__setattr__" = some (some (.builtin "object.__setattr__")))
    (exEn : PySem.W.subIn K (.ref CN) (.type "BaseException") = some true)
    (tyEn : PySem.W.typeIn K (.ref CN) = some (.type "type"))
    (kcEn : PySem.W.keepIn K (.ref CN) = true)
    (clEn : PySem.W.isClsIn K CN = true)
    (tfEn : PySem.W.typeIn K (.ref f34) = some (.type "function"))
    (noEn : PySem.W.findIn K (.ref CN) "name" = some none)
    (gaEn : PySem.W.findIn K (.ref CN) "__getattribute__" = some (some (.builtin "BaseException.__getattribute__")))
    (ggEn : PySem.W.findIn K (.ref CN) "__getattr__" = some none)
    (hdEn : PySem.W.hasDictIn K CN = true)
    (aEt : PySem.W.nsIn K mainGlobals "BadTruth" = some (some (.ref CT)))
    (xEt : K.lookup CT = some (excClassObj nmEt qEt CT NEt bsEt [.ref DE, .type "ValueError", .type "Exception", .type "BaseException", .type "object"] true snEt subEt abEt colEt ddEt mEt0 mEt1 mEt2 mEt3 mEt5 "ValueError.__new__"))
    (saEt : PySem.W.findIn K (.ref CT) "__setattr__" = some (some (.builtin "object.__setattr__")))
    (exEt : PySem.W.subIn K (.ref CT) (.type "BaseException") = some true)
    (tyEt : PySem.W.typeIn K (.ref CT) = some (.type "type"))
    (kcEt : PySem.W.keepIn K (.ref CT) = true)
    (clEt : PySem.W.isClsIn K CT = true)
    (tfEt : PySem.W.typeIn K (.ref f35) = some (.type "function"))
    (noEt : PySem.W.findIn K (.ref CT) "thing" = some none)
    (gaEt : PySem.W.findIn K (.ref CT) "__getattribute__" = some (some (.builtin "BaseException.__getattribute__")))
    (ggEt : PySem.W.findIn K (.ref CT) "__getattr__" = some none)
    (hdEt : PySem.W.hasDictIn K CT = true)
    (aEe : PySem.W.nsIn K mainGlobals "BadTerm" = some (some (.ref CE)))
    (xEe : K.lookup CE = some (excClassObj nmEe qEe CE NEe bsEe [.ref DE, .type "ValueError", .type "Exception", .type "BaseException", .type "object"] true snEe subEe abEe colEe ddEe mEe0 mEe1 mEe2 mEe3 mEe5 "ValueError.__new__"))
    (saEe : PySem.W.findIn K (.ref CE) "__setattr__" = some (some (.builtin "object.__setattr__")))
    (exEe : PySem.W.subIn K (.ref CE) (.type "BaseException") = some true)
    (tyEe : PySem.W.typeIn K (.ref CE) = some (.type "type"))
    (kcEe : PySem.W.keepIn K (.ref CE) = true)
    (clEe : PySem.W.isClsIn K CE = true)
    (tfEe : PySem.W.typeIn K (.ref f36) = some (.type "function"))
    (noEe : PySem.W.findIn K (.ref CE) "index" = some none)
    (gaEe : PySem.W.findIn K (.ref CE) "__getattribute__" = some (some (.builtin "BaseException.__getattribute__")))
    (ggEe : PySem.W.findIn K (.ref CE) "__getattr__" = some none)
    (hdEe : PySem.W.hasDictIn K CE = true)
    (suNN : PySem.W.subIn K (.ref CN) (.ref CN) = some true)
    (suTN : PySem.W.subIn K (.ref CT) (.ref CN) = some false)
    (suTT : PySem.W.subIn K (.ref CT) (.ref CT) = some true)
    (suEN : PySem.W.subIn K (.ref CE) (.ref CN) = some false)
    (suET : PySem.W.subIn K (.ref CE) (.ref CT) = some false)
    (suEE : PySem.W.subIn K (.ref CE) (.ref CE) = some true)
    (rdD : PySem.W.readsIn K DE (.type "type") = true)
    (rgD : PySem.W.specialIn K (.ref DE) "__getattribute__" = some (some (.builtin "type.__getattribute__")))
    (fcD : PySem.W.findCls K (.ref DE) (.type "type") "__init__" = some (.val (.builtin "ValueError.__init__")))
    (hT1 : h.get? P1 = some { cls := .none, data := .fields #[] })
    (hcd1 : cd31 = .ref cT1)
    (hch1 : PySem.W.codeHdIn K cT1 P1 = true)
    (hnl1 : K.lookup P1 = none)
    (hT2 : h.get? P2 = some { cls := .none, data := .fields #[] })
    (hcd2 : cd32 = .ref cT2)
    (hch2 : PySem.W.codeHdIn K cT2 P2 = true)
    (hnl2 : K.lookup P2 = none)
    (hne : P1 ≠ P2)
    (z_len : PySem.W.nsIn K mainGlobals "len" = some none)
    (z_sorted : PySem.W.nsIn K mainGlobals "sorted" = some none)
    (z_set : PySem.W.nsIn K mainGlobals "set" = some none)
    (z_str : PySem.W.nsIn K mainGlobals "str" = some none)
    (z_int : PySem.W.nsIn K mainGlobals "int" = some none)
    (z_tuple : PySem.W.nsIn K mainGlobals "tuple" = some none)
    (z_list : PySem.W.nsIn K mainGlobals "list" = some none)
    (z_any : PySem.W.nsIn K mainGlobals "any" = some none)
    (z_all : PySem.W.nsIn K mainGlobals "all" = some none)
    (z_isinstance : PySem.W.nsIn K mainGlobals "isinstance" = some none)
    (z_range : PySem.W.nsIn K mainGlobals "range" = some none)
    (z_zip : PySem.W.nsIn K mainGlobals "zip" = some none)
    (z_bool : PySem.W.nsIn K mainGlobals "bool" = some none)
    (z_dict : PySem.W.nsIn K mainGlobals "dict" = some none)
    (z_enumerate : PySem.W.nsIn K mainGlobals "enumerate" = some none)
    (z_repr : PySem.W.nsIn K mainGlobals "repr" = some none) :
    LamX.LawAtS l w K CX0 12 63 "_law_script" mg fa h := by
  have e := hfa.symm.trans (PySem.W.mg_of X G a33)
  cases e
  have Bz : Bn mg := ⟨PySem.W.mg_none_of X G z_len, PySem.W.mg_none_of X G z_sorted, PySem.W.mg_none_of X G z_set, PySem.W.mg_none_of X G z_str, PySem.W.mg_none_of X G z_int, PySem.W.mg_none_of X G z_tuple, PySem.W.mg_none_of X G z_list, PySem.W.mg_none_of X G z_any, PySem.W.mg_none_of X G z_all, PySem.W.mg_none_of X G z_isinstance, PySem.W.mg_none_of X G z_range, PySem.W.mg_none_of X G z_zip, PySem.W.mg_none_of X G z_bool, PySem.W.mg_none_of X G z_dict, PySem.W.mg_none_of X G z_enumerate, PySem.W.mg_none_of X G z_repr⟩
  have T : Tx K mg C := { toBn := Bz, g_Say := PySem.W.mg_of X G aC, cl := ⟨pg, hd, po, sa⟩, nN := nN, nP := nP, g_LETTERS := ⟨tL, PySem.W.mg_of X G gL⟩, g_LONGEST := ⟨tM, PySem.W.mg_of X G gM⟩, ic := ic, isg := isg, itk := itk, imr := imr }
  have F1 := fun_mk (st := s_is_name) l1 c1 k1
  have b1 := F1.binds (ps := ["thing"]) fun _ _ _ _ _ _ us hl => match us, hl with | [_], _ => rfl
  have F2 := fun_mk (st := s_choices_of) l2 c2 k2
  have b2 := F2.binds (ps := ["names"]) fun _ _ _ _ _ _ us hl => match us, hl with | [_], _ => rfl
  have F3 := fun_mk (st := s_check_name) l3 c3 k3
  have b3 := F3.binds (ps := ["name"]) fun _ _ _ _ _ _ us hl => match us, hl with | [_], _ => rfl
  have F4 := fun_mk (st := s_set_to) l4 c4 k4
  have b4 := F4.binds (ps := ["row", "name", "truth"]) fun _ _ _ _ _ _ us hl => match us, hl with | [_, _, _], _ => rfl
  have F5 := fun_mk (st := s_said_at) l5 c5 k5
  have b5 := F5.binds (ps := ["names", "points"]) fun _ _ _ _ _ _ us hl => match us, hl with | [_, _], _ => rfl
  have F6 := fun_mk (st := s_choices_over) l6 c6 k6
  have b6 := F6.binds (ps := ["names"]) fun _ _ _ _ _ _ us hl => match us, hl with | [_], _ => rfl
  have F7 := fun_mk (st := s_Say_init) l7 c7 k7
  have b7 := F7.binds (ps := ["self", "names", "points"]) fun _ _ _ _ _ _ us hl => match us, hl with | [_, _, _], _ => rfl
  have F8 := fun_mk (st := s_Say_test) l8 c8 k8
  have b8 := F8.binds (ps := ["name"]) fun _ _ _ _ _ _ us hl => match us, hl with | [_], _ => rfl
  have F11 := fun_mk (st := s_Say_at) l11 c11 k11
  have b11 := F11.binds (ps := ["self", "row"]) fun _ _ _ _ _ _ us hl => match us, hl with | [_, _], _ => rfl
  have F12 := fun_mk (st := s_Say_holds) l12 c12 k12
  have b12 := F12.binds (ps := ["self", "true"]) fun _ _ _ _ _ _ us hl => match us, hl with | [_, _], _ => rfl
  have F13 := fun_mk (st := s_Say_and) l13 c13 k13
  have b13 := F13.binds (ps := ["self", "other"]) fun _ _ _ _ _ _ us hl => match us, hl with | [_, _], _ => rfl
  have F14 := fun_mk (st := s_Say_or) l14 c14 k14
  have b14 := F14.binds (ps := ["self", "other"]) fun _ _ _ _ _ _ us hl => match us, hl with | [_, _], _ => rfl
  have F15 := fun_mk (st := s_Say_xor) l15 c15 k15
  have b15 := F15.binds (ps := ["self", "other"]) fun _ _ _ _ _ _ us hl => match us, hl with | [_, _], _ => rfl
  have F16 := fun_mk (st := s_is_list) l16 c16 k16
  have b16 := F16.binds (ps := ["thing"]) fun _ _ _ _ _ _ us hl => match us, hl with | [_], _ => rfl
  have F17 := fun_mk (st := s_are_unlike_names) l17 c17 k17
  have b17 := F17.binds (ps := ["thing"]) fun _ _ _ _ _ _ us hl => match us, hl with | [_], _ => rfl
  have F18 := fun_mk (st := s_is_term) l18 c18 k18
  have b18 := F18.binds (ps := ["thing"]) fun _ _ _ _ _ _ us hl => match us, hl with | [_], _ => rfl
  have F19 := fun_mk (st := s_is_true_at) l19 c19 k19
  have b19 := F19.binds (ps := ["term", "row"]) fun _ _ _ _ _ _ us hl => match us, hl with | [_, _], _ => rfl
  have F20 := fun_mk (st := s_Say_of_terms) l20 c20 k20
  have b20 := F20.binds (ps := ["terms"]) fun _ _ _ _ _ _ us hl => match us, hl with | [_], _ => rfl
  have F21 := fun_mk (st := s_Say_tests) l21 c21 k21
  have b21 := F21.binds (ps := ["self"]) fun _ _ _ _ _ _ us hl => match us, hl with | [_], _ => rfl
  have F22 := fun_mk (st := s_Say_given) l22 c22 k22
  have b22 := F22.binds (ps := ["self", "name", "truth"]) fun _ _ _ _ _ _ us hl => match us, hl with | [_, _, _], _ => rfl
  have F23 := fun_mk (st := s_Say_some) l23 c23 k23
  have b23 := F23.binds (ps := ["self", "name"]) fun _ _ _ _ _ _ us hl => match us, hl with | [_, _], _ => rfl
  have F24 := fun_mk (st := s_Say_every) l24 c24 k24
  have b24 := F24.binds (ps := ["self", "name"]) fun _ _ _ _ _ _ us hl => match us, hl with | [_, _], _ => rfl
  have F25 := fun_mk (st := s_law_spring) l25 c25 k25
  have b25 := F25.binds (ps := ["_law_script"]) fun _ _ _ _ _ _ us hl => match us, hl with | [_], _ => rfl
  have F26 := fun_mk (st := s_law_draw) l26 c26 k26
  have b26 := F26.binds (ps := ["_law_spring_here", "_law_many"]) fun _ _ _ _ _ _ us hl => match us, hl with | [_, _], _ => rfl
  have F27 := fun_mk (st := s_law_pick) l27 c27 k27
  have b27 := F27.binds (ps := ["_law_spring_here", "_law_things"]) fun _ _ _ _ _ _ us hl => match us, hl with | [_, _], _ => rfl
  have F28 := fun_mk (st := s_law_same) l28 c28 k28
  have b28 := F28.binds (ps := ["_law_found", "_law_due"]) fun _ _ _ _ _ _ us hl => match us, hl with | [_, _], _ => rfl
  have F29 := fun_mk (st := s_law_names) l29 c29 k29
  have b29 := F29.binds (ps := ["_law_spring_here", "_law_many"]) fun _ _ _ _ _ _ us hl => match us, hl with | [_, _], _ => rfl
  have F30 := fun_mk (st := s_law_tried) l30 c30 k30
  have b30 := F30.binds (ps := ["_law_ask"]) fun _ _ _ _ _ _ us hl => match us, hl with | [_], _ => rfl
  have F31 := fun_mk (st := s_law_names_right) l31 c31 k31
  have b31 := F31.binds (ps := ["_law_spring_here", "_law_say", "_law_names_here"]) fun _ _ _ _ _ _ us hl => match us, hl with | [_, _, _], _ => rfl
  have F32 := fun_mk (st := s_law_terms_right) l32 c32 k32
  have b32 := F32.binds (ps := ["_law_spring_here", "_law_names_here"]) fun _ _ _ _ _ _ us hl => match us, hl with | [_, _], _ => rfl
  have F33 := fun_mk (st := s_law) l33 c33 k33
  have b33 := F33.binds (ps := ["_law_script"]) fun _ _ _ _ _ _ us hl => match us, hl with | [_], _ => rfl
  have F34 := fun_mk (st := s_BadName_init) l34 c34 k34
  have b34 := F34.binds (ps := ["self", "name"]) fun _ _ _ _ _ _ us hl => match us, hl with | [_, _], _ => rfl
  have F35 := fun_mk (st := s_BadTruth_init) l35 c35 k35
  have b35 := F35.binds (ps := ["self", "thing"]) fun _ _ _ _ _ _ us hl => match us, hl with | [_, _], _ => rfl
  have F36 := fun_mk (st := s_BadTerm_init) l36 c36 k36
  have b36 := F36.binds (ps := ["self", "index"]) fun _ _ _ _ _ _ us hl => match us, hl with | [_, _], _ => rfl
  refine ⟨PySem.W.fnOf "law" "law" (defArgs s_law) (defBody s_law) (defScope s_law) .none kV33 dc33 pm33 an33 cd33 ct33, [(cT1, P1), (cT2, P2)], spLawT2 K P1 P2, (fun p hp => by
    rcases List.mem_cons.mp hp with rfl | hp
    · exact hT1
    rcases List.mem_cons.mp hp with rfl | hp
    · exact hT2
    cases hp), (fun p hp => by
    rcases List.mem_cons.mp hp with rfl | hp
    · exact hnl1
    rcases List.mem_cons.mp hp with rfl | hp
    · exact hnl2
    cases hp), (fun p hp => by
    rcases List.mem_cons.mp hp with rfl | hp
    · exact PySem.W.codeHd_of_K X hch1
    rcases List.mem_cons.mp hp with rfl | hp
    · exact PySem.W.codeHd_of_K X hch2
    cases hp), fun s v => .of_eq rfl, fun H a ns _ _ ht hS => ⟨a, ns, rfl, hS, ht _ List.mem_cons_self, ht _ (List.mem_cons_of_mem _ List.mem_cons_self), hne, fun _ => rfl⟩, fun base _ _ tb => ?_⟩
  have TBt1 := tb (cT1, P1) List.mem_cons_self
  have TBt2 := tb (cT2, P2) (List.mem_cons_of_mem _ List.mem_cons_self)
  have OXEn : OexC K CN := ⟨⟨nmEn, qEn, NEn, bsEn, _, snEn, subEn, abEn, colEn, ddEn, mEn0, mEn1, mEn2, mEn3, mEn5, xEn, by rfl⟩, saEn, exEn, tyEn, kcEn⟩
  have UEn : ErrF l.prog w K mg base 1 CN "BadName" "name" := ⟨OXEn, PySem.W.mg_of X G aEn, ⟨gaEn, ggEn, exEn, hdEn⟩, noEn, f34, _, _, a34, tfEn, ok_BN_init F34 (PySem.W.mg_of X G aDE) ⟨rdD, rgD⟩ fcD OXEn noEn, b34⟩
  have OXEt : OexC K CT := ⟨⟨nmEt, qEt, NEt, bsEt, _, snEt, subEt, abEt, colEt, ddEt, mEt0, mEt1, mEt2, mEt3, mEt5, xEt, by rfl⟩, saEt, exEt, tyEt, kcEt⟩
  have UEt : ErrF l.prog w K mg base 1 CT "BadTruth" "thing" := ⟨OXEt, PySem.W.mg_of X G aEt, ⟨gaEt, ggEt, exEt, hdEt⟩, noEt, f35, _, _, a35, tfEt, ok_BT_init F35 (PySem.W.mg_of X G aDE) ⟨rdD, rgD⟩ fcD OXEt noEt, b35⟩
  have OXEe : OexC K CE := ⟨⟨nmEe, qEe, NEe, bsEe, _, snEe, subEe, abEe, colEe, ddEe, mEe0, mEe1, mEe2, mEe3, mEe5, xEe, by rfl⟩, saEe, exEe, tyEe, kcEe⟩
  have UEe : ErrF l.prog w K mg base 1 CE "BadTerm" "index" := ⟨OXEe, PySem.W.mg_of X G aEe, ⟨gaEe, ggEe, exEe, hdEe⟩, noEe, f36, _, _, a36, tfEe, ok_BE_init F36 (PySem.W.mg_of X G aDE) ⟨rdD, rgD⟩ fcD OXEe noEe, b36⟩
  have C1 : C8.Cal l.prog w K mg base _ "is_name" _ [] := mkCal F1 (PySem.W.mg_of X G a1) b1 (ok_is_name F1 T)
  have ING : C8.Cal l.prog w K mg base _ "is_name" _ [] := mkCal F1 (PySem.W.mg_of X G a1) b1 (ok_is_nameG F1 T)
  have C2 : C8.Cal l.prog w K mg base _ "choices_of" _ [] := mkCal F2 (PySem.W.mg_of X G a2) b2 (ok_choices_of F2 Bz)
  have C3 : C8.Cal l.prog w K mg base _ "check_name" _ [] := mkCal F3 (PySem.W.mg_of X G a3) b3 (ok_check_name F3 T C1)
  have XCK : CalX l.prog w K mg base 3 "check_name" _ := ⟨f3, _, _, okBoth ((ok_check_name F3 T C1).mono (by omega)) (ok_check_nameX F3 T UEn ING), PySem.W.mg_of X G a3, F3.kp, b3⟩
  have C4 : C8.Cal l.prog w K mg base _ "set_to" _ [] := mkCal F4 (PySem.W.mg_of X G a4) b4 (ok_set_to F4 Bz)
  have CM : C8.Mak l.prog w K mg base 1 "Say" C (spM (RInit C)) [] := ⟨f7, _, _, [], ⟨mk, a7, i7, kc⟩, ok_Say_init F7 T, T.g_Say, b7, .nil⟩
  have C5 : C8.Cal l.prog w K mg base _ "said_at" _ [] := mkCal F5 (PySem.W.mg_of X G a5) b5 (ok_said_at F5 T C2 C4 CM)
  have CG : C8.Cal l.prog w K mg base _ "said_at" _ [] := mkCal F5 (PySem.W.mg_of X G a5) b5 (ok_said_atG F5 T C2 C4 CM)
  have C6 : C8.Cal l.prog w K mg base _ "choices_over" _ [] := mkCal F6 (PySem.W.mg_of X G a6) b6 (ok_choices_over F6 T C2)
  have CH : C8.Cal l.prog w K mg base _ "choices_over" _ [] := mkCal F6 (PySem.W.mg_of X G a6) b6 (ok_choices_overG F6 T C2)
  have S8 : OSm l.prog w K mg base 3 C "test" _ := ⟨_, p8, f8, ⟨rd, rg⟩, ⟨a8, ⟨_, i8⟩, k8⟩, fnR_of (ok_Say_test F8 T C3 CM) b8⟩
  have SXT : OSmX l.prog w K mg base 4 C "test" _ := ⟨_, p8, f8, ⟨rd, rg⟩, ⟨a8, ⟨_, i8⟩, k8⟩, fnRX (okBoth ((ok_Say_test F8 T C3 CM).mono (by omega)) (ok_Say_testX F8 T XCK CM)) b8⟩
  have C11 : C8.Met l.prog w K mg base _ C "at" _ [] := ⟨f11, _, _, [], T.cl, ⟨a11, i11, k11⟩, ok_Say_at F11 T, b11, .nil⟩
  have XHO : MetX l.prog w K mg base 4 C "holds" _ := ⟨f12, _, _, T.cl, ⟨a12, i12, k12⟩, okBoth ((ok_Say_holds F12 T C3 C11).mono (by omega)) (ok_Say_holdsX F12 T XCK C11), b12⟩
  have R13 : FnR l.prog w K mg base CX0 _ f13 _ := fnR_of (ok_Say_and F13 T C5 C6 C11) b13
  have R14 : FnR l.prog w K mg base CX0 _ f14 _ := fnR_of (ok_Say_or F14 T C5 C6 C11) b14
  have R15 : FnR l.prog w K mg base CX0 _ f15 _ := fnR_of (ok_Say_xor F15 T C5 C6 C11) b15
  have Oand : OBin l.prog w K mg base 4 C .BitAnd _ := ⟨f13, sf, a13, i13, R13⟩
  have Oor : OBin l.prog w K mg base 4 C .BitOr _ := ⟨f14, sf, a14, i14, R14⟩
  have Oxor : OBin l.prog w K mg base 4 C .BitXor _ := ⟨f15, sf, a15, i15, R15⟩
  have C21 : C8.Met l.prog w K mg base _ C "tests" _ [] := ⟨f21, _, _, [], T.cl, ⟨a21, i21, k21⟩, ok_Say_tests F21 T, b21, .nil⟩
  have C22 : C8.Met l.prog w K mg base _ C "given" _ [] := ⟨f22, _, _, [], T.cl, ⟨a22, i22, k22⟩, ok_Say_given F22 T C3 C5 C2 C4 C11, b22, .nil⟩
  have XGI : MetX l.prog w K mg base 4 C "given" _ := ⟨f22, _, _, T.cl, ⟨a22, i22, k22⟩, okBoth ((ok_Say_given F22 T C3 C5 C2 C4 C11).mono (by omega)) (ok_Say_givenX F22 T UEt XCK C5 C2 C4 C11), b22⟩
  have XSO : MetX l.prog w K mg base 5 C "some" _ := ⟨f23, _, _, T.cl, ⟨a23, i23, k23⟩, okBoth ((ok_Say_some F23 T Oor C22).mono (by omega)) (ok_Say_someX F23 T Oor XGI), b23⟩
  have XEV : MetX l.prog w K mg base 5 C "every" _ := ⟨f24, _, _, T.cl, ⟨a24, i24, k24⟩, okBoth ((ok_Say_every F24 T Oand C22).mono (by omega)) (ok_Say_everyX F24 T Oand XGI), b24⟩
  have C16 : C8.Cal l.prog w K mg base _ "is_list" _ [] := mkCal F16 (PySem.W.mg_of X G a16) b16 (ok_is_list F16 Bz)
  have ILG : C8.Cal l.prog w K mg base _ "is_list" _ [] := mkCal F16 (PySem.W.mg_of X G a16) b16 (ok_is_listG F16 Bz)
  have C17 : C8.Cal l.prog w K mg base _ "are_unlike_names" _ [] := mkCal F17 (PySem.W.mg_of X G a17) b17 (ok_are_unlike_names F17 Bz C16 C1)
  have AUG : C8.Cal l.prog w K mg base _ "are_unlike_names" _ [] := mkCal F17 (PySem.W.mg_of X G a17) b17 (ok_are_unlike_namesG F17 Bz ILG ING)
  have C18 : C8.Cal l.prog w K mg base _ "is_term" _ [] := mkCal F18 (PySem.W.mg_of X G a18) b18 (ok_is_term F18 Bz C16 C17)
  have ITG : C8.Cal l.prog w K mg base _ "is_term" _ [] := mkCal F18 (PySem.W.mg_of X G a18) b18 (ok_is_termG F18 Bz ILG AUG)
  have C19 : C8.Cal l.prog w K mg base _ "is_true_at" _ [] := mkCal F19 (PySem.W.mg_of X G a19) b19 (ok_is_true_at F19 Bz)
  have SXO : OSmX l.prog w K mg base 4 C "of_terms" _ := ⟨_, p20, f20, ⟨rd, rg⟩, ⟨a20, ⟨_, i20⟩, k20⟩, fnRX (okBoth ((ok_Say_of_terms F20 T C16 C18 CG CH C19).mono (by omega)) (ok_Say_of_termsX F20 T UEe ILG ITG CG CH C19)) b20⟩
  have C25 : C8.Cal l.prog w K mg base _ "_law_spring" _ [] := mkCal F25 (PySem.W.mg_of X G a25) b25 (ok_law_spring F25 Bz)
  have C26 : C8.Cal l.prog w K mg base _ "_law_draw" _ [] := mkCal F26 (PySem.W.mg_of X G a26) b26 (ok_law_draw F26 Bz)
  have C27 : C8.Cal l.prog w K mg base _ "_law_pick" _ [] := mkCal F27 (PySem.W.mg_of X G a27) b27 (ok_law_pick F27 Bz C26)
  have C29 : C8.Cal l.prog w K mg base _ "_law_names" _ [] := mkCal F29 (PySem.W.mg_of X G a29) b29 (ok_law_names F29 Bz C26)
  have A28 := all_law_sameD (P := l.prog) (w := w) (base := base) F28 (PySem.W.mg_of X G a28) b28 Bz 5
  have RT : TrT K mg f30 _ CN CT CE := ⟨F30, PySem.W.mg_of X G a30, b30, PySem.W.mg_of X G aEn, PySem.W.mg_of X G aEt, PySem.W.mg_of X G aEe, UEn.xf, UEt.xf, UEe.xf, noEn, noEt, noEe, exm_of exEn clEn tyEn suNN, exm_of exEn clEn tyEn suTN, exm_of exEt clEt tyEt suTT, exm_of exEn clEn tyEn suEN, exm_of exEt clEt tyEt suET, exm_of exEe clEe tyEe suEE⟩
  subst hcd1
  subst hcd2
  have FC1 : FunC K "_law_names_right" "_law_names_right" s_law_names_right f31 _ cT1 := ⟨⟨_, _, _, _, _, _, _, _, rfl, l31, c31⟩⟩
  have FC2 : FunC K "_law_terms_right" "_law_terms_right" s_law_terms_right f32 _ cT2 := ⟨⟨_, _, _, _, _, _, _, _, rfl, l32, c32⟩⟩
  have CNR : C8.Cal l.prog w K mg base _ "_law_names_right" _ [] := mkCal F31 (PySem.W.mg_of X G a31) b31 (ok_law_names_right (P1 := P1) (P2 := P2) FC1 T RT TBt1 SXT XHO XGI XSO XEV C26 C27 A28)
  have CTR : C8.Cal l.prog w K mg base _ "_law_terms_right" _ [] := mkCal F32 (PySem.W.mg_of X G a32) b32 (ok_law_terms_right (P1 := P1) (P2 := P2) FC2 T RT TBt2 SXO C26 C27 A28)
  exact ok_law F33 T Oxor S8 C25 C26 C29 A28 CNR CTR C21
theorem walk {l : PySem.W.OpenLaw} {q : Program} {loose : List Str} {XP : (Str → Option Value) → Heap → Prop} {YP : World → Heap → Prop} {d : DefRec} {K : Params → PySem.W.Frag} (hn : l.most = some 63) (hdf : d.params.defaults = [])
    (hY : ∀ (w : World) (h : Heap), YP w h → (K w.params).In h)
    (F : ∀ (w : World) (mg : Str → Option Value) (fa : Addr) (h : Heap), YP w h → (K w.params).In h → h.Ns mainGlobals mg → mg d.name = some (.ref fa) → LamX.LawAtS l w (K w.params) CX0 12 63 "_law_script" mg fa h) :
    PySem.W.WalkO q loose XP YP l.row.toRowW d [] (fun f vs => PySem.call f vs) :=
  LamX.walk_ofTs (n := 63) (k := 12) (x := "_law_script") (CX := fun _ => CX0) hn (by decide) hdf ⟨rfl, by decide, by decide⟩ hY F fun _ _ _ _ _ z => z
end Du
open PySem PySem.W PyProof.Rows
theorem PySem.Challenge.cw_deedmeanings_k06_says_refused_holds : PySem.Challenge.rw_deedmeanings_k06_says_refused.Holds := by
  w_on; o_law; k_head; (case hw => w_witness2)
  k_fill
  refine Du.walk (l := PySem.Challenge.rw_deedmeanings_k06_says_refused) rfl rfl (fun w h Y => PySem.W.km_in_of Y) ?F
  case F =>
    intro w mg fa h Y KX G hmg
    have hT8 := PySem.W.km_tabs_of Y
    refine' Du.all_mk KX G hmg ?a1 ?l1 ?c1 ?k1 ?a2 ?l2 ?c2 ?k2 ?a3 ?l3 ?c3 ?k3 ?a4 ?l4 ?c4 ?k4 ?a5 ?l5 ?c5 ?k5 ?a6 ?l6 ?c6 ?k6 ?a7 ?i7 ?l7 ?c7 ?k7 ?a8 ?i8 ?l8 ?c8 ?k8 ?a11 ?i11 ?l11 ?c11 ?k11 ?a12 ?i12 ?l12 ?c12 ?k12 ?a13 ?i13 ?l13 ?c13 ?k13 ?a14 ?i14 ?l14 ?c14 ?k14 ?a15 ?i15 ?l15 ?c15 ?k15 ?a16 ?l16 ?c16 ?k16 ?a17 ?l17 ?c17 ?k17 ?a18 ?l18 ?c18 ?k18 ?a19 ?l19 ?c19 ?k19 ?a20 ?i20 ?l20 ?c20 ?k20 ?a21 ?i21 ?l21 ?c21 ?k21 ?a22 ?i22 ?l22 ?c22 ?k22 ?a23 ?i23 ?l23 ?c23 ?k23 ?a24 ?i24 ?l24 ?c24 ?k24 ?a25 ?l25 ?c25 ?k25 ?a26 ?l26 ?c26 ?k26 ?a27 ?l27 ?c27 ?k27 ?a28 ?l28 ?c28 ?k28 ?a29 ?l29 ?c29 ?k29 ?a30 ?l30 ?c30 ?k30 ?a31 ?l31 ?c31 ?k31 ?a32 ?l32 ?c32 ?k32 ?a33 ?l33 ?c33 ?k33 ?a34 ?i34 ?l34 ?c34 ?k34 ?a35 ?i35 ?l35 ?c35 ?k35 ?a36 ?i36 ?l36 ?c36 ?k36 ?aC ?pg ?hd ?po ?sa ?mk ?kc ?nN ?nP ?gL ?gM ?ic ?isg ?itk ?imr ?sf ?nf ?ne ?so ?rd ?rg ?aDE ?aEn ?xEn ?saEn ?exEn ?tyEn ?kcEn ?clEn ?tfEn ?noEn ?gaEn ?ggEn ?hdEn ?aEt ?xEt ?saEt ?exEt ?tyEt ?kcEt ?clEt ?tfEt ?noEt ?gaEt ?ggEt ?hdEt ?aEe ?xEe ?saEe ?exEe ?tyEe ?kcEe ?clEe ?tfEe ?noEe ?gaEe ?ggEe ?hdEe ?suNN ?suTN ?suTT ?suEN ?suET ?suEE ?rdD ?rgD ?fcD ?hT1 ?hcd1 ?hch1 ?hnl1 ?hT2 ?hcd2 ?hch2 ?hnl2 ?hne ?z_len ?z_sorted ?z_set ?z_str ?z_int ?z_tuple ?z_list ?z_any ?z_all ?z_isinstance ?z_range ?z_zip ?z_bool ?z_dict ?z_enumerate ?z_repr
    (case aC => k_is); (case aDE => k_is); (case aEn => k_is); (case aEt => k_is); (case aEe => k_is); (case hT1 => exact hT8 _ (List.mem_cons_of_mem _ List.mem_cons_self))
    (case hT2 => exact hT8 _ List.mem_cons_self); (case a1 => k_is); (case l1 => k_is); (case c1 => k_is); (case k1 => k_is); (case a2 => k_is)
    (case l2 => k_is); (case c2 => k_is); (case k2 => k_is); (case a3 => k_is); (case l3 => k_is); (case c3 => k_is)
    (case k3 => k_is); (case a4 => k_is); (case l4 => k_is); (case c4 => k_is); (case k4 => k_is); (case a5 => k_is)
    (case l5 => k_is); (case c5 => k_is); (case k5 => k_is); (case a6 => k_is); (case l6 => k_is); (case c6 => k_is)
    (case k6 => k_is); (case a7 => k_is); (case i7 => k_is); (case l7 => k_is); (case c7 => k_is); (case k7 => k_is)
    (case a8 => k_is); (case i8 => k_is); (case l8 => k_is); (case c8 => k_is); (case k8 => k_is); (case a11 => k_is)
    (case i11 => k_is); (case l11 => k_is); (case c11 => k_is); (case k11 => k_is); (case a12 => k_is); (case i12 => k_is)
    (case l12 => k_is); (case c12 => k_is); (case k12 => k_is); (case a13 => k_is); (case i13 => k_is); (case l13 => k_is)
    (case c13 => k_is); (case k13 => k_is); (case a14 => k_is); (case i14 => k_is); (case l14 => k_is); (case c14 => k_is)
    (case k14 => k_is); (case a15 => k_is); (case i15 => k_is); (case l15 => k_is); (case c15 => k_is); (case k15 => k_is)
    (case a16 => k_is); (case l16 => k_is); (case c16 => k_is); (case k16 => k_is); (case a17 => k_is); (case l17 => k_is)
    (case c17 => k_is); (case k17 => k_is); (case a18 => k_is); (case l18 => k_is); (case c18 => k_is); (case k18 => k_is)
    (case a19 => k_is); (case l19 => k_is); (case c19 => k_is); (case k19 => k_is); (case a20 => k_is); (case i20 => k_is)
    (case l20 => k_is); (case c20 => k_is); (case k20 => k_is); (case a21 => k_is); (case i21 => k_is); (case l21 => k_is)
    (case c21 => k_is); (case k21 => k_is); (case a22 => k_is); (case i22 => k_is); (case l22 => k_is); (case c22 => k_is)
    (case k22 => k_is); (case a23 => k_is); (case i23 => k_is); (case l23 => k_is); (case c23 => k_is); (case k23 => k_is)
    (case a24 => k_is); (case i24 => k_is); (case l24 => k_is); (case c24 => k_is); (case k24 => k_is); (case a25 => k_is)
    (case l25 => k_is); (case c25 => k_is); (case k25 => k_is); (case a26 => k_is); (case l26 => k_is); (case c26 => k_is)
    (case k26 => k_is); (case a27 => k_is); (case l27 => k_is); (case c27 => k_is); (case k27 => k_is); (case a28 => k_is)
    (case l28 => k_is); (case c28 => k_is); (case k28 => k_is); (case a29 => k_is); (case l29 => k_is); (case c29 => k_is)
    (case k29 => k_is); (case a30 => k_is); (case l30 => k_is); (case c30 => k_is); (case k30 => k_is); (case a31 => k_is)
    (case l31 => k_is); (case c31 => k_is); (case k31 => k_is); (case a32 => k_is); (case l32 => k_is); (case c32 => k_is)
    (case k32 => k_is); (case a33 => k_is); (case l33 => k_is); (case c33 => k_is); (case k33 => k_is); (case a34 => k_is)
    (case i34 => k_is); (case l34 => k_is); (case c34 => k_is); (case k34 => k_is); (case a35 => k_is); (case i35 => k_is)
    (case l35 => k_is); (case c35 => k_is); (case k35 => k_is); (case a36 => k_is); (case i36 => k_is); (case l36 => k_is)
    (case c36 => k_is); (case k36 => k_is); (case pg => k_is); (case hd => k_is); (case po => k_is); (case sa => k_is)
    (case mk => k_is); (case kc => k_is); (case nN => k_is); (case nP => k_is); (case gL => k_is); (case gM => k_is)
    (case ic => k_is); (case isg => k_is); (case itk => k_is); (case imr => k_is); (case sf => k_is); (case nf => k_is)
    (case ne => k_is); (case so => k_is); (case rd => k_is); (case rg => k_is); (case xEn => k_is); (case saEn => k_is)
    (case exEn => k_is); (case tyEn => k_is); (case kcEn => k_is); (case clEn => k_is); (case tfEn => k_is); (case noEn => k_is)
    (case gaEn => k_is); (case ggEn => k_is); (case hdEn => k_is); (case xEt => k_is); (case saEt => k_is); (case exEt => k_is)
    (case tyEt => k_is); (case kcEt => k_is); (case clEt => k_is); (case tfEt => k_is); (case noEt => k_is); (case gaEt => k_is)
    (case ggEt => k_is); (case hdEt => k_is); (case xEe => k_is); (case saEe => k_is); (case exEe => k_is); (case tyEe => k_is)
    (case kcEe => k_is); (case clEe => k_is); (case tfEe => k_is); (case noEe => k_is); (case gaEe => k_is); (case ggEe => k_is)
    (case hdEe => k_is); (case suNN => first | rfl | k_is); (case suTN => first | rfl | k_is); (case suTT => first | rfl | k_is); (case suEN => first | rfl | k_is); (case suET => first | rfl | k_is)
    (case suEE => first | rfl | k_is); (case rdD => k_is); (case rgD => k_is); (case fcD => k_is); (case hcd1 => rfl); (case hch1 => kernel_rfl)
    (case hnl1 => kernel_rfl); (case hcd2 => rfl); (case hch2 => kernel_rfl); (case hnl2 => kernel_rfl); (case hne => decide); (case z_len => k_is)
    (case z_sorted => k_is); (case z_set => k_is); (case z_str => k_is); (case z_int => k_is); (case z_tuple => k_is); (case z_list => k_is)
    (case z_any => k_is); (case z_all => k_is); (case z_isinstance => k_is); (case z_range => k_is); (case z_zip => k_is); (case z_bool => k_is)
    (case z_dict => k_is); (case z_enumerate => k_is); (case z_repr => k_is)
