import PyProof.Rows.All
import HandS.Dict
import HandS.Conv
import HandS.List
import KE.KDictWalk
import KE.KDictCopyH
import Wide.All
import OpenK.AllK
import Wide.FinOn
import HandS.ForMost
import HandS.Exc
import HandS.TryOnly
import HandS.ExcOwn
import HandS.Wide
import HandS.EndBits
import HandS.TupAny
import HandS.TupMul
import HandS.IsInst
import HandS.ExcIs
import HandS.ExcField
import KE.KExcIs
import HandS.Nested
import PyProof.ReprRoads
import HandS.TupLe
import HandS.Deep
import PyProof.EqKinds
import PyProof.FactsAll.dict
import KE.SortData
import KE.DataCmp
import KE.KEqDict
import HandS.HotCalls
import HandS.SortInts
import HandS.SetFor
import HandS.Strs
import HandS.RaiseMore
import KE.KTupSum
import KE.DatumOrd
import KE.KDictSum
import PyProof.Rows.SeqRoads
import HandS.Walk
import HandS.Zip
import KE.KDictZip
import PyProof.DictMoreH
import KE.KDictOf
import KE.KDictKeyed
import HandS.Comp
import HandS.ExcInit
import HandS.Iter
import HandS.WordsExc
import HandS.EndTab
import KE.KNestM
import PySem.Challenge.RW_dueturns_k44_first_apart
set_option Elab.async false
set_option linter.all false
set_option maxRecDepth 100000
set_option maxHeartbeats 4000000
namespace PL
open PySem L2 PySem.Spec PyProof.Rows

/-- an entry: the key, where its tuple stands, the value -/
abbrev KA := List Key × Addr × V
abbrev KRel : List KA → List (List Key × Addr × Value) → Prop := Paired fun p q => p.1 = q.1 ∧ p.2.1 = q.2.1 ∧ RelV p.2.2 q.2.2
/-- the object of such a dict: its entries, exact -/
structure DRaw (P : Program) (w : World) (a : Addr) (xs : List (List Key × Addr × Value)) (h : Heap) (o : Obj) (es : Array DictEntry) (ep : Nat) : Prop where
  at_ : h.get? a = some o
  ex : o.ExactDict
  data : o.data = .dict es ep
  ent : es.toList = xs.map (entryOfKey (tupleKind (mixKind P w)))
  nd : (xs.map (·.1)).Nodup
structure DPhi (P : Program) (w : World) (a : Addr) (kas : List KA) (h : Heap) : Prop where
  sz : kas.length ≤ sizeLine
  sys : (a == sysModules) = false
  raw : ∃ xs o es ep, KRel kas xs ∧ DRaw P w a xs h o es ep
/-- such a dict; its object, exact -/
def dTo (P : Program) (w : World) (a : Addr) (kas : List KA) (o : Obj) : HO := .ext fun h => DPhi P w a kas h ∧ h.get? a = some o
theorem dTo_ok {P : Program} {w : World} {H : Hp} {h : Heap} {a : Addr} {kas : List KA} {o : Obj} (x : ObjOk P w H h a (dTo P w a kas o)) : DPhi P w a kas h := x.1.1
theorem dTo_at {P : Program} {w : World} {H : Hp} {h : Heap} {a : Addr} {kas : List KA} {o : Obj} (x : ObjOk P w H h a (dTo P w a kas o)) : h.get? a = some o := x.1.2
def KeysAt (K : PySem.W.Frag) (H : Hp) (kas : List KA) : Prop := ∀ p ∈ kas, SqT K H p.2.1 (p.1.map kV)
def dVal (kas : List KA) (k : List Key) : Option V := valV (kas.map fun p => (p.1, p.2.2)) k
/-- .. behind a store -/
def putA (kas : List KA) (k : List Key) (b : Addr) (y : V) : List KA :=
  if (dVal kas k).isSome then kas.map (fun p => if p.1 = k then (p.1, p.2.1, y) else p) else kas ++ [(k, b, y)]
theorem KRel.len {kas : List KA} {xs : List (List Key × Addr × Value)} (r : KRel kas xs) : kas.length = xs.length := Paired.length r
theorem KRel.val (k : List Key) : ∀ {kas : List KA} {xs : List (List Key × Addr × Value)}, KRel kas xs → RelO (dVal kas k) ((atKey xs k).map (·.2))
  | _, _, .nil => True.intro
  | _, _, @Paired.cons _ _ _ p q ps qs ⟨h1, _, h3⟩ t => by
    have ih := KRel.val k (kas := ps) (xs := qs) t
    unfold dVal at ih ⊢
    unfold atKey at ih ⊢
    by_cases e : p.1 = k
    · rw [List.map_cons, valV_pos (p := (p.1, p.2.2)) e, List.find?_cons_of_pos (by simp [← h1, e])]
      exact h3
    · rw [List.map_cons, valV_neg (p := (p.1, p.2.2)) e, List.find?_cons_of_neg (by simp [← h1, e])]
      exact ih
theorem KRel.repl (k : List Key) {y : V} {u : Value} (ry : RelV y u) : ∀ {kas : List KA} {xs : List (List Key × Addr × Value)}, KRel kas xs → KRel (kas.map fun p => if p.1 = k then (p.1, p.2.1, y) else p) (xs.map (putAt k u))
  | _, _, .nil => .nil
  | _, _, @Paired.cons _ _ _ p q ps qs ⟨h1, h2, h3⟩ t => by
    refine .cons ?_ (KRel.repl k ry (kas := ps) (xs := qs) t)
    unfold putAt
    by_cases e : p.1 = k
    · simp only [e, h1.symm.trans e, if_true]; exact ⟨trivial, h2, ry⟩
    · simp only [e, h1.symm ▸ e, if_false]; exact ⟨h1, h2, h3⟩
theorem KRel.put {kas : List KA} {xs : List (List Key × Addr × Value)} (r : KRel kas xs) (k : List Key) (b : Addr) {y : V} {u : Value} (ry : RelV y u) : KRel (putA kas k b y) (storedH xs k b u) := by
  have same : (dVal kas k).isSome = (atKey xs k).isSome := (r.val k).isSome_eq.trans Option.isSome_map
  unfold putA storedH
  cases z : (atKey xs k).isSome with
  | true => rw [same.trans z, if_pos rfl, if_pos rfl]; exact r.repl k ry
  | false => rw [same.trans z, if_neg (by decide), if_neg (by decide)]; exact Paired.snoc r ⟨rfl, rfl, ry⟩
theorem KRel.addrs : ∀ {kas : List KA} {xs : List (List Key × Addr × Value)}, KRel kas xs → xs.map (fun x => x.2.1) = kas.map fun p => p.2.1
  | _, _, .nil => rfl
  | _, _, @Paired.cons _ _ _ p q ps qs ⟨_, h2, _⟩ t => by rw [List.map_cons, List.map_cons, KRel.addrs (kas := ps) (xs := qs) t, h2]

def lV : Leaf → V
  | .none => .non
  | .num i => .int i
  | .text x => .str x
def kL : Key → Leaf
  | .inl i => .num i
  | .inr x => .text x
theorem kL_inj {a b : Key} (e : kL a = kL b) : a = b := by
  cases a <;> cases b <;> first | (injection e with e; rw [e]) | exact nomatch e
theorem lV_is {P : Program} {w : World} {k : Leaf} {u : Value} (r : RelV (lV k) u) : (leafKind P w).is k u = true := by
  cases k with
  | none =>
    have e : u = Value.none := r
    subst e
    rfl
  | num i =>
    obtain ⟨t, e⟩ := (show ∃ t, u = Value.int i t from r)
    subst e
    exact decide_eq_true rfl
  | text x =>
    obtain ⟨t, e⟩ := (show ∃ t, u = Value.str x t from r)
    subst e
    exact keyIs_str x t
structure LPhi (P : Program) (w : World) (a : Addr) (kvs : List (Leaf × V)) (h : Heap) : Prop where
  sz : kvs.length ≤ sizeLine
  sys : (a == sysModules) = false
  raw : ∃ vs, KV kvs vs ∧ h.DictOf (leafKind P w) a vs
/-- a dict whose keys may be None -/
def dLo (P : Program) (w : World) (a : Addr) (kvs : List (Leaf × V)) : HO := .ext (LPhi P w a kvs)
theorem dLo_ok {P : Program} {w : World} {H : Hp} {h : Heap} {a : Addr} {kvs : List (Leaf × V)} (x : ObjOk P w H h a (dLo P w a kvs)) : LPhi P w a kvs h := x.1
theorem pairs_leaf {P : Program} {w : World} : ∀ {es : List DictEntry} {vs : List (Key × Value)}, Pairs (mixKind P w) es vs → Pairs (leafKind P w) es (vs.map fun p => (kL p.1, p.2))
  | _, _, .nil => .nil
  | _, _, @Pairs.cons _ _ _ _ _ e kv es kvs h1 h2 t => by
    refine .cons ?_ h2 (pairs_leaf t)
    rcases keyIs_shape h1 with ⟨i, t, e1, e2⟩ | ⟨x, t, e1, e2⟩
    · rw [e2]
      show (leafKind P w).is (kL kv.1) _ = true
      rw [e1]
      exact decide_eq_true rfl
    · rw [e2]
      show (leafKind P w).is (kL kv.1) _ = true
      rw [e1]
      exact keyIs_str x t
theorem keys_leaf {P : Program} {w : World} {es : Array DictEntry} (h : KeysOf (mixKind P w) es) : KeysOf (leafKind P w) es := fun e he => by
  obtain ⟨k, h1, h2⟩ := h e he
  refine ⟨kL k, ?_, ?_⟩
  · rcases keyIs_shape h1 with ⟨i, t, e1, e2⟩ | ⟨x, t, e1, e2⟩
    · rw [e2, e1]
      exact decide_eq_true rfl
    · rw [e2, e1]
      exact keyIs_str x t
  · rw [h2]
    cases k <;> rfl
theorem dict_leaf {P : Program} {w : World} {h : Heap} {a : Addr} {vs : List (Key × Value)} (x : h.DictOf (mixKind P w) a vs) : h.DictOf (leafKind P w) a (vs.map fun p => (kL p.1, p.2)) := by
  obtain ⟨o, es, ep, h1, h2, h3, h4, h5, h6⟩ := x
  refine ⟨o, es, ep, h1, h2, h3, keys_leaf h4, pairs_leaf h5, ?_⟩
  rw [List.map_map, show ((fun p : Leaf × Value => p.1) ∘ fun p : Key × Value => (kL p.1, p.2)) = kL ∘ fun p : Key × Value => p.1 from rfl, ← List.map_map]
  exact List.Pairwise.map _ (fun a b n e => n (kL_inj e)) h6
theorem kv_leaf : ∀ {kvs : List (Key × V)} {vs : List (Key × Value)}, KV kvs vs → KV (kvs.map fun p => (kL p.1, p.2)) (vs.map fun p => (kL p.1, p.2))
  | _, _, .nil => .nil
  | _, _, @Paired.cons _ _ _ p q ps qs ⟨h1, h2⟩ t => .cons ⟨by show kL p.1 = kL q.1; rw [h1], h2⟩ (kv_leaf (kvs := ps) (vs := qs) t)
/-- what a dict of ints and texts is among those -/
theorem dk_leaf {P : Program} {w : World} {H : Hp} {h : Heap} {a : Addr} {kvs : List (Key × V)} (x : ObjOk P w H h a (.dK kvs)) : LPhi P w a (kvs.map fun p => (kL p.1, p.2)) h := by
  obtain ⟨z, y, vs, r, d⟩ := x
  exact ⟨by rw [List.length_map]; exact z, y, _, kv_leaf r, dict_leaf d⟩
section
variable {X : Cx} {pins : List (Addr × Obj)} {σ : L2.St} {H : Hp} {s : Shared} {a b : Addr} {y v d : V} {u r : Value} {o : Option V} {A : Around} {E : Value → Shared → Prop}
/-- a tuple of ints and texts is a key, wherever it stands -/
theorem key_any {ks : List Key} (I : Inv X pins σ H s) (e : SqT X.K H b (ks.map kV)) : (tupleKind (mixKind X.prog X.w)).is s.heap ks b := by
  obtain ⟨its, r, ⟨o, h1, h2, n, h3⟩, _⟩ := I.tuple e
  refine ⟨o, _, n, h1, h2, h3, ?_⟩
  rw [List.toList_toArray]
  exact items_are r
theorem keys_are (I : Inv X pins σ H s) : ∀ {kas : List KA} {xs : List (List Key × Addr × Value)}, KRel kas xs → KeysAt X.K H kas → ∀ x ∈ xs, (tupleKind (mixKind X.prog X.w)).is s.heap x.1 x.2.1
  | _, _, .nil, _, _, hx => nomatch hx
  | _, _, @Paired.cons _ _ _ p q ps qs ⟨h1, h2, _⟩ t, hk, x, hx => by
    rcases List.mem_cons.mp hx with rfl | hx
    · have := key_any I (hk p List.mem_cons_self)
      rwa [h1, h2] at this
    · exact keys_are I (kas := ps) t (fun p hp => hk p (List.mem_cons_of_mem _ hp)) x hx
/-- what the dict at a holds at the key y -/
inductive DG (P : Program) (w : World) (K : PySem.W.Frag) (H : Hp) (a : Addr) (y : V) (r : Option V) : Prop
  | k {kvs : List (Key × V)} {k : Key} (e : Rd H a (.dK kvs)) (ey : y = kV k) (er : r = valV kvs k)
  | t {kas : List KA} {k : List Key} {b : Addr} {oe : Obj} (e : Rd H a (dTo P w a kas oe)) (hk : KeysAt K H kas) (ey : y = .ref b) (eb : SqT K H b (k.map kV)) (er : r = dVal kas k)
  | n {k : List Key} {b : Addr} (e : Rd H a (.dK [])) (ey : y = .ref b) (eb : SqT K H b (k.map kV)) (er : r = none)
  | l {kvs : List (Leaf × V)} {k : Leaf} (e : Rd H a (dLo P w a kvs) ∨ ∃ ks : List (Key × V), Rd H a (.dK ks) ∧ kvs = ks.map fun p => (kL p.1, p.2)) (ey : y = lV k) (er : r = valV kvs k)
/-- a dict, asked for a tuple -/
structure AskT (X : Cx) (s : Shared) (a : Addr) (y : V) (r : Option V) (b : Addr) (k : List Key) (xs : List (List Key × Addr × Value)) : Prop where
  ey : y = .ref b
  sys : (a == sysModules) = false
  key : (tupleKind (mixKind X.prog X.w)).is s.heap k b
  dict : s.heap.DictOfH (tupleKind (mixKind X.prog X.w)) a xs
  val : RelO r ((atKey xs k).map (·.2))
/-- .. for what may be None -/
structure AskL (X : Cx) (s : Shared) (a : Addr) (y : V) (r : Option V) (k : Leaf) (vs : List (Leaf × Value)) : Prop where
  ey : y = lV k
  sys : (a == sysModules) = false
  dict : s.heap.DictOf (leafKind X.prog X.w) a vs
  val : RelO r (valueAt vs k)
theorem lphi_at (I : Inv X pins σ H s) {kvs : List (Leaf × V)} (e : Rd H a (dLo X.prog X.w a kvs) ∨ ∃ ks : List (Key × V), Rd H a (.dK ks) ∧ kvs = ks.map fun p => (kL p.1, p.2)) : LPhi X.prog X.w a kvs s.heap := by
  rcases e with e | ⟨ks, e, rfl⟩
  · exact dLo_ok (e.ok I.hok)
  · exact dk_leaf (P := X.prog) (w := X.w) (H := H) (show ObjOk X.prog X.w H s.heap a (.dK ks) from e.ok I.hok)
theorem DG.both (I : Inv X pins σ H s) (g : DG X.prog X.w X.K H a y o) : (DGet H a y o ∨ ∃ k vs, AskL X s a y o k vs) ∨ ∃ b k xs, AskT X s a y o b k xs := by
  rcases g with ⟨e, ey, er⟩ | @⟨kas, k, b, oe, e, hk, ey, eb, er⟩ | @⟨k, b, e, ey, eb, er⟩ | @⟨kvs, k, e, ey, er⟩
  · exact .inl (.inl (.inl ⟨_, _, e, ey, er⟩))
  · obtain ⟨_, sys, xs, ob, es, ep, rel, d⟩ := dTo_ok (e.ok I.hok)
    exact .inr ⟨b, k, xs, ey, sys, key_any I eb, ⟨ob, es, ep, d.at_, d.ex, d.data, d.ent, keys_are I rel hk, d.nd⟩, er ▸ rel.val k⟩
  · have hn : ObjOk X.prog X.w H s.heap a (.dT []) := by
      obtain ⟨z, sys, vs, rel, ob, es, ep, h1, h2, h3, _, h4, _⟩ := (show ObjOk X.prog X.w H s.heap a (.dK []) from e.ok I.hok)
      cases rel
      have : es.toList = [] := by
        cases q : es.toList with
        | nil => rfl
        | cons _ _ => rw [q] at h4; cases h4
      exact ⟨z, sys, [], .nil, ob, es, ep, h1, h2, h3, this, List.nodup_nil⟩
    obtain ⟨_, sys, xs, rel, ob, es, ep, h1, h2, h3, h4, h5⟩ := hn
    cases rel
    exact .inr ⟨b, k, [], ey, sys, key_any I eb, ⟨ob, es, ep, h1, h2, h3, h4, (fun _ q => nomatch q), h5⟩, er ▸ True.intro⟩
  · obtain ⟨_, sys, vs, rel, d⟩ := lphi_at I e
    exact .inl (.inr ⟨k, vs, ey, sys, d, er ▸ rel.val k⟩)
theorem dg_getItem {Q : Value → Shared → Prop} (hu : A.units + 1 < cLine) (I : Inv X pins σ H s) (g : DG X.prog X.w X.K H a y (some v)) (ry : RelV y u) (h : ∀ w' s', Inv X pins σ H s' → RelV v w' → Q w' s') :
    wpAny (model X.prog X.w) A (getItem (.ref a) u) Q E s := by
  rcases g.both I with (g | ⟨k, vs, T⟩) | ⟨b, k, xs, T⟩
  · exact d_getItem hu I g ry h
  · rw [T.ey] at ry
    obtain ⟨w', hw, rw'⟩ := RelO.some_of T.val
    exact wpAny_getItem_of (lV_is ry) T.dict.mapOf hw (h w' _ (I.tok _) rw')
  · rw [T.ey] at ry
    cases ry
    obtain ⟨w', hw, rw'⟩ := RelO.some_of T.val
    cases ea : atKey xs k with
    | none => rw [ea] at hw; cases hw
    | some p => rw [ea] at hw; cases hw; exact wpAny_getItem_heap (tupleKind_room_in1 hu) T.key T.dict ea (h _ _ (I.tok _) rw')
theorem dg_in {Q : Value → Shared → Prop} (hu : A.units + 1 < cLine) (I : Inv X pins σ H s) (g : DG X.prog X.w X.K H a y o) (ry : RelV y u) (h : ∀ s', Inv X pins σ H s' → Q (.bool o.isSome) s') :
    wpAny (model X.prog X.w) A (compareOp .In u (.ref a)) Q E s := by
  rcases g.both I with (g | ⟨k, vs, T⟩) | ⟨b, k, xs, T⟩
  · exact d_in hu I g ry h
  · rw [T.ey] at ry
    refine wpAny_in_of (lV_is ry) T.sys T.dict.mapOf ?_
    rw [← T.val.isSome_eq]
    exact h _ (I.tok _)
  · rw [T.ey] at ry
    cases ry
    refine wpAny_in_heap (tupleKind_room_in1 hu) T.key T.sys T.dict ?_
    rw [← Option.isSome_map (f := Prod.snd), ← T.val.isSome_eq]
    exact h _ (I.tok _)
theorem dg_notIn {Q : Value → Shared → Prop} (hu : A.units + 1 < cLine) (I : Inv X pins σ H s) (g : DG X.prog X.w X.K H a y o) (ry : RelV y u) (h : ∀ s', Inv X pins σ H s' → Q (.bool (!o.isSome)) s') :
    wpAny (model X.prog X.w) A (compareOp .NotIn u (.ref a)) Q E s := by
  rcases g.both I with (g | ⟨k, vs, T⟩) | ⟨b, k, xs, T⟩
  · exact d_notIn hu I g ry h
  · rw [T.ey] at ry
    refine wpAny_notIn_of (lV_is ry) T.sys T.dict.mapOf ?_
    rw [← T.val.isSome_eq]
    exact h _ (I.tok _)
  · rw [T.ey] at ry
    cases ry
    refine wpAny_notIn_heap (tupleKind_room_in1 hu) T.key T.sys T.dict ?_
    rw [← Option.isSome_map (f := Prod.snd), ← T.val.isSome_eq]
    exact h _ (I.tok _)
theorem op_dg_in (hu : X.A.units + 1 < cLine) : OpR X (compareOp .In) (fun y x H Q => ∃ a o, x = .ref a ∧ DG X.prog X.w X.K H a y o ∧ Q (.bl o.isSome) H) :=
  fun pins s σ H y x u v Q I ry rx ⟨a, o, ex, g, q⟩ => by
    subst ex
    cases rx
    exact dg_in hu I g ry fun s' I' => ⟨.bl o.isSome, H, I', rfl, q⟩
theorem op_dg_notIn (hu : X.A.units + 1 < cLine) : OpR X (compareOp .NotIn) (fun y x H Q => ∃ a o, x = .ref a ∧ DG X.prog X.w X.K H a y o ∧ Q (.bl (!o.isSome)) H) :=
  fun pins s σ H y x u v Q I ry rx ⟨a, o, ex, g, q⟩ => by
    subst ex
    cases rx
    exact dg_notIn hu I g ry fun s' I' => ⟨.bl (!o.isSome), H, I', rfl, q⟩
/-- a is a dict, whatever its keys -/
def IsDc (P : Program) (w : World) (H : Hp) (a : Addr) : Prop := (∃ kvs, Rd H a (.dK kvs)) ∨ (∃ kas oe, Rd H a (dTo P w a kas oe)) ∨ ∃ kvs, Rd H a (dLo P w a kvs)
theorem DG.isDc {P : Program} {w : World} {K : PySem.W.Frag} (g : DG P w K H a y o) : IsDc P w H a := by
  rcases g with ⟨e, _, _⟩ | ⟨e, _, _, _, _⟩ | ⟨e, _, _, _⟩ | ⟨e, _, _⟩
  · exact .inl ⟨_, e⟩
  · exact .inr (.inl ⟨_, _, e⟩)
  · exact .inl ⟨_, e⟩
  · rcases e with e | ⟨ks, e, _⟩
    · exact .inr (.inr ⟨_, e⟩)
    · exact .inl ⟨_, e⟩
theorem IsDc.type (I : Inv X pins σ H s) (d : IsDc X.prog X.w H a) : s.TypeIs (.ref a) "dict" ∧ ∃ ob, s.heap.get? a = some ob ∧ ob.dict = none := by
  have key : ∃ ob, s.heap.get? a = some ob ∧ ob.ExactDict := by
    rcases d with ⟨kvs, e⟩ | ⟨kas, _, e⟩ | ⟨kvs, e⟩
    · obtain ⟨_, _, _, _, ob, _, _, h1, h2, _⟩ := (show ObjOk X.prog X.w H s.heap a (.dK kvs) from e.ok I.hok)
      exact ⟨ob, h1, h2⟩
    · obtain ⟨_, _, _, ob, _, _, _, d⟩ := dTo_ok (e.ok I.hok)
      exact ⟨ob, d.at_, d.ex⟩
    · obtain ⟨_, _, _, _, ob, _, _, h1, h2, _⟩ := dLo_ok (e.ok I.hok)
      exact ⟨ob, h1, h2⟩
  obtain ⟨ob, h1, h2⟩ := key
  exact ⟨⟨ob, h1, h2.1⟩, ob, h1, h2.2.1⟩
theorem ix_dg (hu : X.A.units + 1 < cLine) : IxR X (fun x y H Q => ∃ a v, x = .ref a ∧ DG X.prog X.w X.K H a y (some v) ∧ Q v H) :=
  fun value slice pins s σ H x y v u Q I rx ry ⟨a, z, ex, g, q⟩ hs => by
    subst ex
    cases rx
    exact tail_any (g.isDc.type I).1 PySem.F.slot_dict_getitem.lookup (dg_getItem hu I g ry fun w' s' I' rw' => ⟨z, H, I', rw', q⟩) hs
/-- list(d) -/
theorem call_list_dTo (hc : X.calm = true) : CallR X (.type "list") (fun xs H Q => ∃ d kas oe, xs = [V.ref d] ∧ Rd H d (dTo X.prog X.w d kas oe) ∧ ∀ p, H p = none → Q (.ref p) (upd H p (.lst ((kas.map fun p => p.2.1).map V.ref)))) := by
  intro pins s σ H xs us Q I rxs h
  obtain ⟨d, kas, oe, rfl, hd, q⟩ := h
  obtain ⟨u, rfl, rx⟩ := rxs.one
  cases rx
  obtain ⟨z, sys, ks, o, es, ep, rel, D⟩ := dTo_ok (hd.ok I.hok)
  have le : es.size = ks.length := size_of_entries D.ent
  refine PySem.W.kdl_call (kdl_raw sys D.ex D.data) (I.ok.hd hc) D.at_ (by have := rel.len; omega) fun h' tk acc c kp e it => ?_
  have key : ∀ (j : Nat) (hj : j < acc.toList.length), acc.toList[j] = Value.ref ((kas.map fun p => p.2.1)[j]'(by rw [List.length_map, rel.len, ← le, ← it.1]; simpa using hj)) := fun j hj => by
    obtain ⟨en, hen, hv⟩ := it.2 j acc.toList[j] (by rw [← Array.getElem?_toList, List.getElem?_eq_getElem hj])
    have qe := entry_at D.ent j
    rw [hen] at qe
    cases hb : ks[j]? with
    | none => rw [hb] at qe; cases qe
    | some b =>
      rw [hb] at qe
      cases qe
      have : (kas.map fun p => p.2.1)[j]? = some b.2.1 := by rw [← rel.addrs, List.getElem?_map, hb]; rfl
      obtain ⟨hj', e2⟩ := List.getElem?_eq_some_iff.mp this
      rw [hv, e2]; rfl
  have el : acc.toList = (kas.map fun p => p.2.1).map Value.ref := List.ext_getElem (by rw [List.length_map, List.length_map, rel.len, ← le, ← it.1]; simp) fun j h1 h2 => by rw [List.getElem_map]; exact key j h1
  refine ⟨.ref s.heap.objs.size, _, I.laid (t' := tk) (o := .lst ((kas.map fun p => p.2.1).map V.ref)) kp (Nat.le_refl _) ⟨by rw [List.length_map, List.length_map]; exact z, acc.toList, c, by rw [el]; exact vals_refs _, by rw [Array.toArray_toList]; exact e⟩, rfl, q _ (I.hok.fresh (Nat.le_refl _))⟩
end
end PL
namespace PL
open PySem L2

/-- a value as a tree: what is mutable stands in it as it is -/
inductive D where
  | non | bl (b : Bool) | int (i : Int) | str (s : Str)
  | tup (l : List D) | lst (l : List D)
  | dct (ks vs : List D)
  | obj (c : Nat) (ks : List Nat) (vs : List D)
  /-- a caught exception, its class's number, its fields -/
  | exc (c : Nat) (vs : List D)
  deriving Inhabited

abbrev Rg := Addr → Prop
abbrev Fp := List Addr
/-- what of the text the trees lean on: the written part, the classes' addresses, the attributes' names -/
structure G where
  K : PySem.W.Frag
  P : Program
  w : World
  CA : Nat → Addr
  AN : Nat → Str
  /-- in a maker: the instance that is made, at slot 0 -/
  self : Option V := none
  /-- in an except suite: the exception, its class, its fields' place -/
  exa : Option (Addr × Nat × Option Addr) := none
  /-- tables of code objects, each with the name of what is made there -/
  TB : List (Addr × Str) := []
  /-- in a def that was handed a function: that one's code object, its name -/
  cod : Option (Addr × Str) := none
  /-- in a def that was handed a function: the heap and the region where that one was made -/
  clo : Option (Hp × Rg) := none


/-- a key as a tree -/
def D.key : D → Option Key
  | .int i => some (.inl i)
  | .str s => some (.inr s)
  | _ => none
/-- .. None among them -/
def D.keyL : D → Option PySem.Leaf
  | .non => some .none
  | .int i => some (.num i)
  | .str s => some (.text s)
  | _ => none
def D.keyT : D → Option (List Key)
  | .tup l => l.mapM D.key
  | _ => none

/-- no table of code objects -/
def nTb (o : HO) : Prop := ∀ ps, o ≠ .tbl ps
/-- the heap grows: what stood stands; tables may grow as tables do -/
structure Ext (T : List (Addr × Str)) (H H' : Hp) : Prop where
  st : ∀ a o, H a = some o → nTb o → H' a = some o
  dom : ∀ a, (H a).isSome = true → (H' a).isSome = true
  tab : LamX.Tabs T H → LamX.Tabs T H'
variable {T : List (Addr × Str)}
theorem Ext.of {H H' : Hp} (k : ∀ a o, H a = some o → H' a = some o) : Ext T H H' := ⟨fun a o h _ => k a o h, fun a h => by
  cases e : H a with
  | none => rw [e] at h; cases h
  | some o => rw [k a o e]; rfl, fun h => LamX.Tabs.ext h k⟩
/-- the tables and the code object are there -/
def TabG (g : G) (H : Hp) : Prop := LamX.Tabs g.TB H ∧ ∀ p, g.cod = some p → H p.1 = some (LamX.CodeO p.1 p.2)
theorem nTb_cod {c : Addr} {q : Str} : nTb (LamX.CodeO c q) := fun _ z => by unfold LamX.CodeO at z; cases z
theorem Ext.tabG {g : G} {H H' : Hp} (e : Ext g.TB H H') (t : TabG g H) : TabG g H' := ⟨e.tab t.1, fun p z => e.st _ _ (t.2 p z) nTb_cod⟩
theorem Ext.refl (H : Hp) : Ext T H H := Ext.of fun _ _ h => h
theorem Ext.trans {H H1 H2 : Hp} (a : Ext T H H1) (b : Ext T H1 H2) : Ext T H H2 := ⟨fun x o h n => b.st x o (a.st x o h n) n, fun x h => b.dom x (a.dom x h), fun h => b.tab (a.tab h)⟩
theorem Ext.new {H : Hp} {p : Addr} {o : HO} (h : H p = none) : Ext T H (upd H p o) := Ext.of fun a u e => by
  rw [upd_ne (ne_of_none e h)]
  exact e
theorem Ext.back {H H' : Hp} {p : Addr} (e : Ext T H H') (h : H' p = none) : H p = none := by
  cases h1 : H p with
  | none => rfl
  | some o => have := e.dom p (by rw [h1]; rfl); rw [h] at this; cases this
theorem nTb_frz {ob : Obj} {u : HO} : nTb (.frz ob u) := fun _ q => HO.noConfusion q
theorem nTb_lst {xs : List V} : nTb (.lst xs) := fun _ q => HO.noConfusion q
theorem nTb_tup {xs : List V} : nTb (.tup xs) := fun _ q => HO.noConfusion q
theorem nTb_dK {kvs : List (Key × V)} : nTb (.dK kvs) := fun _ q => HO.noConfusion q
theorem nTb_ins {C dx : Addr} {fs : List (Str × V)} : nTb (.ins C dx fs) := fun _ q => HO.noConfusion q
theorem nTb_xd {fs : List (Str × V)} : nTb (.xd fs) := fun _ q => HO.noConfusion q
theorem nTb_ext {φ : Heap → Prop} : nTb (.ext φ) := fun _ q => HO.noConfusion q
theorem nTb_dTo {P : Program} {w : World} {a : Addr} {kas : List KA} {oe : Obj} : nTb (dTo P w a kas oe) := nTb_ext
/-- what is no table and no code object is written -/
theorem tabS_upd {H : Hp} {a p : Addr} {q : Str} {o u : HO} (h : LamX.TabS H p q) (ha : H a = some u) (n1 : nTb u) (n2 : ∀ c, u ≠ LamX.CodeO c q) : LamX.TabS (upd H a o) p q := by
  obtain ⟨ps, h1, h2, h3⟩ := h
  refine ⟨ps, by rw [upd_ne (fun e => by rw [e, ha] at h1; exact n1 ps (Option.some.inj h1))]; exact h1, h2, fun pos cv hc => ?_⟩
  obtain ⟨c, e1, e2⟩ := h3 pos cv hc
  exact ⟨c, e1, by rw [upd_ne (fun e => by rw [e, ha] at e2; exact n2 _ (Option.some.inj e2))]; exact e2⟩
theorem nTb_dLo {P : Program} {w : World} {a : Addr} {kvs : List (PySem.Leaf × V)} : nTb (dLo P w a kvs) := nTb_ext
/-- no table, no code object -/
def Pok (u : HO) : Prop := nTb u ∧ ∀ c q, u ≠ LamX.CodeO c q
theorem pok_lst {xs : List V} : Pok (.lst xs) := ⟨nTb_lst, fun c q z => by unfold LamX.CodeO at z; cases z⟩
theorem Pok.tab {H : Hp} {a : Addr} {o u : HO} (k : Pok u) (ha : H a = some u) (h : LamX.Tabs T H) : LamX.Tabs T (upd H a o) := fun p z => tabS_upd (h p z) ha k.1 fun c => k.2 c p.2
theorem Pok.cod {H : Hp} {a c : Addr} {q : Str} {o u : HO} (k : Pok u) (ha : H a = some u) (h : H c = some (LamX.CodeO c q)) : upd H a o c = some (LamX.CodeO c q) := by
  rw [upd_ne (fun e => by rw [e, ha] at h; exact k.2 _ _ (Option.some.inj h))]
  exact h
theorem Ext.rd {H H' : Hp} {a : Addr} {u : HO} (e : Ext T H H') (h : Rd H a u) (n : nTb u := by first | exact nTb_tup | exact nTb_lst | exact nTb_dK | exact nTb_dTo | exact nTb_ext) : Rd H' a u := by
  rcases h with h | ⟨o, h⟩
  · exact .inl (e.st a _ h n)
  · exact .inr ⟨o, e.st a _ h nTb_frz⟩
theorem Ext.seqT {K : PySem.W.Frag} {H H' : Hp} {a : Addr} {xs : List V} (e : Ext T H H') (h : SqT K H a xs) : SqT K H' a xs := by
  rcases h with h | h
  · exact .inl (e.rd h)
  · exact .inr h
/-- the tuples stay -/
def TupS (H H' : Hp) : Prop := ∀ a xs, (H a = some (.tup xs) → H' a = some (.tup xs)) ∧ ∀ o, H a = some (.frz o (.tup xs)) → H' a = some (.frz o (.tup xs))
theorem TupS.refl {H : Hp} : TupS H H := fun _ _ => ⟨id, fun _ => id⟩
theorem TupS.trans {H H1 H' : Hp} (a : TupS H H1) (b : TupS H1 H') : TupS H H' := fun x xs => ⟨fun h => (b x xs).1 ((a x xs).1 h), fun o h => (b x xs).2 o ((a x xs).2 o h)⟩
theorem TupS.ext {H H' : Hp} (e : Ext T H H') : TupS H H' := fun a _ => ⟨fun h => e.st a _ h nTb_tup, fun _ h => e.st a _ h nTb_frz⟩
theorem TupS.rd {H H' : Hp} {a : Addr} {xs : List V} (k : TupS H H') (h : Rd H a (.tup xs)) : Rd H' a (.tup xs) := by
  rcases h with h | ⟨o, h⟩
  · exact .inl ((k a xs).1 h)
  · exact .inr ⟨o, (k a xs).2 o h⟩
theorem TupS.poke {H : Hp} {p : Addr} {o u : HO} (hp : H p = some u) (hu : ∀ xs, u ≠ .tup xs) (hf : ∀ ob x, u ≠ .frz ob x) : TupS H (upd H p o) := fun a xs =>
  ⟨fun h => by rw [upd_ne (fun e => by subst e; rw [hp] at h; exact hu xs (Option.some.inj h))]; exact h, fun ob h => by rw [upd_ne (fun e => by subst e; rw [hp] at h; exact hf ob _ (Option.some.inj h))]; exact h⟩
theorem TupS.new {H : Hp} {p : Addr} {o : HO} (hp : H p = none) : TupS H (upd H p o) := .ext (Ext.new (T := []) hp)
/-- a tuple without a dict of its own -/
def SqN (K : PySem.W.Frag) (H : Hp) (a : Addr) (xs : List V) : Prop :=
  (∃ o, H a = some (.frz o (.tup xs)) ∧ o.dict = none) ∨ ∃ (o : Obj) (its : Array Value) (n : Nat), K.lookup a = some o ∧ o.cls = .type "tuple" ∧ o.dict = none ∧ o.data = .seq its n ∧ its.size ≤ sizeLine ∧ Vals xs its.toList
theorem SqN.sq {K : PySem.W.Frag} {H : Hp} {a : Addr} {xs : List V} (h : SqN K H a xs) : SqT K H a xs := by
  rcases h with ⟨o, h, _⟩ | ⟨o, its, n, h1, h2, _, h4, h5, h6⟩
  · exact .inl (.inr ⟨o, h⟩)
  · exact .inr ⟨o, its, n, h1, h2, h4, h5, h6⟩
theorem TupS.sqN {K : PySem.W.Frag} {H H' : Hp} {a : Addr} {xs : List V} (k : TupS H H') (h : SqN K H a xs) : SqN K H' a xs := by
  rcases h with ⟨o, h, e⟩ | h
  · exact .inl ⟨o, (k a xs).2 o h, e⟩
  · exact .inr h
theorem Ext.sqN {K : PySem.W.Frag} {H H' : Hp} {a : Addr} {xs : List V} (e : Ext T H H') (h : SqN K H a xs) : SqN K H' a xs := (TupS.ext e).sqN h
/-- only what d stands upon is asked: the nodes at A stay, those in S stay, the tuples stay -/
structure Kp (H H' : Hp) (S S' : Rg) (A : Fp) : Prop where
  own : ∀ a ∈ A, ∀ o, H a = some o → nTb o → H' a = some o
  frz : ∀ a, S a → S' a ∧ ∀ o, H a = some o → nTb o → H' a = some o
  tup : TupS H H'
theorem Kp.eq {H H' : Hp} {S S' : Rg} {A : Fp} (own : ∀ a ∈ A, H' a = H a) (frz : ∀ a, S a → S' a ∧ H' a = H a) (tup : TupS H H') : Kp H H' S S' A :=
  ⟨fun a q o h _ => (own a q).trans h, fun a q => ⟨(frz a q).1, fun o h _ => (frz a q).2.trans h⟩, tup⟩
theorem Ext.kp {H H' : Hp} {S S' : Rg} {A : Fp} (e : Ext T H H') (hs : ∀ a, S a → S' a) : Kp H H' S S' A :=
  ⟨fun a _ o h n => e.st a o h n, fun a q => ⟨hs a q, fun o h n => e.st a o h n⟩, .ext e⟩
theorem Kp.sub {H H' : Hp} {S S' : Rg} {A B : Fp} (k : Kp H H' S S' A) (h : ∀ a ∈ B, a ∈ A) : Kp H H' S S' B :=
  ⟨fun a ha => k.own a (h a ha), k.frz, k.tup⟩
theorem Kp.seqT {K : PySem.W.Frag} {H H' : Hp} {S S' : Rg} {A : Fp} {a : Addr} {xs : List V} (k : Kp H H' S S' A) (h : SqT K H a xs) : SqT K H' a xs := by
  rcases h with h | h
  · exact .inl (k.tup.rd h)
  · exact .inr h
theorem Kp.rd {H H' : Hp} {S S' : Rg} {A : Fp} {a : Addr} {u : HO} (k : Kp H H' S S' A) (s : S a) (h : Rd H a u) (n : nTb u := by first | exact nTb_lst | exact nTb_tup | exact nTb_dK | exact nTb_dTo) : Rd H' a u := by
  rcases h with h | ⟨o, h⟩
  · exact .inl ((k.frz a s).2 _ h n)
  · exact .inr ⟨o, (k.frz a s).2 _ h nTb_frz⟩

theorem Kp.trans {H H1 H' : Hp} {S S1 S' : Rg} {A : Fp} (a : Kp H H1 S S1 []) (b : Kp H1 H' S1 S' A) : Kp H H' S S' [] :=
  ⟨(fun _ q => nomatch q), fun x q => ⟨(b.frz x ((a.frz x q).1)).1, fun o h n => (b.frz x ((a.frz x q).1)).2 o ((a.frz x q).2 o h n) n⟩, a.tup.trans b.tup⟩
theorem Kp.wide {H H' : Hp} {S S' R : Rg} (a : Kp H H' S S' []) (h : ∀ x, S' x → R x) : Kp H H' S R [] := ⟨a.own, fun x q => ⟨h x (a.frz x q).1, (a.frz x q).2⟩, a.tup⟩

/-- how a dict with no tuple among its keys stands -/
def KR (P : Program) (w : World) (a : Addr) (ks : List D) (xs : List V) (u : HO) : Prop := (∃ kk, ks.mapM D.key = some kk ∧ u = .dK (kk.zip xs)) ∨ ∃ kk, ks ≠ [] ∧ ks.mapM D.keyL = some kk ∧ u = dLo P w a (kk.zip xs)
theorem KR.nTb {P : Program} {w : World} {a : Addr} {ks : List D} {xs : List V} {u : HO} (h : KR P w a ks xs u) : nTb u := by
  rcases h with ⟨kk, _, rfl⟩ | ⟨kk, _, _, rfl⟩
  · exact nTb_dK
  · exact nTb_dLo
theorem KR.nt {P : Program} {w : World} {a : Addr} {ks : List D} {xs : List V} {u : HO} (h : KR P w a ks xs u) : (∀ xs, u ≠ .tup xs) ∧ ∀ ob x, u ≠ .frz ob x := by
  rcases h with ⟨kk, _, rfl⟩ | ⟨kk, _, _, rfl⟩ <;> exact ⟨(fun _ q => HO.noConfusion q), fun _ _ q => HO.noConfusion q⟩
mutual
/-- d stands at v: its mutable nodes down to depth n are those at A, the deeper ones lie in S -/
def Own (g : G) (H : Hp) (S : Rg) : Nat → D → V → Fp → Prop
  | _, .non, v, A => v = .non ∧ A = []
  | _, .bl b, v, A => v = .bl b ∧ A = []
  | _, .int i, v, A => v = .int i ∧ A = []
  | _, .str s, v, A => v = .str s ∧ A = []
  | n, .tup l, v, A => ∃ a xs, v = .ref a ∧ SqN g.K H a xs ∧ (A = [] ∨ Rd H a (.tup xs)) ∧ OwnL g H S n l xs A
  | 0, .lst l, v, A => ∃ a xs, v = .ref a ∧ S a ∧ Rd H a (.lst xs) ∧ OwnL g H S 0 l xs A
  | n + 1, .lst l, v, A => ∃ a xs B, v = .ref a ∧ H a = some (.lst xs) ∧ A = a :: B ∧ OwnL g H S n l xs B
  | 0, .dct ks vs, v, A => ∃ a xs, v = .ref a ∧ S a ∧ ((∃ u, KR g.P g.w a ks xs u ∧ Rd H a u) ∨ (∃ (kk : List (List Key)) (as : List Addr), ks ≠ [] ∧ ks.mapM D.keyT = some kk ∧ as.length = ks.length ∧ OwnL g H S 0 ks (as.map V.ref) [] ∧ ∃ oe, Rd H a (dTo g.P g.w a (kk.zip (as.zip xs)) oe))) ∧ ks.length = vs.length ∧ OwnL g H S 0 vs xs A
  | n + 1, .dct ks vs, v, A => ∃ a xs B, v = .ref a ∧ ((∃ u, KR g.P g.w a ks xs u ∧ H a = some u) ∨ (∃ (kk : List (List Key)) (as : List Addr), ks ≠ [] ∧ ks.mapM D.keyT = some kk ∧ as.length = ks.length ∧ OwnL g H S 0 ks (as.map V.ref) [] ∧ ∃ oe, H a = some (dTo g.P g.w a (kk.zip (as.zip xs)) oe))) ∧ ks.length = vs.length ∧ A = a :: B ∧ OwnL g H S n vs xs B
  | 0, .obj c ks vs, v, A => ∃ a dx xs, v = .ref a ∧ S a ∧ H a = some (.ins (g.CA c) dx ((ks.map g.AN).zip xs)) ∧ ks.length = vs.length ∧ OwnL g H S 0 vs xs A
  | n + 1, .obj c ks vs, v, A => ∃ a dx xs B, v = .ref a ∧ H a = some (.ins (g.CA c) dx ((ks.map g.AN).zip xs)) ∧ ks.length = vs.length ∧ A = a :: B ∧ OwnL g H S n vs xs B
  | _, .exc c vs, v, A => ∃ a dd xs, v = .ref a ∧ g.exa = some (a, c, dd) ∧ A = [] ∧ ((∀ q, dd = some q → S q ∧ H q = some (.xd ([("at" : Str)].zip xs))) ∧ (dd = none → vs = []) ∧ ∀ z, g.clo = some z → Kp z.1 H z.2 S []) ∧ OwnL g H S 0 vs xs []
def OwnL (g : G) (H : Hp) (S : Rg) : Nat → List D → List V → Fp → Prop
  | _, [], xs, A => xs = [] ∧ A = []
  | n, d :: ds, xs, A => ∃ x ys B C, xs = x :: ys ∧ A = B ++ C ∧ Own g H S n d x B ∧ OwnL g H S n ds ys C
end

mutual
theorem Own.keep {g : G} {H H' : Hp} {S S' : Rg} : ∀ {n : Nat} {d : D} {v : V} {A : Fp}, Own g H S n d v A → Kp H H' S S' A → Own g H' S' n d v A
  | _, .non, _, _, h, _ => by unfold Own at h ⊢; exact h
  | _, .bl _, _, _, h, _ => by unfold Own at h ⊢; exact h
  | _, .int _, _, _, h, _ => by unfold Own at h ⊢; exact h
  | _, .str _, _, _, h, _ => by unfold Own at h ⊢; exact h
  | _, .tup l, _, _, h, k => by
    unfold Own at h ⊢
    obtain ⟨a, xs, rfl, t, tr, hl⟩ := h
    exact ⟨a, xs, rfl, k.tup.sqN t, tr.imp id k.tup.rd, OwnL.keep hl k⟩
  | 0, .lst l, _, _, h, k => by
    unfold Own at h ⊢
    obtain ⟨a, xs, rfl, s, t, hl⟩ := h
    exact ⟨a, xs, rfl, (k.frz a s).1, k.rd s t, OwnL.keep hl k⟩
  | n + 1, .lst l, _, _, h, k => by
    unfold Own at h ⊢
    obtain ⟨a, xs, B, rfl, t, rfl, hl⟩ := h
    exact ⟨a, xs, B, rfl, k.own a List.mem_cons_self _ t nTb_lst, rfl, OwnL.keep hl (k.sub fun _ hb => List.mem_cons_of_mem _ hb)⟩
  | 0, .dct ks vs, _, _, h, k => by
    unfold Own at h ⊢
    obtain ⟨a, xs, rfl, s, t, e, hl⟩ := h
    refine ⟨a, xs, rfl, (k.frz a s).1, ?_, e, OwnL.keep hl k⟩
    rcases t with ⟨kk, e1, t⟩ | ⟨kk, as, e0, e1, e2, ok, t⟩
    · exact .inl ⟨kk, e1, k.rd s t e1.nTb⟩
    · exact .inr ⟨kk, as, e0, e1, e2, OwnL.keep ok (k.sub fun _ q => nomatch q), t.imp fun _ t => k.rd s t⟩
  | n + 1, .dct ks vs, _, _, h, k => by
    unfold Own at h ⊢
    obtain ⟨a, xs, B, rfl, t, e, rfl, hl⟩ := h
    refine ⟨a, xs, B, rfl, ?_, e, rfl, OwnL.keep hl (k.sub fun _ hb => List.mem_cons_of_mem _ hb)⟩
    rcases t with ⟨kk, e1, t⟩ | ⟨kk, as, e0, e1, e2, ok, t⟩
    · exact .inl ⟨kk, e1, k.own a List.mem_cons_self _ t e1.nTb⟩
    · exact .inr ⟨kk, as, e0, e1, e2, OwnL.keep ok (k.sub fun _ q => nomatch q), t.imp fun _ t => k.own a List.mem_cons_self _ t nTb_dTo⟩
  | 0, .obj c ks vs, _, _, h, k => by
    unfold Own at h ⊢
    obtain ⟨a, dx, xs, rfl, s, t, e, hl⟩ := h
    exact ⟨a, dx, xs, rfl, (k.frz a s).1, (k.frz a s).2 _ t nTb_ins, e, OwnL.keep hl k⟩
  | n + 1, .obj c ks vs, _, _, h, k => by
    unfold Own at h ⊢
    obtain ⟨a, dx, xs, B, rfl, t, e, rfl, hl⟩ := h
    exact ⟨a, dx, xs, B, rfl, k.own a List.mem_cons_self _ t nTb_ins, e, rfl, OwnL.keep hl (k.sub fun _ hb => List.mem_cons_of_mem _ hb)⟩
  | _, .exc c vs, _, _, h, k => by
    unfold Own at h ⊢
    obtain ⟨a, dd, xs, rfl, e, rfl, hq, hl⟩ := h
    exact ⟨a, dd, xs, rfl, e, rfl, ⟨fun q z => ⟨(k.frz q (hq.1 q z).1).1, (k.frz q (hq.1 q z).1).2 _ (hq.1 q z).2 nTb_xd⟩, hq.2.1, fun z e => (hq.2.2 z e).trans k⟩, OwnL.keep hl (k.sub fun _ hb => nomatch hb)⟩
theorem OwnL.keep {g : G} {H H' : Hp} {S S' : Rg} : ∀ {n : Nat} {ds : List D} {xs : List V} {A : Fp}, OwnL g H S n ds xs A → Kp H H' S S' A → OwnL g H' S' n ds xs A
  | _, [], _, _, h, _ => by unfold OwnL at h ⊢; exact h
  | _, d :: ds, _, _, h, k => by
    unfold OwnL at h ⊢
    obtain ⟨x, ys, B, C, rfl, rfl, h1, h2⟩ := h
    exact ⟨x, ys, B, C, rfl, rfl, Own.keep h1 (k.sub fun _ hb => List.mem_append_left _ hb), OwnL.keep h2 (k.sub fun _ hb => List.mem_append_right _ hb)⟩
end

/- what stands at A is there -/
mutual
theorem Own.there {g : G} {H : Hp} {S : Rg} : ∀ {n : Nat} {d : D} {v : V} {A : Fp}, Own g H S n d v A → ∀ a ∈ A, (H a).isSome = true
  | _, .non, _, _, h => by unfold Own at h; rw [h.2]; intro a ha; cases ha
  | _, .bl _, _, _, h => by unfold Own at h; rw [h.2]; intro a ha; cases ha
  | _, .int _, _, _, h => by unfold Own at h; rw [h.2]; intro a ha; cases ha
  | _, .str _, _, _, h => by unfold Own at h; rw [h.2]; intro a ha; cases ha
  | _, .tup l, _, _, h => by unfold Own at h; obtain ⟨a, xs, rfl, t, tr, hl⟩ := h; exact OwnL.there hl
  | 0, .lst l, _, _, h => by unfold Own at h; obtain ⟨a, xs, rfl, s, t, hl⟩ := h; exact OwnL.there hl
  | n + 1, .lst l, _, _, h => by
    unfold Own at h; obtain ⟨a, xs, B, rfl, t, rfl, hl⟩ := h
    intro b hb
    rcases List.mem_cons.mp hb with rfl | hb
    · rw [t]; rfl
    · exact OwnL.there hl b hb
  | 0, .dct ks vs, _, _, h => by unfold Own at h; obtain ⟨a, xs, rfl, s, t, e, hl⟩ := h; exact OwnL.there hl
  | n + 1, .dct ks vs, _, _, h => by
    unfold Own at h; obtain ⟨a, xs, B, rfl, t, e, rfl, hl⟩ := h
    intro b hb
    rcases List.mem_cons.mp hb with rfl | hb
    · rcases t with ⟨_, _, t⟩ | ⟨_, _, _, _, _, _, _, t⟩ <;> (rw [t]; rfl)
    · exact OwnL.there hl b hb
  | 0, .obj c ks vs, _, _, h => by unfold Own at h; obtain ⟨a, dx, xs, rfl, s, t, e, hl⟩ := h; exact OwnL.there hl
  | n + 1, .obj c ks vs, _, _, h => by
    unfold Own at h; obtain ⟨a, dx, xs, B, rfl, t, e, rfl, hl⟩ := h
    intro b hb
    rcases List.mem_cons.mp hb with rfl | hb
    · rw [t]; rfl
    · exact OwnL.there hl b hb
  | _, .exc c vs, _, _, h => by unfold Own at h; obtain ⟨a, dd, xs, rfl, e, rfl, hq, hl⟩ := h; intro b hb; cases hb
theorem OwnL.there {g : G} {H : Hp} {S : Rg} : ∀ {n : Nat} {ds : List D} {xs : List V} {A : Fp}, OwnL g H S n ds xs A → ∀ a ∈ A, (H a).isSome = true
  | _, [], _, _, h => by unfold OwnL at h; rw [h.2]; intro a ha; cases ha
  | _, d :: ds, _, _, h => by
    unfold OwnL at h
    obtain ⟨x, ys, B, C, rfl, rfl, h1, h2⟩ := h
    intro a ha
    rcases List.mem_append.mp ha with ha | ha
    · exact Own.there h1 a ha
    · exact OwnL.there h2 a ha
end

/- weaken: from depth n to depth m: B stays owned, C is given to the region -/
def Spl (A B C : Fp) : Prop := (∀ a, a ∈ A ↔ a ∈ B ∨ a ∈ C) ∧ (A.Nodup → (B ++ C).Nodup)
theorem Spl.nil : Spl [] [] [] := ⟨fun a => by simp, fun _ => List.nodup_nil⟩
theorem Spl.app {A B C A' B' C' : Fp} (h : Spl A B C) (k : Spl A' B' C') : Spl (A ++ A') (B ++ B') (C ++ C') := by
  refine ⟨fun a => ?_, fun q => ?_⟩
  · simp only [List.mem_append, h.1 a, k.1 a]
    constructor
    · rintro ((h | h) | (h | h))
      · exact .inl (.inl h)
      · exact .inr (.inl h)
      · exact .inl (.inr h)
      · exact .inr (.inr h)
    · rintro ((h | h) | (h | h))
      · exact .inl (.inl h)
      · exact .inr (.inl h)
      · exact .inl (.inr h)
      · exact .inr (.inr h)
  · obtain ⟨q1, q2, q3⟩ := List.nodup_append.mp q
    obtain ⟨a1, a2, a3⟩ := List.nodup_append.mp (h.2 q1)
    obtain ⟨b1, b2, b3⟩ := List.nodup_append.mp (k.2 q2)
    have hB : ∀ a, a ∈ B → a ∈ A := fun a z => (h.1 a).mpr (.inl z)
    have hC : ∀ a, a ∈ C → a ∈ A := fun a z => (h.1 a).mpr (.inr z)
    have hB' : ∀ a, a ∈ B' → a ∈ A' := fun a z => (k.1 a).mpr (.inl z)
    have hC' : ∀ a, a ∈ C' → a ∈ A' := fun a z => (k.1 a).mpr (.inr z)
    refine List.nodup_append.mpr ⟨List.nodup_append.mpr ⟨a1, b1, fun a x b y => q3 a (hB a x) b (hB' b y)⟩, List.nodup_append.mpr ⟨a2, b2, fun a x b y => q3 a (hC a x) b (hC' b y)⟩, fun a x b y => ?_⟩
    rcases List.mem_append.mp x with x | x <;> rcases List.mem_append.mp y with y | y
    · exact a3 a x b y
    · exact q3 a (hB a x) b (hC' b y)
    · exact fun e => q3 b (hC b y) a (hB' a x) e.symm
    · exact b3 a x b y
theorem Spl.own {a : Addr} {A B C : Fp} (h : Spl A B C) : Spl (a :: A) (a :: B) C := by
  refine ⟨fun b => ?_, fun q => ?_⟩
  · simp only [List.mem_cons, h.1 b, or_assoc]
  · obtain ⟨q1, q2⟩ := List.nodup_cons.mp q
    show (a :: (B ++ C)).Nodup
    refine List.nodup_cons.mpr ⟨fun z => q1 ?_, h.2 q2⟩
    rw [h.1]
    exact List.mem_append.mp z
theorem Spl.give {a : Addr} {A B C : Fp} (h : Spl A B C) : Spl (a :: A) B (a :: C) := by
  refine ⟨fun b => ?_, fun q => ?_⟩
  · simp only [List.mem_cons, h.1 b]
    constructor
    · rintro (h | h | h)
      · exact .inr (.inl h)
      · exact .inl h
      · exact .inr (.inr h)
    · rintro (h | h | h)
      · exact .inr (.inl h)
      · exact .inl h
      · exact .inr (.inr h)
  · obtain ⟨q1, q2⟩ := List.nodup_cons.mp q
    obtain ⟨a1, a2, a3⟩ := List.nodup_append.mp (h.2 q2)
    refine List.nodup_append.mpr ⟨a1, List.nodup_cons.mpr ⟨fun z => q1 ((h.1 a).mpr (.inr z)), a2⟩, fun x hx y hy => ?_⟩
    rcases List.mem_cons.mp hy with rfl | hy
    · exact fun e => q1 ((h.1 y).mpr (.inl (e ▸ hx)))
    · exact a3 x hx y hy
mutual
theorem Own.weak {g : G} {H : Hp} {S : Rg} : ∀ {n m : Nat} {d : D} {v : V} {A : Fp}, m ≤ n → Own g H S n d v A →
    ∃ B C, (∀ R : Rg, (∀ a, S a → R a) → (∀ a ∈ C, R a) → Own g H R m d v B) ∧ Spl A B C
  | _, _, .non, _, _, _, h => by unfold Own at h; refine ⟨[], [], fun R _ _ => ?_, by rw [h.2]; exact .nil⟩; unfold Own; exact ⟨h.1, rfl⟩
  | _, _, .bl _, _, _, _, h => by unfold Own at h; refine ⟨[], [], fun R _ _ => ?_, by rw [h.2]; exact .nil⟩; unfold Own; exact ⟨h.1, rfl⟩
  | _, _, .int _, _, _, _, h => by unfold Own at h; refine ⟨[], [], fun R _ _ => ?_, by rw [h.2]; exact .nil⟩; unfold Own; exact ⟨h.1, rfl⟩
  | _, _, .str _, _, _, _, h => by unfold Own at h; refine ⟨[], [], fun R _ _ => ?_, by rw [h.2]; exact .nil⟩; unfold Own; exact ⟨h.1, rfl⟩
  | n, m, .tup l, _, A, hm, h => by
    unfold Own at h
    obtain ⟨a, xs, rfl, t, tr, hl⟩ := h
    obtain ⟨B, C, h1, h2⟩ := OwnL.weak hm hl
    refine ⟨B, C, fun R hS hC => ?_, h2⟩
    unfold Own
    refine ⟨a, xs, rfl, t, ?_, h1 R hS hC⟩
    rcases tr with rfl | tr
    · refine .inl (List.eq_nil_iff_forall_not_mem.mpr fun b hb => ?_)
      have := (h2.1 b).mpr (.inl hb)
      cases this
    · exact .inr tr
  | 0, 0, .lst l, _, A, hm, h => by
    unfold Own at h
    obtain ⟨a, xs, rfl, s, t, hl⟩ := h
    obtain ⟨B, C, h1, h2⟩ := OwnL.weak hm hl
    refine ⟨B, C, fun R hS hC => ?_, h2⟩
    unfold Own
    exact ⟨a, xs, rfl, hS a s, t, h1 R hS hC⟩
  | n + 1, 0, .lst l, _, A, hm, h => by
    unfold Own at h
    obtain ⟨a, xs, A', rfl, t, rfl, hl⟩ := h
    obtain ⟨B, C, h1, h2⟩ := OwnL.weak (Nat.zero_le n) hl
    refine ⟨B, a :: C, fun R hS hC => ?_, h2.give⟩
    unfold Own
    exact ⟨a, xs, rfl, hC a List.mem_cons_self, .inl t, h1 R hS fun b hb => hC b (List.mem_cons_of_mem _ hb)⟩
  | n + 1, m + 1, .lst l, _, A, hm, h => by
    unfold Own at h
    obtain ⟨a, xs, A', rfl, t, rfl, hl⟩ := h
    obtain ⟨B, C, h1, h2⟩ := OwnL.weak (Nat.le_of_succ_le_succ hm) hl
    refine ⟨a :: B, C, fun R hS hC => ?_, h2.own⟩
    unfold Own
    exact ⟨a, xs, B, rfl, t, rfl, h1 R hS hC⟩
  | 0, 0, .dct ks vs, _, A, hm, h => by
    unfold Own at h
    obtain ⟨a, xs, rfl, s, t, e, hl⟩ := h
    obtain ⟨B, C, h1, h2⟩ := OwnL.weak hm hl
    refine ⟨B, C, fun R hS hC => ?_, h2⟩
    unfold Own
    refine ⟨a, xs, rfl, hS a s, ?_, e, h1 R hS hC⟩
    rcases t with t | ⟨kk, as, e0, e1, e2, ok, t⟩
    · exact .inl t
    · exact .inr ⟨kk, as, e0, e1, e2, OwnL.keep ok (Kp.eq (fun _ q => nomatch q) (fun a q => ⟨hS a q, rfl⟩) .refl), t⟩
  | n + 1, 0, .dct ks vs, _, A, hm, h => by
    unfold Own at h
    obtain ⟨a, xs, A', rfl, t, e, rfl, hl⟩ := h
    obtain ⟨B, C, h1, h2⟩ := OwnL.weak (Nat.zero_le n) hl
    refine ⟨B, a :: C, fun R hS hC => ?_, h2.give⟩
    unfold Own
    refine ⟨a, xs, rfl, hC a List.mem_cons_self, ?_, e, h1 R hS fun b hb => hC b (List.mem_cons_of_mem _ hb)⟩
    rcases t with ⟨kk, e1, t⟩ | ⟨kk, as, e0, e1, e2, ok, t⟩
    · exact .inl ⟨kk, e1, .inl t⟩
    · exact .inr ⟨kk, as, e0, e1, e2, OwnL.keep ok (Kp.eq (fun _ q => nomatch q) (fun a q => ⟨hS a q, rfl⟩) .refl), t.imp fun _ t => .inl t⟩
  | n + 1, m + 1, .dct ks vs, _, A, hm, h => by
    unfold Own at h
    obtain ⟨a, xs, A', rfl, t, e, rfl, hl⟩ := h
    obtain ⟨B, C, h1, h2⟩ := OwnL.weak (Nat.le_of_succ_le_succ hm) hl
    refine ⟨a :: B, C, fun R hS hC => ?_, h2.own⟩
    unfold Own
    refine ⟨a, xs, B, rfl, ?_, e, rfl, h1 R hS hC⟩
    rcases t with t | ⟨kk, as, e0, e1, e2, ok, t⟩
    · exact .inl t
    · exact .inr ⟨kk, as, e0, e1, e2, OwnL.keep ok (Kp.eq (fun _ q => nomatch q) (fun a q => ⟨hS a q, rfl⟩) .refl), t⟩
  | 0, 0, .obj c ks vs, _, A, hm, h => by
    unfold Own at h
    obtain ⟨a, dx, xs, rfl, s, t, e, hl⟩ := h
    obtain ⟨B, C, h1, h2⟩ := OwnL.weak hm hl
    refine ⟨B, C, fun R hS hC => ?_, h2⟩
    unfold Own
    exact ⟨a, dx, xs, rfl, hS a s, t, e, h1 R hS hC⟩
  | n + 1, 0, .obj c ks vs, _, A, hm, h => by
    unfold Own at h
    obtain ⟨a, dx, xs, A', rfl, t, e, rfl, hl⟩ := h
    obtain ⟨B, C, h1, h2⟩ := OwnL.weak (Nat.zero_le n) hl
    refine ⟨B, a :: C, fun R hS hC => ?_, h2.give⟩
    unfold Own
    exact ⟨a, dx, xs, rfl, hC a List.mem_cons_self, t, e, h1 R hS fun b hb => hC b (List.mem_cons_of_mem _ hb)⟩
  | n + 1, m + 1, .obj c ks vs, _, A, hm, h => by
    unfold Own at h
    obtain ⟨a, dx, xs, A', rfl, t, e, rfl, hl⟩ := h
    obtain ⟨B, C, h1, h2⟩ := OwnL.weak (Nat.le_of_succ_le_succ hm) hl
    refine ⟨a :: B, C, fun R hS hC => ?_, h2.own⟩
    unfold Own
    exact ⟨a, dx, xs, B, rfl, t, e, rfl, h1 R hS hC⟩
  | n, m, .exc c vs, _, A, hm, h => by
    unfold Own at h
    obtain ⟨a, dd, xs, rfl, e, rfl, hq, hl⟩ := h
    obtain ⟨B, C, h1, h2⟩ := OwnL.weak (Nat.le_refl 0) hl
    have eB : B = [] := List.eq_nil_iff_forall_not_mem.mpr fun b hb => nomatch (h2.1 b).mpr (.inl hb)
    have eC : C = [] := List.eq_nil_iff_forall_not_mem.mpr fun b hb => nomatch (h2.1 b).mpr (.inr hb)
    subst eB eC
    refine ⟨[], [], fun R hS hC => ?_, .nil⟩
    unfold Own
    exact ⟨a, dd, xs, rfl, e, rfl, ⟨fun q z => ⟨hS q (hq.1 q z).1, (hq.1 q z).2⟩, hq.2.1, fun z e => (hq.2.2 z e).wide hS⟩, h1 R hS fun _ hb => nomatch hb⟩
theorem OwnL.weak {g : G} {H : Hp} {S : Rg} : ∀ {n m : Nat} {ds : List D} {xs : List V} {A : Fp}, m ≤ n → OwnL g H S n ds xs A →
    ∃ B C, (∀ R : Rg, (∀ a, S a → R a) → (∀ a ∈ C, R a) → OwnL g H R m ds xs B) ∧ Spl A B C
  | _, _, [], _, _, _, h => by unfold OwnL at h; refine ⟨[], [], fun R _ _ => ?_, by rw [h.2]; exact .nil⟩; unfold OwnL; exact ⟨h.1, rfl⟩
  | n, m, d :: ds, _, A, hm, h => by
    unfold OwnL at h
    obtain ⟨x, ys, A1, A2, rfl, rfl, h1, h2⟩ := h
    obtain ⟨B1, C1, a1, a2⟩ := Own.weak hm h1
    obtain ⟨B2, C2, b1, b2⟩ := OwnL.weak hm h2
    refine ⟨B1 ++ B2, C1 ++ C2, fun R hS hC => ?_, a2.app b2⟩
    unfold OwnL
    exact ⟨x, ys, B1, B2, rfl, rfl, a1 R hS fun b hb => hC b (List.mem_append_left _ hb), b1 R hS fun b hb => hC b (List.mem_append_right _ hb)⟩
end

/- at depth 0 nothing is owned -/
mutual
theorem Own.zero {g : G} {H : Hp} {S : Rg} : ∀ {d : D} {v : V} {A : Fp}, Own g H S 0 d v A → A = []
  | .non, _, _, h => by unfold Own at h; exact h.2
  | .bl _, _, _, h => by unfold Own at h; exact h.2
  | .int _, _, _, h => by unfold Own at h; exact h.2
  | .str _, _, _, h => by unfold Own at h; exact h.2
  | .tup l, _, _, h => by unfold Own at h; obtain ⟨a, xs, rfl, t, tr, hl⟩ := h; exact OwnL.zero hl
  | .lst l, _, _, h => by unfold Own at h; obtain ⟨a, xs, rfl, s, t, hl⟩ := h; exact OwnL.zero hl
  | .dct ks vs, _, _, h => by unfold Own at h; obtain ⟨a, xs, rfl, s, t, e, hl⟩ := h; exact OwnL.zero hl
  | .obj c ks vs, _, _, h => by unfold Own at h; obtain ⟨a, dx, xs, rfl, s, t, e, hl⟩ := h; exact OwnL.zero hl
  | .exc c vs, _, _, h => by unfold Own at h; obtain ⟨a, dd, xs, rfl, e, rfl, hq, hl⟩ := h; rfl
theorem OwnL.zero {g : G} {H : Hp} {S : Rg} : ∀ {ds : List D} {xs : List V} {A : Fp}, OwnL g H S 0 ds xs A → A = []
  | [], _, _, h => by unfold OwnL at h; exact h.2
  | d :: ds, _, _, h => by
    unfold OwnL at h
    obtain ⟨x, ys, B, C, rfl, rfl, h1, h2⟩ := h
    rw [Own.zero h1, OwnL.zero h2]
    rfl
end

/- no mutable node deeper than n -/
mutual
def immB : Nat → D → Bool
  | _, .non => true
  | _, .bl _ => true
  | _, .int _ => true
  | _, .str _ => true
  | n, .tup l => immBL n l
  | 0, .lst _ => false
  | n + 1, .lst l => immBL n l
  | 0, .dct _ _ => false
  | n + 1, .dct _ vs => immBL n vs
  | 0, .obj _ _ _ => false
  | n + 1, .obj _ _ vs => immBL n vs
  | _, .exc _ _ => false
def immBL : Nat → List D → Bool
  | _, [] => true
  | n, d :: ds => immB n d && immBL n ds
end

theorem key_imm {n : Nat} : ∀ {d : D} {k : Key}, d.key = some k → immB n d = true
  | .int _, _, _ => by unfold immB; rfl
  | .str _, _, _ => by unfold immB; rfl
  | .non, _, h => nomatch h
  | .bl _, _, h => nomatch h
  | .tup _, _, h => nomatch h
  | .lst _, _, h => nomatch h
  | .dct _ _, _, h => nomatch h
  | .obj _ _ _, _, h => nomatch h
  | .exc _ _, _, h => nomatch h
theorem mapM_cons_some {α β : Type} {f : α → Option β} {x : α} {xs : List α} {ys : List β} (h : (x :: xs).mapM f = some ys) : ∃ y zs, ys = y :: zs ∧ f x = some y ∧ xs.mapM f = some zs := by
  rw [List.mapM_cons] at h
  cases e : f x with
  | none => rw [e] at h; cases h
  | some y =>
    rw [e] at h
    cases e2 : xs.mapM f with
    | none => rw [e2] at h; cases h
    | some zs => rw [e2] at h; cases h; exact ⟨y, zs, rfl, rfl, rfl⟩
theorem keys_imm {n : Nat} : ∀ {l : List D} {k : List Key}, l.mapM D.key = some k → immBL n l = true
  | [], _, _ => by unfold immBL; rfl
  | d :: l, _, h => by
    obtain ⟨y, zs, rfl, h1, h2⟩ := mapM_cons_some h
    unfold immBL
    rw [key_imm h1, keys_imm h2]; rfl
theorem keyT_tup {d : D} {k : List Key} (h : d.keyT = some k) : ∃ l, d = .tup l ∧ l.mapM D.key = some k := by
  cases d with
  | tup l => exact ⟨l, rfl, h⟩
  | _ => cases h
theorem keyTs_imm {n : Nat} : ∀ {l : List D} {k : List (List Key)}, l.mapM D.keyT = some k → immBL n l = true
  | [], _, _ => by unfold immBL; rfl
  | d :: l, _, h => by
    obtain ⟨y, zs, rfl, h1, h2⟩ := mapM_cons_some h
    obtain ⟨q, rfl, h3⟩ := keyT_tup h1
    unfold immBL immB
    rw [keys_imm h3, keyTs_imm h2]; rfl

/- where nothing mutable is deeper the region does not matter, nor does a greater depth -/
mutual
theorem Own.imm {g : G} {H : Hp} {S R : Rg} : ∀ {n m : Nat} {d : D} {v : V} {A : Fp}, n ≤ m → immB n d = true → Own g H S n d v A → Own g H R m d v A
  | _, _, .non, _, _, _, _, h => by unfold Own at h ⊢; exact h
  | _, _, .bl _, _, _, _, _, h => by unfold Own at h ⊢; exact h
  | _, _, .int _, _, _, _, _, h => by unfold Own at h ⊢; exact h
  | _, _, .str _, _, _, _, _, h => by unfold Own at h ⊢; exact h
  | n, m, .tup l, _, _, hm, i, h => by
    unfold Own at h ⊢
    obtain ⟨a, xs, rfl, t, tr, hl⟩ := h
    exact ⟨a, xs, rfl, t, tr, OwnL.imm hm (by simpa only [immB] using i) hl⟩
  | 0, _, .lst l, _, _, hm, i, h => by simp [immB] at i
  | n + 1, 0, .lst l, _, _, hm, i, h => absurd hm (by omega)
  | n + 1, m + 1, .lst l, _, _, hm, i, h => by
    unfold Own at h ⊢
    obtain ⟨a, xs, B, rfl, t, rfl, hl⟩ := h
    exact ⟨a, xs, B, rfl, t, rfl, OwnL.imm (Nat.le_of_succ_le_succ hm) (by simpa only [immB] using i) hl⟩
  | 0, _, .dct ks vs, _, _, hm, i, h => by simp [immB] at i
  | n + 1, 0, .dct ks vs, _, _, hm, i, h => absurd hm (by omega)
  | n + 1, m + 1, .dct ks vs, _, _, hm, i, h => by
    unfold Own at h ⊢
    obtain ⟨a, xs, B, rfl, t, e, rfl, hl⟩ := h
    refine ⟨a, xs, B, rfl, ?_, e, rfl, OwnL.imm (Nat.le_of_succ_le_succ hm) (by simpa only [immB] using i) hl⟩
    rcases t with t | ⟨kk, as, e0, e1, e2, ok, t⟩
    · exact .inl t
    · exact .inr ⟨kk, as, e0, e1, e2, OwnL.imm (Nat.le_refl 0) (keyTs_imm e1) ok, t⟩
  | 0, _, .obj c ks vs, _, _, hm, i, h => by simp [immB] at i
  | n + 1, 0, .obj c ks vs, _, _, hm, i, h => absurd hm (by omega)
  | n + 1, m + 1, .obj c ks vs, _, _, hm, i, h => by
    unfold Own at h ⊢
    obtain ⟨a, dx, xs, B, rfl, t, e, rfl, hl⟩ := h
    exact ⟨a, dx, xs, B, rfl, t, e, rfl, OwnL.imm (Nat.le_of_succ_le_succ hm) (by simpa only [immB] using i) hl⟩
  | _, _, .exc c vs, _, _, hm, i, h => by simp [immB] at i
theorem OwnL.imm {g : G} {H : Hp} {S R : Rg} : ∀ {n m : Nat} {ds : List D} {xs : List V} {A : Fp}, n ≤ m → immBL n ds = true → OwnL g H S n ds xs A → OwnL g H R m ds xs A
  | _, _, [], _, _, _, _, h => by unfold OwnL at h ⊢; exact h
  | n, m, d :: ds, _, _, hm, i, h => by
    unfold OwnL at h ⊢
    obtain ⟨x, ys, B, C, rfl, rfl, h1, h2⟩ := h
    simp only [immBL, Bool.and_eq_true] at i
    exact ⟨x, ys, B, C, rfl, rfl, Own.imm hm i.1 h1, OwnL.imm hm i.2 h2⟩
end

theorem OwnL.length {g : G} {H : Hp} {S : Rg} {n : Nat} : ∀ {ds : List D} {xs : List V} {A : Fp}, OwnL g H S n ds xs A → xs.length = ds.length
  | [], _, _, h => by unfold OwnL at h; rw [h.1]; rfl
  | d :: ds, _, _, h => by
    unfold OwnL at h
    obtain ⟨x, ys, B, C, rfl, rfl, h1, h2⟩ := h
    rw [List.length_cons, List.length_cons, OwnL.length h2]
theorem OwnL.get {g : G} {H : Hp} {S : Rg} {n : Nat} : ∀ {ds : List D} {xs : List V} {A : Fp} {i : Nat} {d : D}, OwnL g H S n ds xs A → ds[i]? = some d → ∃ x B, xs[i]? = some x ∧ Own g H S n d x B ∧ ∀ a ∈ B, a ∈ A
  | [], _, _, _, _, h, e => by simp at e
  | c :: ds, _, _, 0, d, h, e => by
    unfold OwnL at h
    obtain ⟨x, ys, B, C, rfl, rfl, h1, h2⟩ := h
    simp at e
    subst e
    exact ⟨x, B, rfl, h1, fun a ha => List.mem_append_left _ ha⟩
  | c :: ds, _, _, i + 1, d, h, e => by
    unfold OwnL at h
    obtain ⟨x, ys, B, C, rfl, rfl, h1, h2⟩ := h
    obtain ⟨z, B', e1, e2, e3⟩ := OwnL.get h2 (by simpa using e)
    exact ⟨z, B', by simpa using e1, e2, fun a ha => List.mem_append_right _ (e3 a ha)⟩
theorem OwnL.append {g : G} {H : Hp} {S : Rg} {n : Nat} : ∀ {ds es : List D} {xs ys : List V} {A B : Fp}, OwnL g H S n ds xs A → OwnL g H S n es ys B → OwnL g H S n (ds ++ es) (xs ++ ys) (A ++ B)
  | [], _, _, _, _, _, h, k => by unfold OwnL at h; rw [h.1, h.2]; exact k
  | c :: ds, _, _, _, _, _, h, k => by
    unfold OwnL at h
    obtain ⟨x, zs, B', C, rfl, rfl, h1, h2⟩ := h
    show OwnL g H S n (c :: (ds ++ _)) (x :: (zs ++ _)) _
    unfold OwnL
    exact ⟨x, _, B', _, rfl, List.append_assoc _ _ _, h1, OwnL.append h2 k⟩
theorem OwnL.nil {g : G} {H : Hp} {S : Rg} {n : Nat} : OwnL g H S n [] [] [] := by unfold OwnL; exact ⟨rfl, rfl⟩
theorem OwnL.one {g : G} {H : Hp} {S : Rg} {n : Nat} {d : D} {x : V} {A : Fp} (h : Own g H S n d x A) : OwnL g H S n [d] [x] A := by
  unfold OwnL
  exact ⟨x, [], A, [], rfl, (List.append_nil _).symm, h, OwnL.nil⟩
theorem OwnL.cons {g : G} {H : Hp} {S : Rg} {n : Nat} {d : D} {ds : List D} {x : V} {xs : List V} {A B : Fp} (h : Own g H S n d x A) (k : OwnL g H S n ds xs B) : OwnL g H S n (d :: ds) (x :: xs) (A ++ B) := by
  unfold OwnL
  exact ⟨x, xs, A, B, rfl, rfl, h, k⟩

/-- what is owned is no tuple -/
def noTup (H : Hp) (a : Addr) : Prop := ∀ xs, ¬ Rd H a (.tup xs)
theorem noTup_of {H : Hp} {a : Addr} {o : HO} (h : H a = some o) (k : (∀ xs, o ≠ .tup xs) ∧ ∀ ob u, o ≠ .frz ob u) : noTup H a := fun xs q => by
  rcases q with q | ⟨ob, q⟩
  · rw [h] at q; cases q; exact k.1 xs rfl
  · rw [h] at q; cases q; exact k.2 ob _ rfl
mutual
theorem Own.notup {g : G} {H : Hp} {S : Rg} : ∀ {n : Nat} {d : D} {v : V} {A : Fp}, Own g H S n d v A → ∀ a ∈ A, noTup H a
  | _, .non, _, _, h => by unfold Own at h; rw [h.2]; intro a ha; cases ha
  | _, .bl _, _, _, h => by unfold Own at h; rw [h.2]; intro a ha; cases ha
  | _, .int _, _, _, h => by unfold Own at h; rw [h.2]; intro a ha; cases ha
  | _, .str _, _, _, h => by unfold Own at h; rw [h.2]; intro a ha; cases ha
  | _, .tup l, _, _, h => by unfold Own at h; obtain ⟨a, xs, rfl, t, tr, hl⟩ := h; exact OwnL.notup hl
  | 0, .lst l, _, _, h => by unfold Own at h; obtain ⟨a, xs, rfl, s, t, hl⟩ := h; exact OwnL.notup hl
  | n + 1, .lst l, _, _, h => by
    unfold Own at h; obtain ⟨a, xs, B, rfl, t, rfl, hl⟩ := h
    intro b hb
    rcases List.mem_cons.mp hb with rfl | hb
    · exact noTup_of t ⟨(fun _ q => HO.noConfusion q), fun _ _ q => HO.noConfusion q⟩
    · exact OwnL.notup hl b hb
  | 0, .dct ks vs, _, _, h => by unfold Own at h; obtain ⟨a, xs, rfl, s, t, e, hl⟩ := h; exact OwnL.notup hl
  | n + 1, .dct ks vs, _, _, h => by
    unfold Own at h; obtain ⟨a, xs, B, rfl, t, e, rfl, hl⟩ := h
    intro b hb
    rcases List.mem_cons.mp hb with rfl | hb
    · rcases t with ⟨_, kr, t⟩ | ⟨_, _, _, _, _, _, _, t⟩
      · exact noTup_of t kr.nt
      · exact noTup_of t ⟨(fun _ q => HO.noConfusion q), fun _ _ q => HO.noConfusion q⟩
    · exact OwnL.notup hl b hb
  | 0, .obj c ks vs, _, _, h => by unfold Own at h; obtain ⟨a, dx, xs, rfl, s, t, e, hl⟩ := h; exact OwnL.notup hl
  | n + 1, .obj c ks vs, _, _, h => by
    unfold Own at h; obtain ⟨a, dx, xs, B, rfl, t, e, rfl, hl⟩ := h
    intro b hb
    rcases List.mem_cons.mp hb with rfl | hb
    · exact noTup_of t ⟨(fun _ q => HO.noConfusion q), fun _ _ q => HO.noConfusion q⟩
    · exact OwnL.notup hl b hb
  | _, .exc c vs, _, _, h => by unfold Own at h; obtain ⟨a, dd, xs, rfl, e, rfl, hq, hl⟩ := h; intro b hb; cases hb
theorem OwnL.notup {g : G} {H : Hp} {S : Rg} : ∀ {n : Nat} {ds : List D} {xs : List V} {A : Fp}, OwnL g H S n ds xs A → ∀ a ∈ A, noTup H a
  | _, [], _, _, h => by unfold OwnL at h; rw [h.2]; intro a ha; cases ha
  | _, d :: ds, _, _, h => by
    unfold OwnL at h
    obtain ⟨x, ys, B, C, rfl, rfl, h1, h2⟩ := h
    intro a ha
    rcases List.mem_append.mp ha with ha | ha
    · exact Own.notup h1 a ha
    · exact OwnL.notup h2 a ha
end
end PL
namespace PL
open PySem L2

inductive Bop | add | sub | mul | fdiv | mod | pow
  deriving DecidableEq
/-- nel: a list, any items, != [] -/
inductive Cop | eq | ne | lt | le | gt | ge | isN | notN | isin | notin | nel
  deriving DecidableEq
/-- what is walked: a sequence, ranges, enumerate, zip, a dict's items -/
inductive SK | seq | rng1 | rng2 | rng3 | enum | zip | items | ezip
  deriving DecidableEq
def SK.isRng : SK → Bool
  | .rng1 => true | .rng2 => true | .rng3 => true | _ => false
/-- what yields pairs -/
def SK.isPr : SK → Bool
  | .enum => true | .zip => true | .items => true | .ezip => true | _ => false
/-- built-in functions -/
inductive Bi | len | abs | sum | max1 | min1 | max2 | min2 | list | tuple | str | int | all | any | sorted | repr | reprL | bool
  deriving DecidableEq
/-- which of them are asked only where nothing is handled -/
def Bi.calmy : Bi → Bool
  | .len => false | .repr => false | _ => true
/-- methods of built-in types -/
inductive Bm | count | index | get1 | get2 | join | split
  deriving DecidableEq
/-- what isinstance asks -/
inductive Ty | int | bool | tuple | list | str | dict | float
  deriving DecidableEq

inductive Ex where
  | var (i : Nat)
  | con (d : D)
  | glo (k : Nat)
  | bin (o : Bop) (a b : Ex)
  | neg (a : Ex)
  | cmp (o : Cop) (a b : Ex)
  | cmp2 (o p : Cop) (a b c : Ex)
  | cmp3 (o p q : Cop) (a b c d : Ex)
  | and (a b : Ex) | or (a b : Ex) | not (a : Ex)
  | ife (c a b : Ex)
  | ix (a i : Ex)
  | omit
  | sl (a lo hi : Ex)
  | rev (a : Ex)
  | fld (a : Ex) (f : Nat)
  | isi (a : Ex) (t : Ty)
  | call (f : Nat) (es : List Ex)
  | meth (m : Nat) (a : Ex) (es : List Ex)
  | mk (c : Nat) (es : List Ex)
  | bi (b : Bi) (es : List Ex)
  | bm (m : Bm) (a : Ex) (es : List Ex)
  /-- list(range(a)), list(range(a, b)) -/
  | lrng1 (a : Ex)
  | lrng (a b : Ex)
  /-- sorted(set(a)), a list of whole numbers -/
  | sset (a : Ex)
  | nset (a : Ex)
  | tup (es : List Ex)
  | lst (es : List Ex)
  | dct0
  /-- {k: v, ..}: the keys and values in turn -/
  | dctl (es : List Ex)
  /-- dict(list of pairs), the keys tuples -/
  | dctc (e : Ex)
  | isE (a : Ex) (cs : List Nat)
  | atE (a : Ex)
  /-- d.get(k), d.get(k, x) -/
  | dg1 (a k : Ex)
  | dg2 (a k x : Ex)
  | comp (k : SK) (args : List Ex) (tg : List Nat) (elt : Ex)
  | compIf (k : SK) (args : List Ex) (tg : List Nat) (elt cond : Ex)
  /-- f(a, lambda x: b): js, the captured slots; within b x is slot 0, then they -/
  | hof (f : Nat) (a : Ex) (js : List Nat) (b : Ex)
  /-- the function that was handed over, asked -/
  | callK (i : Nat) (e : Ex)
  /-- a new tuple's item, its nodes kept -/
  | ixo (a : Ex) (k : Int)
  | dead
  deriving Inhabited

/-- an exception: its class's number, what stands at its field at -/
structure Exn where
  c : Nat
  a : Option D
inductive Res where
  /-- a value; how deep its mutable nodes are nobody else's -/
  | ok (d : D) (n : Nat)
  | exn (e : Exn)
  | bad
inductive RT where
  | ok (b : Bool)
  | exn (e : Exn)
  | bad
inductive RL where
  | ok (l : List (D × Nat))
  | exn (e : Exn)
  | bad
def Res.bind (r : Res) (f : D → Res) : Res := match r with | .ok d _ => f d | .exn e => .exn e | .bad => .bad
def Res.bindT (r : Res) (f : D → RT) : RT := match r with | .ok d _ => f d | .exn e => .exn e | .bad => .bad
def RT.bind (r : RT) (f : Bool → Res) : Res := match r with | .ok d => f d | .exn e => .exn e | .bad => .bad
def RT.bindT (r : RT) (f : Bool → RT) : RT := match r with | .ok d => f d | .exn e => .exn e | .bad => .bad
def RL.bind (r : RL) (f : List D → Res) : Res := match r with | .ok l => f (l.map (·.1)) | .exn e => .exn e | .bad => .bad
def RL.bindN (r : RL) (f : List (D × Nat) → Res) : Res := match r with | .ok l => f l | .exn e => .exn e | .bad => .bad
@[simp] theorem Res.bind_ok (d : D) (n : Nat) (f : D → Res) : (Res.ok d n).bind f = f d := rfl
@[simp] theorem Res.bind_exn (e : Exn) (f : D → Res) : (Res.exn e).bind f = .exn e := rfl
@[simp] theorem Res.bind_bad (f : D → Res) : Res.bad.bind f = .bad := rfl
@[simp] theorem Res.bindT_ok (d : D) (n : Nat) (f : D → RT) : (Res.ok d n).bindT f = f d := rfl
@[simp] theorem Res.bindT_exn (e : Exn) (f : D → RT) : (Res.exn e).bindT f = .exn e := rfl
@[simp] theorem Res.bindT_bad (f : D → RT) : Res.bad.bindT f = .bad := rfl
@[simp] theorem RT.bind_ok (b : Bool) (f : Bool → Res) : (RT.ok b).bind f = f b := rfl
@[simp] theorem RT.bind_exn (e : Exn) (f : Bool → Res) : (RT.exn e).bind f = .exn e := rfl
@[simp] theorem RT.bind_bad (f : Bool → Res) : RT.bad.bind f = .bad := rfl
@[simp] theorem RT.bindT_ok (b : Bool) (f : Bool → RT) : (RT.ok b).bindT f = f b := rfl
@[simp] theorem RT.bindT_exn (e : Exn) (f : Bool → RT) : (RT.exn e).bindT f = .exn e := rfl
@[simp] theorem RT.bindT_bad (f : Bool → RT) : RT.bad.bindT f = .bad := rfl
@[simp] theorem RL.bind_ok (l : List (D × Nat)) (f : List D → Res) : (RL.ok l).bind f = f (l.map (·.1)) := rfl
@[simp] theorem RL.bind_exn (e : Exn) (f : List D → Res) : (RL.exn e).bind f = .exn e := rfl
@[simp] theorem RL.bind_bad (f : List D → Res) : RL.bad.bind f = .bad := rfl
@[simp] theorem RL.bindN_ok (l : List (D × Nat)) (f : List (D × Nat) → Res) : (RL.ok l).bindN f = f l := rfl
@[simp] theorem RL.bindN_exn (e : Exn) (f : List (D × Nat) → Res) : (RL.exn e).bindN f = .exn e := rfl
@[simp] theorem RL.bindN_bad (f : List (D × Nat) → Res) : RL.bad.bindN f = .bad := rfl

/-- the defs that a body may call: functions, methods (by the receiver's class), makers; the module's constants -/
structure Fe where
  fn : Nat → List D → Res
  me : Nat → Nat → List D → Res
  ma : Nat → List D → Res
  gl : Nat → D
  /-- the attributes that instances of a class may have -/
  fo : Nat → Nat → Bool
  /-- the methods that a class has -/
  mh : Nat → Nat → Bool
  /-- of the exceptions' classes: is the one of the other -/
  sub : Nat → Nat → Option Bool := fun _ _ => none
  /-- classes that may be raised with a text, with a number -/
  rz : Nat → Bool := fun _ => false
  ra : Nat → Bool := fun _ => false
  /-- defs that are handed a function -/
  hf : Nat → D → (List D → Res) → Res := fun _ _ _ => .bad
  /-- the function that was handed over -/
  kl : List D → Res := fun _ => .bad
  /-- methods that change what they are of: what is told, the thing behind, how deep it is owned -/
  mu : Nat → Nat → D → Nat → List D → Option (D × D × Nat) := fun _ _ _ _ _ => none
  muh : Nat → Nat → Bool := fun _ _ => false

mutual
def eqD : D → D → Bool
  | .non, .non => true
  | .bl a, .bl b => a == b
  | .bl a, .int j => (if a then 1 else 0) == j
  | .int i, .bl b => i == (if b then 1 else 0)
  | .int i, .int j => i == j
  | .str x, .str y => x == y
  | .lst xs, .lst ys => eqDL xs ys
  | .tup xs, .tup ys => eqDL xs ys
  | _, _ => false
def eqDL : List D → List D → Bool
  | [], [] => true
  | x :: xs, y :: ys => eqD x y && eqDL xs ys
  | _, _ => false
end
/- data that == looks at, of bounded depth -/
mutual
def shp : Nat → D → Bool
  | _, .non => true
  | _, .bl _ => true
  | _, .int _ => true
  | _, .str s => PyData.canLay0 (.str s)
  | 0, _ => false
  | n + 1, .tup l => shpL n l
  | n + 1, .lst l => shpL n l
  | _, _ => false
def shpL : Nat → List D → Bool
  | _, [] => true
  | n, d :: ds => shp n d && shpL n ds
end
def flatD : D → Bool
  | .non => true
  | .bl _ => true
  | .int _ => true
  | .str _ => true
  | _ => false

/-- a small number (said so that the kernel doesn't count) -/
def smallI (i : Int) : Bool := decide (i.natAbs.log2 < 61)
theorem small_bd {i : Int} (h : smallI i = true) : -(2 ^ 61) ≤ i ∧ i < 2 ^ 61 := by
  unfold smallI at h
  replace h := of_decide_eq_true h
  by_cases h0 : i.natAbs = 0
  · omega
  · have := (Nat.log2_lt h0).mp h
    omega
def mulOk (i j : Int) : Bool := decide (i.natAbs.log2 + j.natAbs.log2 < 2 ^ 26)
def divOk (j : Int) : Bool := decide (j ≠ 0) && decide (j.natAbs.log2 < 9000)
def powOk (i j : Int) : Bool := decide (0 ≤ j) && decide ((i.natAbs.log2 + 1 : Nat) * j ≤ 2 ^ 26)
abbrev szLine : Nat := 16777216

def binD (o : Bop) (x y : D) : Res :=
  match o, x, y with
  | .add, .int i, .int j => .ok (.int (i + j)) 0
  | .sub, .int i, .int j => .ok (.int (i - j)) 0
  | .mul, .int i, .int j => if mulOk i j then .ok (.int (i * j)) 0 else .bad
  | .fdiv, .int i, .int j => if divOk j then .ok (.int (i.fdiv j)) 0 else .bad
  | .mod, .int i, .int j => if decide (j ≠ 0) then .ok (.int (i.fmod j)) 0 else .bad
  | .pow, .int i, .int j => if powOk i j then .ok (.int (i ^ j.toNat)) 0 else .bad
  | .add, .str a, .str b => if decide (a.length + b.length ≤ szLine) then .ok (.str (a ++ b)) 0 else .bad
  | .add, .lst a, .lst b => if decide (a.length + b.length ≤ szLine) then .ok (.lst (a ++ b)) 1 else .bad
  | .add, .tup a, .tup b => if decide (a.length + b.length ≤ szLine) then .ok (.tup (a ++ b)) 0 else .bad
  | .mul, .lst a, .int k => if smallI k && decide (a.length * k.toNat ≤ szLine) then .ok (.lst (List.replicate k.toNat a).flatten) 1 else .bad
  | .mul, .tup a, .int k => if decide (k = 1) then .ok (.tup a) 0 else if !a.isEmpty && decide (2 ≤ k) && decide (k ≤ 1000) && decide (a.length ≤ 1000) then .ok (.tup (List.replicate k.toNat a).flatten) 0 else .bad
  | _, _, _ => .bad

/-- the place that an index means -/
def atD (l : List D) (i : Int) : Res := match atI l i with | some d => .ok d 0 | none => .bad
def strAt (s : Str) (i : Int) : Res := match atI s.cps.toList i with | some c => if decide (s.length ≤ szLine) then .ok (.str ⟨#[c]⟩) 0 else .bad | none => .bad
/-- where a key stands among keys -/
def keyD : D → D → Bool
  | .non, .non => true
  | .int i, .int j => i == j
  | .str x, .str y => x == y
  | .tup a, .tup b => match (D.tup a).keyT, (D.tup b).keyT with
    | some x, some y => decide (x = y)
    | _, _ => false
  | _, _ => false
def lookD (k : D) : List D → List D → Option D
  | q :: ks, v :: vs => if keyD q k then some v else lookD k ks vs
  | _, _ => none
def keyOk (k : D) (ks : List D) : Bool := (k.key.isSome && (ks.mapM D.key).isSome) || (k.keyT.isSome && (ks.mapM D.keyT).isSome) || (k.keyL.isSome && (ks.mapM D.keyL).isSome)
def ixD (x i : D) : Res :=
  match x, i with
  | .lst l, .int k => atD l k
  | .tup l, .int k => atD l k
  | .str s, .int k => strAt s k
  | .dct ks vs, k => if keyOk k ks then (match lookD k ks vs with | some d => .ok d 0 | none => .bad) else .bad
  | _, _ => .bad
def farD : D → Bool
  | .lst _ => true
  | .tup _ => true
  | .dct [] [] => true
  | _ => false
def isStrD : D → Bool
  | .str _ => true
  | _ => false


def inD (x : D) : List D → Bool
  | [] => false
  | y :: ys => eqD y x || inD x ys
def D.isNon : D → Bool
  | .non => true
  | _ => false
def unI : List D → Option (List Int)
  | [] => some []
  | d :: ds => match d with
    | .int i => (unI ds).map (i :: ·)
    | _ => none
/-- a whole number and a list of whole numbers -/
def unIL : List D → Option (Int × List Int)
  | [.int i, .lst a] => (unI a).map fun x => (i, x)
  | _ => none
def ltIL (x y : Int × List Int) : Bool := if x.1 = y.1 then decide (x.2 < y.2) else decide (x.1 < y.1)
def cmpD (o : Cop) (x y : D) : Res :=
  match o, x, y with
  | .eq, x, y => if shp 60 x && shp 60 y then .ok (.bl (eqD x y)) 0 else .bad
  | .ne, x, y => if shp 60 x && shp 60 y then .ok (.bl (!eqD x y)) 0 else .bad
  | .lt, .int i, .int j => .ok (.bl (decide (i < j))) 0
  | .le, .int i, .int j => .ok (.bl (decide (i ≤ j))) 0
  | .gt, .int i, .int j => .ok (.bl (decide (j < i))) 0
  | .ge, .int i, .int j => .ok (.bl (decide (j ≤ i))) 0
  | .lt, .lst a, .lst b => (match unI a, unI b with
    | some xs, some ys => .ok (.bl (decide (xs < ys))) 0
    | _, _ => .bad)
  | .gt, .tup a, .tup b => (match unIL a, unIL b with
    | some x, some y => .ok (.bl (ltIL y x)) 0
    | _, _ => .bad)
  | .isN, x, .non => .ok (.bl x.isNon) 0
  | .notN, x, .non => .ok (.bl (!x.isNon)) 0
  | .isN, .bl a, .bl b => .ok (.bl (decide (a = b))) 0
  | .notN, .bl a, .bl b => .ok (.bl (!decide (a = b))) 0
  | .isin, x, .lst l => if flatD x && l.all flatD then .ok (.bl (inD x l)) 0 else if shp 60 x && shp 60 (.lst l) then .ok (.bl (l.any fun z => eqD z x)) 0 else .bad
  | .isin, x, .tup l => if flatD x && l.all flatD then .ok (.bl (inD x l)) 0 else .bad
  | .notin, x, .lst l => if flatD x && l.all flatD then .ok (.bl (!inD x l)) 0 else if shp 60 x && shp 60 (.lst l) then .ok (.bl (!l.any fun z => eqD z x)) 0 else .bad
  | .notin, x, .tup l => if flatD x && l.all flatD then .ok (.bl (!inD x l)) 0 else if farD x && l.all isStrD then .ok (.bl true) 0 else .bad
  | .isin, x, .dct ks vs => if keyOk x ks then .ok (.bl (lookD x ks vs).isSome) 0 else .bad
  | .notin, x, .dct ks vs => if keyOk x ks then .ok (.bl (!(lookD x ks vs).isSome)) 0 else .bad
  | .nel, .lst l, .lst [] => .ok (.bl (!l.isEmpty)) 0
  | .nel, .dct ks vs, .dct [] [] => if (ks.mapM D.keyT).isSome then .ok (.bl (!ks.isEmpty)) 0 else .bad
  | _, _, _ => .bad

def truD : D → RT
  | .non => .ok false
  | .bl b => .ok b
  | .int i => .ok (i != 0)
  | .str s => if decide (s.length ≤ szLine) then .ok ((s.length : Int) != 0) else .bad
  | .lst l => .ok (!l.isEmpty)
  | .tup l => .ok (!l.isEmpty)
  | _ => .bad

def isiD (t : Ty) (d : D) : Res :=
  match t, d with
  | .int, .int _ => .ok (.bl true) 0
  | .int, .bl _ => .ok (.bl true) 0
  | .bool, .bl _ => .ok (.bl true) 0
  | .tuple, .tup _ => .ok (.bl true) 0
  | .list, .lst _ => .ok (.bl true) 0
  | .str, .str _ => .ok (.bl true) 0
  | _, .obj _ _ _ => .bad
  | .dict, .dct [] _ => .ok (.bl true) 0
  | _, .dct [] _ => .ok (.bl false) 0
  | t, .dct (k :: ks) _ => if ((k :: ks).mapM D.keyT).isSome then .ok (.bl (decide (t = .dict))) 0 else .bad
  | _, .exc _ _ => .bad
  | _, _ => .ok (.bl false) 0

def anyS (f : Nat → Option Bool) : List Nat → Option Bool
  | [] => some false
  | c :: cs => match f c with
    | some true => some true
    | some false => anyS f cs
    | none => none
def isED (sub : Nat → Nat → Option Bool) (cs : List Nat) : D → Res
  | .exc c _ => match anyS (sub c) cs with
    | some b => .ok (.bl b) 0
    | none => .bad
  | _ => .bad
def atED : D → Res
  | .exc _ [d] => .ok d 0
  | _ => .bad
def fldL (f : Nat) : List Nat → List D → Option D
  | k :: ks, v :: vs => if k = f then some v else fldL f ks vs
  | _, _ => none
def fldD (fo : Nat → Nat → Bool) (f : Nat) : D → Res
  | .obj c ks vs => if fo c f then (match fldL f ks vs with | some d => .ok d 0 | none => .bad) else .bad
  | _ => .bad

def cutD (l : List D) (lo hi : Option Int) : List D := (l.drop (HT.sIx l.length 0 lo)).take (HT.sIx l.length l.length hi - HT.sIx l.length 0 lo)
def slD (x : D) (lo hi : Option Int) : Res :=
  match x with
  | .lst l => .ok (.lst (cutD l lo hi)) 1
  | .tup l => .ok (.tup (cutD l lo hi)) 0
  | .str s => if decide (s.length ≤ szLine) then .ok (.str (cutS s lo hi)) 0 else .bad
  | _ => .bad

def revD (x : D) : Res :=
  match x with
  | .lst l => .ok (.lst l.reverse) 1
  | _ => .bad
def rngD (lo : Int) (n : Nat) : List D := (List.range n).map fun i => .int (lo + (i : Nat))
/-- how many turns a range by steps has -/
def stepN (i j : Int) (c : Nat) : Nat := if i < j then ((j - i - 1) / (c : Int)).toNat + 1 else 0
/-- the items of what is walked -/
def items : SK → List D → Option (List D)
  | .seq, [.lst l] => some l
  | .seq, [.tup l] => some l
  | .seq, [.dct ks _] => if !ks.isEmpty && (ks.mapM D.keyT).isSome then some ks else none
  | .items, [.dct ks vs] => if !ks.isEmpty && (ks.mapM D.keyT).isSome then some ((ks.zip vs).map fun p => .tup [p.1, p.2]) else none
  | .rng1, [.int j] => if smallI j then some (rngD 0 j.toNat) else none
  | .rng2, [.int i, .int j] => if smallI i && smallI j then some (rngD i (j - i).toNat) else none
  | .rng3, [.int i, .int j, .int (-1)] => if smallI i && smallI j then some ((List.range (i - j).toNat).map fun k => .int (i - (k : Nat))) else none
  | .rng3, [.int i, .int j, .int (.ofNat (c + 1))] => if smallI i && smallI j && decide (c < 1000000) then some ((List.range (stepN i j (c + 1))).map fun k => .int (i + (k : Nat) * ((c + 1 : Nat) : Int))) else none
  | .enum, [.lst l] => some (l.zipIdx.map fun p => .tup [.int (p.2 : Nat), p.1])
  | .ezip, [.lst a, .lst b] => some ((a.zip b).zipIdx.map fun p => .tup [.int (p.2 : Nat), .tup [p.1.1, p.1.2]])
  | .zip, [.lst a, .lst b] => some ((a.zip b).map fun p => .tup [p.1, p.2])
  | .zip, [.tup a, .tup b] => some ((a.zip b).map fun p => .tup [p.1, p.2])
  | _, _ => none

abbrev Ev := List (Option D)
/-- a target takes an item -/
def bindE : List Nat → List D → Ev → Option Ev
  | [], [], δ => some δ
  | i :: is, d :: ds, δ => bindE is ds (δ.set i (some d))
  | _, _, _ => none
def takeE (tg : List Nat) (d : D) (δ : Ev) : Option Ev :=
  match tg, d with
  | [i], d => some (δ.set i (some d))
  | tg, .tup l => bindE tg l δ
  | _, _ => none
/-- the slots of a block's own names are forgotten -/
def wipeE (δ : Ev) : List Nat → Ev
  | [] => δ
  | v :: vs => (wipeE δ vs).set v none

/-- one item of a comprehension behind another -/
def compL (tg : List Nat) (elt : Ev → Res) (cond : Ev → RT) : List D → Ev → RL
  | [], _ => .ok []
  | x :: xs, δ => match takeE tg x δ with
    | none => .bad
    | some δ1 => match cond δ1 with
      | .ok true => match elt δ1 with
        | .ok d n => match compL tg elt cond xs δ with
          | .ok l => .ok ((d, n) :: l)
          | .exn e => .exn e
          | .bad => .bad
        | .exn _ => .bad
        | .bad => .bad
      | .ok false => compL tg elt cond xs δ
      | .exn _ => .bad
      | .bad => .bad

/-- how deep a new node owns: one more than its children, those without deeper nodes left out -/
def dep : List (D × Nat) → Nat
  | [] => 9
  | (d, n) :: r => if immB n d then dep r else min n (dep r)
def newL (l : List (D × Nat)) : Res := if decide (l.length ≤ szLine) then .ok (.lst (l.map (·.1))) (dep l + 1) else .bad
def newT (l : List (D × Nat)) : Res := if decide (l.length ≤ szLine) then .ok (.tup (l.map (·.1))) (dep l) else .bad

/-- rows of whole numbers -/
def unR : List D → Option (List (List Int))
  | [] => some []
  | d :: ds => match d with
    | .lst l => (match unI l, unR ds with
      | some ns, some rs => some (ns :: rs)
      | _, _ => none)
    | _ => none
def unT : List D → Option (List (List Int))
  | [] => some []
  | d :: ds => match d with
    | .tup l => (match unI l, unT ds with
      | some ns, some rs => some (ns :: rs)
      | _, _ => none)
    | _ => none
def minR (r : List Int) (l : List (List Int)) : List Int := l.foldl (fun b x => if x < b then x else b) r
def unP : List D → Option (List (Int × Int))
  | [] => some []
  | d :: ds => match d with
    | .tup [.int a, .int b] => (unP ds).map ((a, b) :: ·)
    | _ => none
def pairD (p : Int × Int) : D := .tup [.int p.1, .int p.2]
def ltPr (p q : Int × Int) : Bool := if p.1 = q.1 then decide (p.2 < q.2) else decide (p.1 < q.1)
/-- the least pair, of alike ones the first -/
def minPr (p : Int × Int) (l : List (Int × Int)) : Int × Int := l.foldl (fun b x => if ltPr x b = true then x else b) p
mutual
/-- a tree as the kit's data -/
def toP : D → PyData
  | .non => .none
  | .bl b => .bool b
  | .int i => .int i
  | .str s => .str s
  | .tup l => .tuple (toPL l)
  | .lst l => .list (toPL l)
  | _ => .none
def toPL : List D → List PyData
  | [] => []
  | d :: ds => toP d :: toPL ds
end
/-- a container's text -/
def shwD (d : D) : Option Str := match d with
  | .lst _ => if shp 60 d && (toP d).showable && decide ((toP d).shown.length ≤ szLine) then some (toP d).shown else none
  | .tup _ => if shp 60 d && (toP d).showable && decide ((toP d).shown.length ≤ szLine) then some (toP d).shown else none
  | _ => none
mutual
def noAd : PyData → Bool
  | .list _ => false
  | .dict _ => false
  | .tuple l => noAdL l
  | _ => true
def noAdL : List PyData → Bool
  | [] => true
  | d :: l => noAd d && noAdL l
end
def shwT (ks vs : List D) : Option Str := if !ks.isEmpty && (ks.mapM D.keyT).isSome && noAdL (toPL ks) && noAdL (toPL vs) && shpL 58 ks && shpL 58 vs && (PyData.dict ((toPL ks).zip (toPL vs))).showable && decide ((PyData.dict ((toPL ks).zip (toPL vs))).depth ≤ 62) && decide ((PyData.dict ((toPL ks).zip (toPL vs))).shown.length ≤ szLine) then some (PyData.dict ((toPL ks).zip (toPL vs))).shown else none
def unB : List D → Option (List Bool)
  | [] => some []
  | d :: ds => match d with
    | .bl i => (unB ds).map (i :: ·)
    | _ => none
def insI (x : Int) : List Int → List Int
  | [] => [x]
  | y :: l => if x ≤ y then x :: y :: l else y :: insI x l
def srtI : List Int → List Int
  | [] => []
  | x :: l => insI x (srtI l)
/-- rising, each once -/
def insU (x : Int) : List Int → List Int
  | [] => [x]
  | y :: l => if x < y then x :: y :: l else if x = y then y :: l else y :: insU x l
def ssI : List Int → List Int
  | [] => []
  | x :: l => insU x (ssI l)
def ssetD (d : D) : Res := match d with
  | .lst l => (match unI l with
    | some ns => if decide (ns.length < 4000) && decide ((ssI ns).length < 64) then .ok (.lst ((ssI ns).map D.int)) 1 else .bad
    | none => .bad)
  | .tup l => (match unI l with
    | some ns => if decide (ns.length < 4000) && decide ((ssI ns).length < 64) then .ok (.lst ((ssI ns).map D.int)) 1 else .bad
    | none => .bad)
  | _ => .bad
/-- how many unlike ones -/
def nsetD (d : D) : Res := match d with
  | .lst l => (match unI l with
    | some ns => if decide (ns.length < 4000) then .ok (.int ((ssI ns).length : Nat)) 0 else .bad
    | none => .bad)
  | _ => .bad
def biD (b : Bi) (l : List D) : Res :=
  match b, l with
  | .len, [.lst l] => .ok (.int (l.length : Nat)) 0
  | .len, [.tup l] => .ok (.int (l.length : Nat)) 0
  | .len, [.dct ks vs] => if (ks.mapM D.keyT).isSome && decide (ks.length ≤ szLine) then .ok (.int (ks.length : Nat)) 0 else .bad
  | .len, [.str s] => if decide (s.length ≤ szLine) then .ok (.int (s.length : Nat)) 0 else .bad
  | .abs, [.int i] => .ok (.int (if i < 0 then -i else i)) 0
  | .sum, [.lst l] => match unI l with | some ns => .ok (.int ns.sum) 0 | none => .bad
  | .max2, [.int i, .int j] => .ok (.int (if j > i then j else i)) 0
  | .min2, [.int i, .int j] => .ok (.int (if j < i then j else i)) 0
  | .list, [.lst l] => .ok (.lst l) 1
  | .list, [.tup l] => .ok (.lst l) 1
  | .list, [.dct ks vs] => if (ks.mapM D.keyT).isSome then .ok (.lst ks) 1 else .bad
  | .tuple, [.lst l] => .ok (.tup l) 0
  | .tuple, [.tup l] => .ok (.tup l) 0
  | .all, [.lst l] => match unB l with | some ns => .ok (.bl (ns.all id)) 0 | none => .bad
  | .any, [.lst l] => match unB l with | some ns => .ok (.bl (ns.any id)) 0 | none => .bad
  | .str, [.int i] => if decide (i.natAbs.log2 < 1920) then .ok (.str (toString i)) 0 else .bad
  | .int, [.int i] => .ok (.int i) 0
  | .int, [.bl k] => .ok (.int (if k then 1 else 0)) 0
  | .max1, [.lst l] => match unI l with | some (n :: ns) => .ok (.int (ns.foldl max n)) 0 | _ => .bad
  | .min1, [.lst l] => match unI l with | some (n :: ns) => .ok (.int (ns.foldl min n)) 0 | _ => (match unP l with | some (p :: ps) => .ok (pairD (minPr p ps)) 0 | _ => (match unR l with | some (r :: rs) => .ok (.lst ((minR r rs).map D.int)) 0 | _ => .bad))
  | .repr, [.int i] => if decide (i.natAbs.log2 < 1920) then .ok (.str (toString i)) 0 else .bad
  | .repr, [.non] => .ok (.str "None") 0
  | .repr, [.bl b] => .ok (.str (if b then "True" else "False")) 0
  | .sum, [.tup l] => match unI l with | some ns => .ok (.int ns.sum) 0 | none => .bad
  | .sorted, [.lst l] => match unI l with | some ns => .ok (.lst ((srtI ns).map D.int)) 1 | none => (match unR l with | some rs => .ok (.lst ((rs.mergeSort fun a b => decide (a ≤ b)).map fun r => .lst (r.map D.int))) 1 | none => .bad)
  | .reprL, [.int i] => if decide (i.natAbs.log2 < 1920) then .ok (.str (toString i)) 0 else .bad
  | .reprL, [.non] => .ok (.str "None") 0
  | .reprL, [.bl b] => .ok (.str (if b then "True" else "False")) 0
  | .reprL, [.str x] => if decide ((reprText x).length ≤ szLine) then .ok (.str (reprText x)) 0 else .bad
  | .reprL, [.dct ks vs] => match shwT ks vs with | some x => .ok (.str x) 0 | none => .bad
  | .sorted, [.dct ks vs] => if !ks.isEmpty && (ks.mapM D.keyT).isSome then (match unT ks with | some ts => if ts.all (fun t => !t.isEmpty) then .ok (.lst ((ts.mergeSort fun a b => decide (a ≤ b)).map fun r => .tup (r.map D.int))) 1 else .bad | none => .bad) else .bad
  | .reprL, [d] => match shwD d with | some x => .ok (.str x) 0 | none => .bad
  | .bool, [.int i] => .ok (.bl (i != 0)) 0
  | .bool, [.bl b] => .ok (.bl b) 0
  | _, _ => .bad
/-- methods of lists -/
def bmD (m : Bm) (d : List D) (l : List D) : Res :=
  match m, l with
  | .count, [y] => if d.all flatD && flatD y then .ok (.int (d.countP fun e => eqD e y : Nat)) 0 else .bad
  | .index, [y] => if d.all flatD && flatD y then (match d.findIdx? fun e => eqD e y with | some j => .ok (.int (j : Nat)) 0 | none => .bad) else .bad
  | _, _ => .bad
/-- a dict's answer to get -/
def dgD (ks vs : List D) (k x : D) : Res := if keyOk k ks then .ok ((lookD k ks vs).getD x) 0 else .bad
def lrngD (x y : D) : Res := match x, y with
  | .int i, .int j => if smallI i && smallI j && decide ((j - i).toNat ≤ szLine) then .ok (.lst (rngD i (j - i).toNat)) 10 else .bad
  | _, _ => .bad

/-- a slice's part -/
def optI (r : Option Res) (f : Option Int → Res) : Res := match r with
  | none => f none
  | some r => r.bind fun x => match x with | .int i => f (some i) | _ => .bad
def Ex.isOmit : Ex → Bool
  | .omit => true
  | _ => false
/-- a dict with another value at a key, or one more -/
def setV (k v : D) : List D → List D → List D
  | q :: ks, x :: vs => (if keyD q k then v else x) :: setV k v ks vs
  | _, _ => []
def putDk (k v : D) (ks vs : List D) : List D × List D := if (lookD k ks vs).isSome then (ks, setV k v ks vs) else (ks ++ [k], vs ++ [v])
def pairsOf : List D → Option (List (D × D))
  | [] => some []
  | [_] => none
  | k :: v :: r => (pairsOf r).map ((k, v) :: ·)
def putAll : List (D × D) → List D × List D → List D × List D
  | [], r => r
  | p :: ps, r => putAll ps (putDk p.1 p.2 r.1 r.2)
def dctlD (l : List D) : Res := match pairsOf l with
  | some ps => if (ps.all fun p => p.1.keyT.isSome && immB 0 p.2) && decide (ps.length ≤ 15) then .ok (.dct (putAll ps ([], [])).1 (putAll ps ([], [])).2) 9 else .bad
  | none => .bad
def prsOf : List D → Option (List (D × D))
  | [] => some []
  | .tup [k, v] :: r => (prsOf r).map ((k, v) :: ·)
  | _ => none
def std (l : List Int) : Bool := decide (l.length ≤ 5) && l.all fun x => decide (0 ≤ x ∧ x < 4)
/-- a key of at most five numbers from 0 to 3 -/
def stdK (d : D) : Bool := match d with
  | .tup l => (match unI l with | some s => std s | none => false)
  | _ => false
def dctcD : D → Res
  | .lst l => match prsOf l with
    | some ps => if !ps.isEmpty && (ps.all fun p => p.1.keyT.isSome && immB 0 p.2) then .ok (.dct (putAll ps ([], [])).1 (putAll ps ([], [])).2) 9 else .bad
    | none => .bad
  | .dct ks vs => if !ks.isEmpty && ks.all stdK && (ks.mapM D.keyT).isSome && immBL 0 vs && decide (ks.length ≤ szLine) then .ok (.dct (putAll (ks.zip vs) ([], [])).1 (putAll (ks.zip vs) ([], [])).2) 9 else .bad
  | _ => .bad
def ixoD (k : Int) : Res → Res
  | .ok (.tup l) n => (match atI l k with | some c => .ok c n | none => .bad)
  | .exn x => .exn x
  | _ => .bad
/-- a lambda's slots -/
def lamEv (d : D) (js : List Nat) (δ : Ev) : Ev := some d :: js.map fun j => match δ[j]? with | some o => o | none => none
def one1 (f : D → Res) : List D → Res
  | [d] => f d
  | _ => .bad
/-- the slot holds the function that was handed over -/
def isKl (δ : Ev) (i : Nat) : Bool := match δ[i]? with
  | some (some (.exc 0 [])) => true
  | _ => false
mutual
/-- no caught exception within -/
def nEx : D → Bool
  | .exc _ _ => false
  | .lst l => nExL l
  | .tup l => nExL l
  | .obj _ _ l => nExL l
  | .dct _ l => nExL l
  | _ => true
def nExL : List D → Bool
  | [] => true
  | d :: l => nEx d && nExL l
end
mutual
def evE (Γ : Fe) : Ex → Ev → Res
  | .var i, δ => match δ[i]? with | some (some d) => .ok d 0 | _ => .bad
  | .con d, _ => .ok d 0
  | .glo k, _ => .ok (Γ.gl k) 0
  | .bin o a b, δ => (evE Γ a δ).bind fun x => (evE Γ b δ).bind fun y => binD o x y
  | .neg a, δ => (evE Γ a δ).bind fun x => match x with | .int i => .ok (.int (-i)) 0 | _ => .bad
  | .cmp o a b, δ => (evE Γ a δ).bind fun x => (evE Γ b δ).bind fun y => cmpD o x y
  | .cmp2 o p a b c, δ => (evE Γ a δ).bind fun x => (evE Γ b δ).bind fun y => (cmpD o x y).bind fun k => match k with
    | .bl true => (evE Γ c δ).bind fun z => cmpD p y z
    | .bl false => .ok (.bl false) 0
    | _ => .bad
  | .cmp3 o p q a b c e, δ => (evE Γ a δ).bind fun x => (evE Γ b δ).bind fun y => (cmpD o x y).bind fun k => match k with
    | .bl true => (evE Γ c δ).bind fun z => (cmpD p y z).bind fun k2 => match k2 with
      | .bl true => (evE Γ e δ).bind fun u => cmpD q z u
      | .bl false => .ok (.bl false) 0
      | _ => .bad
    | .bl false => .ok (.bl false) 0
    | _ => .bad
  | .lrng1 a, δ => (evE Γ a δ).bind fun x => lrngD (.int 0) x
  | .lrng a b, δ => (evE Γ a δ).bind fun x => (evE Γ b δ).bind fun y => lrngD x y
  | .sset a, δ => (evE Γ a δ).bind ssetD
  | .nset a, δ => (evE Γ a δ).bind nsetD
  | .and a b, δ => (evE Γ a δ).bind fun x => match x with | .bl true => evE Γ b δ | .bl false => .ok (.bl false) 0 | _ => .bad
  | .or a b, δ => (evE Γ a δ).bind fun x => match x with | .bl true => .ok (.bl true) 0 | .bl false => evE Γ b δ | _ => .bad
  | .not a, δ => (evE Γ a δ).bind fun x => match x with | .bl c => .ok (.bl (!c)) 0 | _ => .bad
  | .ife c a b, δ => ((evE Γ c δ).bindT truD).bind fun k => if k then evE Γ a δ else evE Γ b δ
  | .ix a i, δ => (evE Γ a δ).bind fun x => (evE Γ i δ).bind fun y => ixD x y
  | .omit, _ => .bad
  | .dead, _ => .bad
  | .hof f a js b, δ => (evE Γ a δ).bind fun x => Γ.hf f x (one1 fun d => evE Γ b (lamEv d js δ))
  | .ixo a k, δ => ixoD k (evE Γ a δ)
  | .callK i e, δ => if isKl δ i then (evE Γ e δ).bind fun x => if nEx x then Γ.kl [x] else .bad else .bad
  | .rev a, δ => (evE Γ a δ).bind fun x => revD x
  | .sl a lo hi, δ => (evE Γ a δ).bind fun x => optI (if lo.isOmit then none else some (evE Γ lo δ)) fun l => optI (if hi.isOmit then none else some (evE Γ hi δ)) fun h => slD x l h
  | .fld a f, δ => (evE Γ a δ).bind fun x => fldD Γ.fo f x
  | .isi a t, δ => (evE Γ a δ).bind fun x => isiD t x
  | .isE a cs, δ => (evE Γ a δ).bind fun x => isED Γ.sub cs x
  | .atE a, δ => (evE Γ a δ).bind fun x => atED x
  | .dg1 a k, δ => (evE Γ a δ).bind fun x => match x with
    | .dct ks vs => (evE Γ k δ).bind fun y => dgD ks vs y .non
    | _ => .bad
  | .dg2 a k e, δ => (evE Γ a δ).bind fun x => match x with
    | .dct ks vs => (evE Γ k δ).bind fun y => (evE Γ e δ).bind fun z => dgD ks vs y z
    | _ => .bad
  | .call f es, δ => (evL Γ es δ).bind fun l => Γ.fn f l
  | .meth m a es, δ => (evE Γ a δ).bind fun x => match x with
    | .obj c ks vs => if Γ.mh m c then (evL Γ es δ).bind fun l => Γ.me m c (.obj c ks vs :: l) else .bad
    | _ => .bad
  | .mk c es, δ => (evL Γ es δ).bind fun l => Γ.ma c l
  | .bi b es, δ => (evL Γ es δ).bind fun l => biD b l
  | .bm m a es, δ => (evE Γ a δ).bind fun x => match x with
    | .lst d => (evL Γ es δ).bind fun l => bmD m d l
    | .tup d => match m with
      | .count => (evL Γ es δ).bind fun l => bmD .count d l
      | _ => .bad
    | _ => .bad
  | .tup es, δ => (evL Γ es δ).bindN newT
  | .lst es, δ => (evL Γ es δ).bindN newL
  | .dct0, _ => .ok (.dct [] []) 9
  | .dctl es, δ => (evL Γ es δ).bind dctlD
  | .dctc e, δ => (evE Γ e δ).bind dctcD
  | .comp k args tg elt, δ => (evL Γ args δ).bind fun l => match items k l with
    | none => .bad
    | some xs => (compL tg (evE Γ elt) (fun _ => .ok true) xs (wipeE δ tg)).bindN newL
  | .compIf k args tg elt cond, δ => (evL Γ args δ).bind fun l => match items k l with
    | none => .bad
    | some xs => (compL tg (evE Γ elt) (fun δ => (evE Γ cond δ).bindT truD) xs (wipeE δ tg)).bindN newL
def evL (Γ : Fe) : List Ex → Ev → RL
  | [], _ => .ok []
  | e :: es, δ => match evE Γ e δ with
    | .ok d n => match evL Γ es δ with
      | .ok l => .ok ((d, n) :: l)
      | .exn x => .exn x
      | .bad => .bad
    | .exn x => .exn x
    | .bad => .bad
end
def evT (Γ : Fe) (e : Ex) (δ : Ev) : RT := (evE Γ e δ).bindT truD

example (Γ : Fe) (a b : Int) : evE Γ (.bin .add (.var 0) (.var 1)) [some (.int a), some (.int b)] = .ok (.int (a + b)) 0 := by
  simp [evE, binD]
example (Γ : Fe) (a b : Int) : evE Γ (.bin .add (.var 0) (.var 1)) [some (.int a), some (.int b)] = .ok (.int (a + b)) 0 := rfl
end PL
namespace PL
open PySem L2 PyProof.Rows

/-- a run's value: the heap has grown, the region too (by new nodes alone), the value stands, its own nodes are new -/
structure OkV (g : G) (H H' : Hp) (S S' : Rg) (n : Nat) (d : D) (v : V) (T : Fp) : Prop where
  ext : Ext g.TB H H'
  sub : ∀ a, S a → S' a
  new : ∀ a, S' a → S a ∨ H a = none
  sz : ∀ a, S' a → (H' a).isSome = true
  own : Own g H' S' n d v T
  nd : T.Nodup
  fr : ∀ a ∈ T, H a = none ∧ ¬ S' a

/-- the exceptions' classes -/
structure XG where
  XV : Nat → Value
def ExnR (xg : XG) (e : Exn) (cls : Value) (dd : Option Addr) (H : Hp) : Prop :=
  cls = xg.XV e.c ∧ match e.a with
    | none => dd = none
    | some d => ∃ a v, dd = some a ∧ H a = some (.xd [("at", v)]) ∧ ∀ g S, Own g H S 0 d v []

/-- .. its fields' place is new, seen from H -/
def ExnN (xg : XG) (e : Exn) (cls : Value) (dd : Option Addr) (H H' : Hp) : Prop := ExnR xg e cls dd H' ∧ ∀ q, dd = some q → H q = none
theorem ExnN.back {xg : XG} {e : Exn} {cls : Value} {dd : Option Addr} {H H1 H' : Hp} (k : ∀ q, H1 q = none → H q = none) (x : ExnN xg e cls dd H1 H') : ExnN xg e cls dd H H' := ⟨x.1, fun q z => k q (x.2 q z)⟩
section
variable {g : G} {xg : XG}
/-- what is wanted of a run's end -/
def RF (g : G) (xg : XG) (H : Hp) (S : Rg) (r : Res) (W : Value → Option Addr → Hp → Prop) (Q : VK) : Prop :=
  match r with
  | .ok d n => ∀ v H' S' T, OkV g H H' S S' n d v T → Q v H'
  | .exn e => ∀ cls dd H', Ext g.TB H H' → ExnN xg e cls dd H H' → W cls dd H'
  | .bad => False

variable {H H1 H' : Hp} {S S1 S' : Rg} {d : D} {n : Nat} {v : V} {T A : Fp} {W : Value → Option Addr → Hp → Prop} {Q Q' : VK} {r : Res}

/-- from one point of a run to a later one -/
structure Fw (T : List (Addr × Str)) (H H' : Hp) (S S' : Rg) : Prop where
  ext : Ext T H H'
  sub : ∀ a, S a → S' a
  new : ∀ a, S' a → S a ∨ H a = none
  sz : ∀ a, S' a → (H' a).isSome = true
theorem Fw.refl (h : ∀ a, S a → (H a).isSome = true) : Fw g.TB H H S S := ⟨Ext.refl H, fun _ q => q, fun _ q => .inl q, h⟩
theorem Fw.trans {H2 : Hp} {S2 : Rg} (a : Fw g.TB H H1 S S1) (b : Fw g.TB H1 H2 S1 S2) : Fw g.TB H H2 S S2 :=
  ⟨a.ext.trans b.ext, fun x q => b.sub x (a.sub x q), fun x q => by
    rcases b.new x q with q | q
    · exact a.new x q
    · exact .inr (a.ext.back q), b.sz⟩
theorem OkV.fw (o : OkV g H H' S S' n d v T) : Fw g.TB H H' S S' := ⟨o.ext, o.sub, o.new, o.sz⟩
theorem OkV.after {H2 : Hp} {S2 : Rg} (f : Fw g.TB H H1 S S1) (o : OkV g H1 H2 S1 S2 n d v T) : OkV g H H2 S S2 n d v T :=
  let k := f.trans o.fw
  ⟨k.ext, k.sub, k.new, k.sz, o.own, o.nd, fun a ha => ⟨f.ext.back (o.fr a ha).1, (o.fr a ha).2⟩⟩
theorem Own.fw (f : Fw g.TB H H' S S') (sz : ∀ a, S a → (H a).isSome = true) (o : Own g H S n d v A) : Own g H' S' n d v A := by
  exact o.keep (f.ext.kp f.sub)
/-- the value's own nodes are given to the region -/
theorem OkV.frz (o : OkV g H H' S S' n d v T) (sz : ∀ a, S a → (H a).isSome = true) : ∃ S2, Fw g.TB H H' S S2 ∧ Own g H' S2 0 d v [] := by
  obtain ⟨B, C, h1, h2⟩ := Own.weak (m := 0) (Nat.zero_le _) o.own
  replace h1 := h1 (fun a => S' a ∨ a ∈ T) (fun a q => .inl q) (fun a q => .inr ((h2.1 a).mpr (.inr q)))
  have e := h1.zero
  subst e
  refine ⟨_, ⟨o.ext, fun a q => .inl (o.sub a q), fun a q => ?_, fun a q => ?_⟩, h1⟩
  · rcases q with q | q
    · exact o.new a q
    · exact .inr (o.fr a q).1
  · rcases q with q | q
    · exact o.sz a q
    · exact o.own.there a q
theorem OkV.of (h : Own g H S 0 d v []) (sz : ∀ a, S a → (H a).isSome = true) : OkV g H H S S 0 d v [] :=
  ⟨Ext.refl H, fun _ q => q, fun _ q => .inl q, sz, h, List.nodup_nil, fun _ q => nomatch q⟩
theorem OkV.laid {p : Addr} {o : HO} (sz : ∀ a, S a → (H a).isSome = true) (hp : H p = none) (h : Own g (upd H p o) S n d v T) (hT : T = [p] ∨ T = []) : OkV g H (upd H p o) S S n d v T := by
  refine ⟨Ext.new hp, fun _ q => q, fun _ q => .inl q, fun a q => ?_, h, ?_, fun a ha => ?_⟩
  · by_cases e : a = p
    · rw [e, upd_same]; rfl
    · rw [upd_ne e]; exact sz a q
  · rcases hT with rfl | rfl
    · simp
    · exact List.nodup_nil
  · rcases hT with rfl | rfl
    · have e : a = p := by simpa using ha
      subst e
      refine ⟨hp, fun q => ?_⟩
      have := sz a q
      rw [hp] at this; cases this
    · cases ha

theorem RF.fw (f : Fw g.TB H H1 S S1) (h : RF g xg H S r W Q) : RF g xg H1 S1 r W Q := by
  cases r with
  | ok d n => exact fun v H' S' T o => h v H' S' T (o.after f)
  | exn e => exact fun cls dd H' q k => h cls dd H' (f.ext.trans q) (k.back fun _ z => f.ext.back z)
  | bad => exact h
theorem RF.bind {f : D → Res} (sz : ∀ a, S a → (H a).isSome = true) (h : RF g xg H S (r.bind f) W Q)
    (k : ∀ d n v H1 S1, r = .ok d n → Fw g.TB H H1 S S1 → Own g H1 S1 0 d v [] → RF g xg H1 S1 (f d) W Q → Q' v H1) : RF g xg H S r W Q' := by
  cases r with
  | ok d n =>
    intro v H' S' T o
    obtain ⟨S2, f2, o2⟩ := o.frz sz
    exact k d n v H' S2 rfl f2 o2 (RF.fw f2 h)
  | exn e => exact h
  | bad => exact h
theorem RF.bindT {f : D → RT} {F : Bool → Res} (sz : ∀ a, S a → (H a).isSome = true) (h : RF g xg H S ((r.bindT f).bind F) W Q)
    (k : ∀ d n v H1 S1, r = .ok d n → Fw g.TB H H1 S S1 → Own g H1 S1 0 d v [] → RF g xg H1 S1 ((f d).bind F) W Q → Q' v H1) : RF g xg H S r W Q' := by
  cases r with
  | ok d n =>
    intro v H' S' T o
    obtain ⟨S2, f2, o2⟩ := o.frz sz
    exact k d n v H' S2 rfl f2 o2 (RF.fw f2 h)
  | exn e => exact h
  | bad => exact h
/-- the value as it is -/
theorem RF.val (sz : ∀ a, S a → (H a).isSome = true) (h : RF g xg H S (.ok d 0) W Q) (o : Own g H S 0 d v []) : Q v H := h v H S [] (OkV.of o sz)
theorem RF.new {p : Addr} {o : HO} (sz : ∀ a, S a → (H a).isSome = true) (h : RF g xg H S (.ok d n) W Q) (hp : H p = none) (hT : T = [p] ∨ T = []) (k : Own g (upd H p o) S n d v T) : Q v (upd H p o) :=
  h v _ S T (OkV.laid sz hp k hT)
theorem RF.imp (h : RF g xg H S r W Q) (k : ∀ v H', Q v H' → Q' v H') : RF g xg H S r W Q' := by
  cases r with
  | ok d n => exact fun v H' S' T o => k v H' (h v H' S' T o)
  | exn e => exact h
  | bad => exact h

theorem own_int {i : Int} : Own g H S n (.int i) (.int i) [] := by unfold Own; exact ⟨rfl, rfl⟩
theorem own_bl {i : Bool} : Own g H S n (.bl i) (.bl i) [] := by unfold Own; exact ⟨rfl, rfl⟩
theorem own_str {i : Str} : Own g H S n (.str i) (.str i) [] := by unfold Own; exact ⟨rfl, rfl⟩
theorem own_non : Own g H S n .non .non [] := by unfold Own; exact ⟨rfl, rfl⟩
theorem own_int_v {i : Int} (h : Own g H S n (.int i) v A) : v = .int i := by unfold Own at h; exact h.1
theorem own_bl_v {i : Bool} (h : Own g H S n (.bl i) v A) : v = .bl i := by unfold Own at h; exact h.1
theorem own_str_v {i : Str} (h : Own g H S n (.str i) v A) : v = .str i := by unfold Own at h; exact h.1
theorem own_non_v (h : Own g H S n .non v A) : v = .non := by unfold Own at h; exact h.1
theorem own_tup_v {l : List D} (h : Own g H S n (.tup l) v A) : ∃ a xs, v = .ref a ∧ SqT g.K H a xs ∧ OwnL g H S n l xs A := by
  unfold Own at h
  obtain ⟨a, xs, e, t, _, hl⟩ := h
  exact ⟨a, xs, e, t.sq, hl⟩
theorem own_tup_n {l : List D} (h : Own g H S n (.tup l) v A) : ∃ a xs, v = .ref a ∧ SqN g.K H a xs ∧ OwnL g H S n l xs A := by
  unfold Own at h
  obtain ⟨a, xs, e, t, _, hl⟩ := h
  exact ⟨a, xs, e, t, hl⟩
theorem own_lst_v {l : List D} (h : Own g H S 0 (.lst l) v A) : ∃ a xs, v = .ref a ∧ S a ∧ Rd H a (.lst xs) ∧ OwnL g H S 0 l xs A := by
  unfold Own at h; exact h
theorem own_tup {l : List D} {a : Addr} {xs : List V} (t : SqN g.K H a xs) (h : OwnL g H S n l xs A) (tr : A = [] ∨ Rd H a (.tup xs) := by first | exact .inl rfl | exact .inr (.inr ⟨_, upd_same⟩)) : Own g H S n (.tup l) (.ref a) A := by
  unfold Own; exact ⟨a, xs, rfl, t, tr, h⟩
theorem own_lst {l : List D} {a : Addr} {xs : List V} (t : H a = some (.lst xs)) (h : OwnL g H S n l xs A) : Own g H S (n + 1) (.lst l) (.ref a) (a :: A) := by
  unfold Own; exact ⟨a, xs, A, rfl, t, rfl, h⟩
theorem rdL {K : PySem.W.Frag} {a : Addr} {xs : List V} (h : Rd H a (.lst xs)) : SqL K H a xs := .inl h

/-- children that stay while a new object is laid -/
theorem OwnL.laid {p : Addr} {o : HO} {l : List D} {xs : List V} (sz : ∀ a, S a → (H a).isSome = true) (hp : H p = none) (h : OwnL g H S n l xs A) : OwnL g (upd H p o) S n l xs A := by
  exact h.keep ((Ext.new (T := []) hp).kp fun _ q => q)
theorem OwnL.rep {l : List D} {xs : List V} (h : OwnL g H S 0 l xs []) : ∀ k : Nat, OwnL g H S 0 (List.replicate k l).flatten (List.replicate k xs).flatten []
  | 0 => by simp; exact OwnL.nil
  | k + 1 => by
    rw [List.replicate_succ, List.replicate_succ, List.flatten_cons, List.flatten_cons]
    exact OwnL.append (A := []) (B := []) h (OwnL.rep h k)

section ops
variable {X : Cx}
/-- a list and a list, read -/
def rCatR : R2 := fun x y H Q => ∃ l b xs zs, x = .ref l ∧ y = .ref b ∧ Rd H l (.lst xs) ∧ Rd H b (.lst zs) ∧ xs.length + zs.length ≤ sizeLine ∧ ∀ p, H p = none → Q (.ref p) (upd H p (.lst (xs ++ zs)))
theorem op_catR : OpR X (binaryOp .Add) rCatR := by
  intro pins s σ H x y v u Q I rx ry h
  obtain ⟨l, b, xs, zs, rfl, rfl, hH, hB, hz, q⟩ := h
  cases rx
  cases ry
  obtain ⟨z, its, n, r, e⟩ := hH.ok I.hok
  obtain ⟨z2, its2, n2, r2, e2⟩ := hB.ok I.hok
  have hl := r.length
  have hl2 := r2.length
  refine PySem.P.add_list e e2 ?_ (by rw [List.size_toArray, List.size_toArray]; omega)
  have ea : its.toArray ++ its2.toArray = (its ++ its2).toArray := by simp
  rw [ea]
  exact ⟨.ref _, _, I.lnew (t' := s.toks) (r.append r2) (by rw [List.length_append]; omega), rfl, q _ I.fresh⟩
/-- a list times an int, read -/
def rRepR : R2 := fun x y H Q => ∃ l k xs, x = .ref l ∧ y = .int k ∧ Rd H l (.lst xs) ∧ -(2 ^ 63) ≤ k ∧ k < 2 ^ 63 ∧ xs.length * k.toNat ≤ sizeLine ∧
  ∀ p, H p = none → Q (.ref p) (upd H p (.lst (List.replicate k.toNat xs).flatten))
theorem op_repR : OpR X (binaryOp .Mult) rRepR := by
  intro pins s σ H x y v u Q I rx ry h
  obtain ⟨l, k, xs, rfl, rfl, hH, h1, h2, hz, q⟩ := h
  cases rx
  obtain ⟨t, rfl⟩ := ry
  obtain ⟨z, its, n, r, e⟩ := hH.ok I.hok
  have hl := r.length
  have hlen : its.toArray.size * k.toNat ≤ sizeLine := by rw [List.size_toArray, ← hl]; exact hz
  have hcap : ¬ its.toArray.size * k.toNat > (2 ^ 63 - 1) / 8 := by
    have : (sizeLine : Nat) ≤ (2 ^ 63 - 1) / 8 := by decide
    omega
  have hfit : ¬ (!Builtin.List.listFitsIndex k) = true := by
    rw [fitsIndex_both h1 h2]
    exact Bool.false_ne_true
  have hlong : ¬ Builtin.List.listTooLong (its.toArray.size * k.toNat) = true := by
    rw [notLongL hlen]
    exact Bool.false_ne_true
  have hnew : List.foldl (fun x1 x2 => x1 ++ x2) #[] (List.replicate (if its.toArray.isEmpty = true then 0 else k.toNat) its.toArray) = (List.replicate k.toNat its).flatten.toArray := by
    have f0 : ∀ m : Nat, List.foldl (fun x1 x2 => x1 ++ x2) #[] (List.replicate m its.toArray) = (List.replicate m its).flatten.toArray := fun m => by
      have := foldl_rep its m []
      rw [List.nil_append] at this
      exact this
    rw [f0]
    cases its with
    | nil => simp
    | cons a r' => rw [if_neg (by simp)]
  refine wpAny_binaryOp_repeat_ref (T := "list") (U := "int") (by decide) ⟨_, e, rfl⟩ (fun s' => typeIs_int s' k t) noFill_list_mul F.fills_int_mul F.slot_int_rmul repeat_list F.slot_int_index.lookup
    (call_meets F.slot_int_rmul (typeIs_int s k t) F.entry_int_rmul (F.args_int_rmul_2 _ _) (int___rmul___int_list k t l its.toArray n)
      ⟨e, rfl, ⟨_, e, rfl⟩, call_meets F.slot_list_mul ⟨_, e, rfl⟩ F.entry_list_mul (F.args_list_mul_2 _ _) (AutoListH.list___mul___list_int_3 l its.toArray n k t hfit hcap hlong) ⟨e, ?_⟩⟩)
  rw [hnew]
  exact ⟨.ref _, _, I.lnew (t' := s.toks) (r.rep k.toNat) (by rw [PyProof.Rows.lm_len_rep_flat, Nat.mul_comm]; exact hz), rfl, q _ I.fresh⟩
theorem bits_le {i : Int} : Builtin.Int.intBits i ≤ i.natAbs.log2 + 1 := by
  unfold Builtin.Int.intBits
  split
  · exact Nat.zero_le _
  · exact Nat.le_refl _
theorem op_mulX : OpR X (binaryOp .Mult) (rI (fun i j => i.natAbs.log2 + j.natAbs.log2 < 2 ^ 26) fun i j => .int (i * j)) :=
  opI fun i j t u s Q E h q => mul_int q (by
    have h1 := bits_le (i := i)
    have h2 := bits_le (i := j)
    have h3 : Builtin.Int.intTooBig ((Builtin.Int.intBits i : Int) + (Builtin.Int.intBits j : Int)) = false := decide_eq_false (by
      show ¬ ((Builtin.Int.intBits i : Int) + (Builtin.Int.intBits j : Int) > ((2 ^ 27 : Nat) : Int))
      omega)
    unfold IntMulOk
    intro z
    simp only [Bool.and_eq_true] at z
    rw [h3] at z
    exact Bool.false_ne_true z.2)
/-- a tuple told once over is itself -/
theorem tup_once (l : Addr) (its : Array Value) (n : Nat) (dd : Option Addr) (sl : Array (Option Value)) (u : Tok) :
    Meets (Builtin.«tuple.__mul__» ⟨[.ref l, .int 1 u], []⟩) (fun _ R s => s.heap.get? l = some { cls := .type "tuple", dict := dd, data := .seq its n, slots := sl } ∧ R (.ok (.ret (Value.ref l))) s) :=
  .of_wp fun prog w A R s h => by
    obtain ⟨hp, g, d, tk, os⟩ := s
    obtain ⟨hl, h⟩ := h
    have f1 := AutoSeq1.idx_int
    wp_walk using PySem.AutoSeq1.wpAny_loadPart' hl
    exact ⟨_, rfl, h⟩
def rOnceT (K : PySem.W.Frag) : R2 := fun x y H Q => ∃ l xs, x = .ref l ∧ y = .int 1 ∧ SqT K H l xs ∧ Q (.ref l) H
theorem op_onceT : OpR X (binaryOp .Mult) (rOnceT X.K) := by
  intro pins s σ H x y v u Q I rx ry h
  obtain ⟨l, xs, rfl, rfl, hT, q⟩ := h
  cases rx
  obtain ⟨t, rfl⟩ := ry
  obtain ⟨its, r, ⟨⟨cls, dd, data, sl⟩, ho, hc, n, hd⟩, hs⟩ := I.tuple hT
  simp only at hc hd
  subst hc hd
  exact wpAny_binaryOp_repeat_ref (T := "tuple") (U := "int") (by decide) ⟨_, ho, rfl⟩ (fun s' => typeIs_int s' 1 t) noFill_tuple_mul PySem.F.fills_int_mul PySem.F.slot_int_rmul repeat_tuple PySem.F.slot_int_index.lookup
    (call_meets PySem.F.slot_int_rmul (typeIs_int s 1 t) PySem.F.entry_int_rmul (PySem.F.args_int_rmul_2 _ _) (int_rmul_tuple 1 t l its.toArray n dd sl)
      ⟨ho, rfl, ⟨_, ho, rfl⟩, call_meets PySem.F.slot_tuple_mul ⟨_, ho, rfl⟩ PySem.F.entry_tuple_mul (PySem.F.args_tuple_mul_2 _ _) (tup_once l its.toArray n dd sl t) ⟨ho, .ref l, H, I, rfl, q⟩⟩)
theorem sqN_new {K : PySem.W.Frag} {p : Addr} {o : Obj} {xs : List V} (h : o.dict = none) : SqN K (upd H p (.frz o (.tup xs))) p xs := .inl ⟨o, upd_same, h⟩
/-- a tuple's own object, as it is when it is new -/
def tObj (its : List Value) : Obj := { cls := .type "tuple", data := .seq its.toArray }
theorem tObj_ok {P : Program} {w : World} {h : Heap} {xs : List V} {its : List Value} (z : xs.length ≤ sizeLine) (r : Vals xs its) : ObjOk P w H (h.push (tObj its)) h.objs.size (.frz (tObj its) (.tup xs)) :=
  ⟨Heap.get?_push_size _ rfl, z, its, r, ⟨tObj its, Heap.get?_push_size _ rfl, rfl, _, rfl⟩⟩
theorem Inv.tup_new {pins : List (Addr × Obj)} {σ : L2.St} {s : Shared} {h' : Heap} {xs : List V} {its : List Value} (I : Inv X pins σ H s) (kp : ∀ b u, s.heap.get? b = some u → h'.get? b = some u) (z : xs.length ≤ sizeLine) (r : Vals xs its) :
    Inv X pins σ (upd H h'.objs.size (.frz (tObj its) (.tup xs))) { s with heap := h'.push (tObj its) } ∧ H h'.objs.size = none := by
  have I1 : Inv X pins σ H { s with heap := h' } := I.kept (t' := s.toks) kp
  exact ⟨I1.laid (t' := s.toks) (o := .frz (tObj its) (.tup xs)) (fun _ _ e => Heap.get?_push_of_some _ e) (Nat.le_refl _) (tObj_ok z r), I1.hok.fresh (Nat.le_refl _)⟩
/-- t + u, the new one without a dict -/
def rCatN (K : PySem.W.Frag) : R2 := fun x y H Q => ∃ a b xs ys, x = .ref a ∧ y = .ref b ∧ SqT K H a xs ∧ SqT K H b ys ∧ xs.length + ys.length ≤ sizeLine ∧
  (xs = [] → Q (.ref b) H) ∧ (xs ≠ [] → ys = [] → Q (.ref a) H) ∧ (xs ≠ [] → ys ≠ [] → ∀ p o, H p = none → o.dict = none → Q (.ref p) (upd H p (.frz o (.tup (xs ++ ys)))))
theorem op_catN : OpR X (binaryOp .Add) (rCatN X.K) := fun pins s σ H x y v u Q I rx ry h => by
  obtain ⟨a, b, xs, ys, rfl, rfl, ha, hb, hz, q0, q1, q2⟩ := h
  cases rx
  cases ry
  obtain ⟨its, r1, p1, _⟩ := I.tuple ha
  obtain ⟨jts, r2, p2, _⟩ := I.tuple hb
  have l1 := r1.length
  have l2 := r2.length
  by_cases hx : xs = []
  · subst hx
    cases r1
    exact cat_tup0 p1 p2 ⟨.ref b, H, I, rfl, q0 rfl⟩
  · have hi : its ≠ [] := fun e => hx (List.eq_nil_of_length_eq_zero (by rw [l1, e]; rfl))
    refine HT.cat_tup p1 p2 hi (fun e => ⟨.ref a, H, I, rfl, q1 hx (List.eq_nil_of_length_eq_zero (by rw [l2, e]; rfl))⟩) (fun e => ?_) (by omega)
    obtain ⟨I2, fr⟩ := Inv.tup_new I (h' := s.heap) (xs := xs ++ ys) (its := its ++ jts) (fun _ _ e => e) (by rw [List.length_append]; exact hz) (r1.append r2)
    exact ⟨.ref s.heap.objs.size, _, I2, rfl, q2 hx (fun z => e (List.eq_nil_of_length_eq_zero (by rw [← l2, z]; rfl))) _ _ fr rfl⟩
def rRepN (K : PySem.W.Frag) : R2 := fun x y H Q => ∃ l k xs, x = .ref l ∧ y = .int k ∧ SqT K H l xs ∧ xs ≠ [] ∧ 2 ≤ k ∧ k ≤ 1000 ∧ xs.length ≤ 1000 ∧ ∀ p o, H p = none → o.dict = none → Q (.ref p) (upd H p (.frz o (.tup (List.replicate k.toNat xs).flatten)))
theorem op_repN : OpR X (binaryOp .Mult) (rRepN X.K) := fun pins s σ H x y v u Q I rx ry h => by
  obtain ⟨l, k, xs, rfl, rfl, hT, ne, k2, k3, hz, q⟩ := h
  cases rx
  obtain ⟨t, rfl⟩ := ry
  obtain ⟨its, r, ⟨⟨cls, dd, data, sl⟩, ho, hc, n, hd⟩, _⟩ := I.tuple hT
  simp only at hc hd
  subst hc hd
  have le : its.length = xs.length := r.length.symm
  have sz : its.toArray.size = xs.length := by rw [List.size_toArray, le]
  have iE : its.toArray.isEmpty = false := by
    cases its with
    | nil => exact absurd (List.eq_nil_of_length_eq_zero le.symm) ne
    | cons _ _ => rfl
  have m1 : k.toNat * xs.length ≤ 1000 * 1000 := Nat.mul_le_mul (by omega) hz
  have m2 : ((its.toArray.size : Nat) : Int) * k ≤ 1000000 := by
    rw [sz]
    have : ((xs.length : Nat) : Int) * k ≤ 1000 * k := Int.mul_le_mul_of_nonneg_right (by omega) (by omega)
    omega
  have fl : (List.replicate k.toNat its).flatten.length ≤ sizeLine := by rw [lm_len_rep_flat, le, sizeLine_eq]; omega
  have fx : (List.replicate k.toNat xs).flatten.length ≤ sizeLine := by rw [lm_len_rep_flat, sizeLine_eq]; omega
  have d0 : (decide (k < -(2 ^ 63)) || decide (k ≥ 2 ^ 63)) = false := by rw [decide_eq_false (by omega), decide_eq_false (by omega)] <;> rfl
  have d1 : (its.toArray.isEmpty || k == 1) = false := by rw [iE, Bool.false_or]; exact beq_eq_false_iff_ne.mpr (by omega)
  have d2 : (decide (k ≤ 0) || its.toArray.isEmpty) = false := by rw [iE, Bool.or_false]; exact decide_eq_false (by omega)
  have d4 : Builtin.Tuple.tupleTooMany (((its.toArray.size : Nat) : Int) * k) = false := by unfold Builtin.Tuple.tupleTooMany; rw [sizeLine_eq]; exact decide_eq_false (by omega)
  have mw := tuple_mulW l its.toArray n dd sl k t d0 d1 d2 (by omega) d4 (by rw [L2.size_rep, List.size_toArray]; exact fl)
  refine wpAny_binaryOp_repeat_ref (T := "tuple") (U := "int") (by decide) ⟨_, ho, rfl⟩ (fun z => typeIs_int z k t) noFill_tuple_mul PySem.F.fills_int_mul PySem.F.slot_int_rmul repeat_tuple PySem.F.slot_int_index.lookup ?_
  refine call_meets PySem.F.slot_int_rmul (typeIs_int s k t) PySem.F.entry_int_rmul (PySem.F.args_int_rmul_2 _ _) (int_rmul_tuple k t l its.toArray n dd sl) ⟨ho, rfl, ⟨_, ho, rfl⟩, call_meets PySem.F.slot_tuple_mul ⟨_, ho, rfl⟩ PySem.F.entry_tuple_mul (PySem.F.args_tuple_mul_2 _ _) mw ⟨ho, ?_⟩⟩
  rw [L2.size_rep]
  obtain ⟨I2, fr⟩ := Inv.tup_new I (h' := s.heap) (xs := (List.replicate k.toNat xs).flatten) (its := (List.replicate k.toNat its).flatten) (fun _ _ e => e) fx (r.rep k.toNat)
  exact ⟨.ref s.heap.objs.size, _, I2, rfl, q _ _ fr rfl⟩
/-- a tuple and a tuple, a tuple times an int are in PL5 -/
def Bop.op : Bop → Operator
  | .add => .Add | .sub => .Sub | .mul => .Mult | .fdiv => .FloorDiv | .mod => .Mod | .pow => .Pow
/-- an operation on two frozen values -/
def rB (g : G) (xg : XG) (W : Value → Option Addr → Hp → Prop) (f : D → D → Res) : R2 := fun x y H Q =>
  ∃ S d e, (∀ a, S a → (H a).isSome = true) ∧ Own g H S 0 d x [] ∧ Own g H S 0 e y [] ∧ RF g xg H S (f d e) W Q
theorem sizeLine_le : szLine ≤ sizeLine := Nat.le_refl _
theorem op_divX : OpR X (binaryOp .FloorDiv) (rI (fun _ j => j ≠ 0 ∧ j.natAbs.log2 < 9000) fun i j => .int (i.fdiv j)) :=
  opI fun i j t u s Q E h q => floordiv_int h.1 q (.inl (PyProof.noPylong_of_log2 h.2))
theorem op_powX : OpR X (binaryOp .Pow) (rI (fun i j => 0 ≤ j ∧ ((i.natAbs.log2 + 1 : Nat) : Int) * j ≤ 2 ^ 26) fun i j => .int (i ^ j.toNat)) :=
  opI fun i j t u s Q E h q => pow_int h.1 (by
    have h1 := bits_le (i := i)
    have h2 : (Builtin.Int.intBits i : Int) * j ≤ ((i.natAbs.log2 + 1 : Nat) : Int) * j := Int.mul_le_mul_of_nonneg_right (by omega) h.1
    have h3 := h.2
    have : (2 : Int) ^ 26 ≤ 2 ^ 27 := by decide
    omega) q
/-- a rule for a shape of both -/
theorem OpR.imp {f : Value → Value → Sem Value} {r r' : R2} (h : OpR X f r) (k : ∀ x y H Q, r' x y H Q → r x y H Q) : OpR X f r' :=
  fun pins s σ H x y v u Q I rx ry q => h pins s σ H x y v u Q I rx ry (k x y H Q q)
theorem OpR.pick {f : Value → Value → Sem Value} {r' : R2} (k : ∀ x y H Q, r' x y H Q → ∃ r, OpR X f r ∧ r x y H Q) : OpR X f r' :=
  fun pins s σ H x y v u Q I rx ry q => let ⟨_, h, z⟩ := k x y H Q q; h pins s σ H x y v u Q I rx ry z
theorem OwnL.len2 {l : List D} {xs : List V} (h : OwnL g H S n l xs A) : l.length = xs.length := (OwnL.length h).symm
theorem op_bin (hK : g.K = X.K) (o : Bop) : OpR X (binaryOp o.op) (rB g xg W (binD o)) := by
  refine OpR.pick fun x y H Q h => ?_
  obtain ⟨S, d, e, sz, o1, o2, h⟩ := h
  unfold binD at h
  split at h
  · rw [own_int_v o1, own_int_v o2]
    exact ⟨_, op_add, _, _, rfl, rfl, h.val sz own_int⟩
  · rw [own_int_v o1, own_int_v o2]
    exact ⟨_, op_sub, _, _, rfl, rfl, h.val sz own_int⟩
  · rw [own_int_v o1, own_int_v o2]
    split at h
    · rename_i z
      exact ⟨_, op_mulX, _, _, rfl, rfl, of_decide_eq_true z, h.val sz own_int⟩
    · exact h.elim
  · rw [own_int_v o1, own_int_v o2]
    split at h
    · rename_i z
      have z' := Bool.and_eq_true_iff.mp z
      exact ⟨_, op_divX, _, _, rfl, rfl, ⟨of_decide_eq_true z'.1, of_decide_eq_true z'.2⟩, h.val sz own_int⟩
    · exact h.elim
  · rw [own_int_v o1, own_int_v o2]
    split at h
    · rename_i z
      exact ⟨_, op_modN, _, _, rfl, rfl, of_decide_eq_true z, h.val sz own_int⟩
    · exact h.elim
  · rw [own_int_v o1, own_int_v o2]
    split at h
    · rename_i z
      have z' := Bool.and_eq_true_iff.mp z
      exact ⟨_, op_powX, _, _, rfl, rfl, ⟨of_decide_eq_true z'.1, of_decide_eq_true z'.2⟩, h.val sz own_int⟩
    · exact h.elim
  · rw [own_str_v o1, own_str_v o2]
    split at h
    · rename_i z
      exact ⟨_, op_add_str, _, _, rfl, rfl, of_decide_eq_true z, h.val sz own_str⟩
    · exact h.elim
  · obtain ⟨a, xs, rfl, s1, t1, l1⟩ := own_lst_v o1
    obtain ⟨b, ys, rfl, s2, t2, l2⟩ := own_lst_v o2
    split at h
    · rename_i z
      refine ⟨_, op_catR, a, b, xs, ys, rfl, rfl, t1, t2, ?_, fun p hp => h.new (T := [p]) sz hp (.inl rfl) ?_⟩
      · rw [l1.length, l2.length]; exact of_decide_eq_true z
      · exact own_lst upd_same (OwnL.append (A := []) (B := []) (l1.laid sz hp) (l2.laid sz hp))
    · exact h.elim
  · obtain ⟨a, xs, rfl, t1, l1⟩ := own_tup_n o1
    obtain ⟨b, ys, rfl, t2, l2⟩ := own_tup_n o2
    have e1 := l1.len2
    have e2 := l2.len2
    split at h
    · rename_i z
      have z' := of_decide_eq_true z
      rw [hK] at t1 t2
      refine ⟨_, op_catN, a, b, xs, ys, rfl, rfl, t1.sq, t2.sq, by rw [← e1, ← e2]; exact z', fun q => ?_, fun _ q => ?_, fun _ _ p o hp ho => ?_⟩
      · subst q
        have : _ = [] := List.length_eq_zero_iff.mp e1
        subst this
        exact h.val sz (own_tup (by rw [hK]; exact t2) l2)
      · subst q
        have : _ = [] := List.length_eq_zero_iff.mp e2
        subst this
        rw [List.append_nil] at h
        exact h.val sz (own_tup (by rw [hK]; exact t1) l1)
      · exact h.new (T := []) sz hp (.inr rfl) (own_tup (sqN_new ho) (OwnL.append (A := []) (B := []) (l1.laid sz hp) (l2.laid sz hp)))
    · exact h.elim
  · rw [own_int_v o2]
    obtain ⟨a, xs, rfl, s1, t1, l1⟩ := own_lst_v o1
    have e1 := l1.len2
    split at h
    · rename_i z
      simp only [Bool.and_eq_true, decide_eq_true_eq] at z
      obtain ⟨z0, z3⟩ := z
      have z1 := small_bd z0
      refine ⟨_, op_repR, a, _, xs, rfl, rfl, t1, by omega, by omega, by rw [← e1]; exact z3, fun p hp => h.new (T := [p]) sz hp (.inl rfl) ?_⟩
      exact own_lst upd_same (OwnL.rep (l1.laid sz hp) _)
    · exact h.elim
  · rw [own_int_v o2]
    obtain ⟨a, xs, rfl, t1, l1⟩ := own_tup_v o1
    have e1 := l1.len2
    split at h
    · rename_i z
      have z := of_decide_eq_true z
      subst z
      refine ⟨_, op_onceT, a, xs, rfl, rfl, by rw [← hK]; exact t1, h.val sz o1⟩
    · split at h
      · rename_i z
        simp only [Bool.and_eq_true, decide_eq_true_eq] at z
        obtain ⟨⟨⟨z1, z2⟩, z3⟩, z4⟩ := z
        rw [hK] at t1
        refine ⟨_, op_repN, a, _, xs, rfl, rfl, t1, fun q => ?_, z2, z3, by rw [← e1]; exact z4, fun p o hp ho => h.new (T := []) sz hp (.inr rfl) ?_⟩
        · subst q
          have : _ = [] := List.length_eq_zero_iff.mp e1
          subst this
          cases z1
        · exact own_tup (sqN_new ho) (OwnL.rep (l1.laid sz hp) _)
      · exact h.elim
  · exact h.elim
end ops
end
end PL
namespace PySem.SeqAt
open AutoSeq1 (wpAny_loadPart')
open MeetsSeq
theorem dict_eq_declines_str (l : Addr) (o : Obj) (b : Str) (u : Tok) :
    Meets (Builtin.«dict.__eq__» ⟨[.ref l, .str b u], []⟩) (fun _ R s => s.heap.get? l = some o ∧ o.cls = .type "dict" ∧ R (.ok (.ret .notImplemented)) s) :=
  .of_wp fun prog w A R s h => by obtain ⟨hp, g, d, tk, os⟩ := s; obtain ⟨hl, hc, h⟩ := h; have f1 := F.sub_str_dict; wp_walk using wpAny_loadPart' hl, wpAny_load hl; exact ⟨_, rfl, h⟩
theorem str_eq_declines_dict (b : Str) (u : Tok) (l : Addr) (o : Obj) :
    Meets (Builtin.«str.__eq__» ⟨[.str b u, .ref l], []⟩) (fun _ R s => s.heap.get? l = some o ∧ (∃ es ep, o.data = .dict es ep) ∧ R (.ok (.ret .notImplemented)) s) :=
  .of_wp fun prog w A R s h => by obtain ⟨hp, g, d, tk, os⟩ := s; obtain ⟨hl, ⟨es, ep, hd⟩, h⟩ := h; obtain ⟨c, dd, da, sl⟩ := o; simp only at hd; subst hd; wp_walk using wpAny_loadPart' hl, wpAny_load hl; exact ⟨_, rfl, h⟩
end PySem.SeqAt
namespace PySem.SeqAt
open MeetsSeq
section
variable {A : Around} {s : Shared}
theorem RcAt.str_dict {l : Addr} {o : Obj} (b : Str) (u : Tok) (ho : s.heap.get? l = some o) (hc : o.cls = .type "dict") (hd : ∃ es ep, o.data = .dict es ep) (hu : A.units < cLine) : RcAt A s (.str b u) (.ref l) false := fun prog w E Q h => by
  exact rc_eq_decline_or (k := false) (typeIs_str s b u) ⟨_, ho, hc⟩ (by decide) F.sub_dict_str F.slot_str_eq F.slot_dict_eq_refl
    (fun _ hq => call_meets F.slot_str_eq (typeIs_str s b u) F.entry_str_eq (F.args_str_eq_2 _ _) (str_eq_declines_dict b u l o) ⟨ho, hd, hq⟩)
    (fun _ hq => call_meets F.slot_dict_eq_refl ⟨_, ho, hc⟩ F.entry_dict_eq (F.args_dict_eq_2 _ _) (dict_eq_declines_str l o b u) ⟨ho, hc, hq⟩)
    (fun _ hq => wpAny_of_eq (rfl : isSame (.str b u) (.ref l) = pure false) hq) (.inr hu) h
theorem EqAt.str_dict {l : Addr} {o : Obj} (b : Str) (u : Tok) (ho : s.heap.get? l = some o) (hc : o.cls = .type "dict") (hd : ∃ es ep, o.data = .dict es ep) (hu : A.units < cLine) : EqAt A s (.str b u) (.ref l) false := fun prog w E Q h => by
  unfold eqBool
  refine wpAny_holding ?_
  refine wpAny_ite_split (fun hab => absurd (eq_of_beq hab) nofun) (fun _ => ?_)
  exact wpAny_bind (RcAt.str_dict b u ho hc hd hu prog w E _ (wpAny_truthy_bool h))
end
end PySem.SeqAt
namespace PL
open PySem L2 PyProof.Rows PySem.Spec
section
variable {prog : Program} {w : World} {A : Around} {E : Value → Shared → Prop} {s : Shared}
theorem ne_dicts_raw {a b : Addr} {oa ob : Obj} {es es' : Array DictEntry} {ep ep' : Nat} {Q : Value → Shared → Prop} (ha : (a == sysModules) = false) (hb : (b == sysModules) = false) (hoa : s.heap.get? a = some oa) (ca : oa.cls = .type "dict") (hda : oa.data = .dict es ep)
    (hob : s.heap.get? b = some ob) (cb : ob.cls = .type "dict") (hdb : ob.data = .dict es' ep') (hsz : es.size ≠ es'.size) (hu : A.units < cLine) (h : Q (.bool true) s) : wpAny (model prog w) A (compareOp .NotEq (.ref a) (.ref b)) Q E s := by
  have ta : s.TypeIs (.ref a) "dict" := ⟨oa, hoa, ca⟩
  have tb : s.TypeIs (.ref b) "dict" := ⟨ob, hob, cb⟩
  refine wpAny_richCompare_same_room (op := .NotEq) ta tb PySem.F.slot_dict_ne (wpAny_call_entry PySem.F.slot_dict_ne ta PySem.F.entry_dict_ne ?_ (PySem.F.args_dict_ne_2 _ _)) hu
  show wpAny _ _ (Builtin.Dict.dictSlotArgs "__ne__" ⟨[.ref a, .ref b], []⟩ >>= _) _ _ s
  refine wpAny_bind ?_
  unfold Builtin.Dict.dictSlotArgs
  refine wpAny_bind (wpAny_notOrdered_dict ta ?_)
  show wpAny _ _ (pure (Value.ref a, Value.ref b)) _ _ s
  refine wpAny_pure ?_
  refine wpAny_bind (wpAny_isInstance (T := "dict") tb PySem.F.sub_dict_dict ?_)
  simp only [Bool.not_true, Bool.false_eq_true, if_false]
  refine wpAny_bind (wpAny_pure (wpAny_bind (wpAny_pure ?_)))
  have sp : ∀ {Q' : Bool → Shared → Prop} {A' : Around} {nm : String}, Q' false s → wpAny (model prog w) A' (Builtin.Dict.samePairs nm a b) Q' E s := fun {Q' A' nm} h' => by
    unfold Builtin.Dict.samePairs Builtin.Dict.showsAll
    rw [if_neg (show ¬ (a == sysModules) = true by rw [ha]; exact Bool.false_ne_true), if_neg (show ¬ (b == sysModules) = true by rw [hb]; exact Bool.false_ne_true)]
    refine wpAny_bind (wpAny_pure (wpAny_bind (wpAny_pure ?_)))
    refine wpAny_bind (wpAny_dictEntries hoa hda ?_)
    dsimp only
    refine wpAny_bind (wpAny_dictEntries hob hdb ?_)
    rw [if_pos (by simpa using hsz)]
    exact wpAny_bind (wpAny_rule (wpAny_pure h'))
  refine wpAny_bind (sp ?_)
  refine wpAny_pure ⟨_, rfl, ?_, ?_⟩
  · exact fun x => nomatch x
  · simpa using h
end
end PL
namespace PL
open PySem L2 PyProof.Rows
variable {X : Cx}
def isStrV : V → Bool
  | .str _ => true
  | _ => false
theorem isStrV_ok {x : V} (h : isStrV x = true) : ∃ z, x = .str z := by
  cases x <;> first | exact ⟨_, rfl⟩ | exact absurd h Bool.false_ne_true
/-- a word is none of a tuple of words: what is a list, a tuple or an empty table -/
def rNotFar (K : PySem.W.Frag) : R2 := fun x y H Q => ∃ a p xs, x = .ref a ∧ y = .ref p ∧ SqT K H p xs ∧ xs.all isStrV = true ∧ ((∃ ys, SqL K H a ys) ∨ (∃ ys, SqT K H a ys) ∨ Rd H a (.dK [])) ∧ Q (.bl true) H
theorem op_notIn_far (hu : X.A.units + 65 < cLine) : OpR X (compareOp .NotIn) (rNotFar X.K) := by
  intro pins s σ H x y v u Q I rx ry h
  obtain ⟨a, p, xs, rfl, rfl, hq, fs, far, q⟩ := h
  cases rx
  cases ry
  obtain ⟨its, r, pl, hz⟩ := I.tuple hq
  have hu1 : X.A.in1.units < cLine := by show X.A.units + 1 < cLine; omega
  have str : ∀ u ∈ its, ∃ z t, u = Value.str z t := by
    clear pl hz hq hu hu1
    induction r with
    | nil => exact fun u hm => nomatch hm
    | cons r0 r1 ih =>
      intro u hm
      rw [List.all_cons, Bool.and_eq_true] at fs
      rcases List.mem_cons.mp hm with rfl | hm
      · obtain ⟨z, e⟩ := isStrV_ok fs.1
        rw [e] at r0
        obtain ⟨t, rfl⟩ := r0
        exact ⟨_, t, rfl⟩
      · exact ih fs.2 u hm
  have eq : ∀ w ∈ its.toArray, SeqAt.EqAt X.A.in1 s w (.ref a) false := by
    intro w hw
    obtain ⟨z, t, rfl⟩ := str w (by simpa using hw)
    rcases far with ⟨ys, hl⟩ | ⟨ys, ht⟩ | hd
    · obtain ⟨i2, r2, pl2, _⟩ := I.list hl
      exact SeqAt.EqAt.str_list z t pl2.isList hu1
    · obtain ⟨i2, r2, pl2, _⟩ := I.tuple ht
      exact SeqAt.EqAt.str_tuple z t pl2 hu1
    · obtain ⟨_, _, vs, _, o, es, ep, ho, xd, od, _⟩ := dk_rd I.hok hd
      exact SeqAt.EqAt.str_dict z t ho xd.1 ⟨es, ep, od⟩ hu1
  refine SeqAt.notIn_tupleAt (fun _ => false) pl eq ⟨.bl _, H, I, rfl, ?_⟩
  have e : (its.toArray.any fun _ => false) = false := by simp
  rw [e]
  exact q
end PL
namespace PL
open PySem L2 PyProof.Rows

mutual
theorem shp_ok : ∀ {n : Nat} {d : D}, shp n d = true → (toP d).canLay0 = true ∧ (toP d).depth ≤ n + 1
  | _, .non, _ => by simp [toP, PyData.canLay0, PyData.depth]
  | _, .bl _, _ => by simp [toP, PyData.canLay0, PyData.depth]
  | _, .int _, _ => by simp [toP, PyData.canLay0, PyData.depth]
  | _, .str _, h => by
    unfold shp at h
    exact ⟨by simpa [toP] using h, by simp [toP, PyData.depth]⟩
  | 0, .tup l, h => by simp [shp] at h
  | 0, .lst l, h => by simp [shp] at h
  | n + 1, .tup l, h => by
    simp only [shp] at h
    obtain ⟨h1, h2⟩ := shpL_ok h
    exact ⟨by simpa [toP, PyData.canLay0] using h1, by simp only [toP, PyData.depth]; omega⟩
  | n + 1, .lst l, h => by
    simp only [shp] at h
    obtain ⟨h1, h2⟩ := shpL_ok h
    exact ⟨by simpa [toP, PyData.canLay0] using h1, by simp only [toP, PyData.depth]; omega⟩
  | 0, .dct _ _, h => by simp [shp] at h
  | n + 1, .dct _ _, h => by simp [shp] at h
  | 0, .obj _ _ _, h => by simp [shp] at h
  | n + 1, .obj _ _ _, h => by simp [shp] at h
  | 0, .exc _ _, h => by simp [shp] at h
  | n + 1, .exc _ _, h => by simp [shp] at h
theorem shpL_ok : ∀ {n : Nat} {ds : List D}, shpL n ds = true → PyData.canLayAll0 (toPL ds) = true ∧ PyData.depthAll (toPL ds) ≤ n + 1
  | _, [], _ => by simp [toPL, PyData.canLayAll0, PyData.depthAll]
  | n, d :: ds, h => by
    simp only [shpL, Bool.and_eq_true] at h
    obtain ⟨a1, a2⟩ := shp_ok h.1
    obtain ⟨b1, b2⟩ := shpL_ok h.2
    refine ⟨by simp [toPL, PyData.canLayAll0, a1, b1], ?_⟩
    simp only [toPL, PyData.depthAll]
    omega
end
theorem shaped_of {d : D} (h : shp 60 d = true) : SeqAt.shaped (toP d) = true := by
  obtain ⟨h1, h2⟩ := shp_ok h
  unfold SeqAt.shaped
  rw [h1, decide_eq_true (by omega)]
  rfl
mutual
theorem eqD_P : ∀ {n m : Nat} {d e : D}, shp n d = true → shp m e = true → eqD d e = PyData.eqv (toP d) (toP e)
  | n, m, d, e, h1, h2 => by
    cases d <;> cases e <;> first
      | (simp [eqD, toP, PyData.eqv]; done)
      | (cases n <;> simp [shp] at h1; done)
      | (cases m <;> simp [shp] at h2; done)
      | (cases n with
         | zero => simp [shp] at h1
         | succ n => cases m with
           | zero => simp [shp] at h2
           | succ m =>
             simp only [shp] at h1 h2
             simp only [eqD, toP, PyData.eqv]
             exact eqDL_P h1 h2)
theorem eqDL_P : ∀ {n m : Nat} {d e : List D}, shpL n d = true → shpL m e = true → eqDL d e = PyData.eqvAll (toPL d) (toPL e)
  | _, _, [], [], _, _ => by simp [eqDL, toPL, PyData.eqvAll]
  | _, _, [], _ :: _, _, _ => by simp [eqDL, toPL, PyData.eqvAll]
  | _, _, _ :: _, [], _, _ => by simp [eqDL, toPL, PyData.eqvAll]
  | n, m, a :: as, b :: bs, h1, h2 => by
    simp only [shpL, Bool.and_eq_true] at h1 h2
    simp only [eqDL, toPL, PyData.eqvAll]
    rw [eqD_P h1.1 h2.1, eqDL_P h1.2 h2.2]
end

section
variable {g : G} {xg : XG} {H H1 H' : Hp} {S S1 S' : Rg} {d e : D} {n m : Nat} {v w : V} {T A B : Fp} {W : Value → Option Addr → Hp → Prop} {Q Q' : VK} {r : Res}
mutual
theorem own_Dp : ∀ {k n : Nat} {d : D} {v : V} {A : Fp}, shp k d = true → Own g H S n d v A → Dp g.K H v (toP d)
  | _, _, .non, _, _, _, o => by rw [own_non_v o]; exact .non
  | _, _, .bl _, _, _, _, o => by rw [own_bl_v o]; exact .bl _
  | _, _, .int _, _, _, _, o => by rw [own_int_v o]; exact .int _
  | _, _, .str _, _, _, _, o => by rw [own_str_v o]; exact .str _
  | 0, _, .tup l, _, _, h, o => by simp [shp] at h
  | 0, _, .lst l, _, _, h, o => by simp [shp] at h
  | k + 1, _, .tup l, _, _, h, o => by
    simp only [shp] at h
    obtain ⟨a, xs, rfl, t, l1⟩ := own_tup_v o
    exact .tup t (own_DpL h l1)
  | k + 1, 0, .lst l, _, _, h, o => by
    simp only [shp] at h
    obtain ⟨a, xs, rfl, s, t, l1⟩ := own_lst_v o
    exact .lst (rdL t) (own_DpL h l1)
  | k + 1, n + 1, .lst l, _, _, h, o => by
    simp only [shp] at h
    unfold Own at o
    obtain ⟨a, xs, B, rfl, t, rfl, l1⟩ := o
    exact .lst (rdL (.inl t)) (own_DpL h l1)
  | 0, _, .dct _ _, _, _, h, o => by simp [shp] at h
  | k + 1, _, .dct _ _, _, _, h, o => by simp [shp] at h
  | 0, _, .obj _ _ _, _, _, h, o => by simp [shp] at h
  | k + 1, _, .obj _ _ _, _, _, h, o => by simp [shp] at h
  | 0, _, .exc _ _, _, _, h, o => by simp [shp] at h
  | k + 1, _, .exc _ _, _, _, h, o => by simp [shp] at h
theorem own_DpL : ∀ {k n : Nat} {ds : List D} {vs : List V} {A : Fp}, shpL k ds = true → OwnL g H S n ds vs A → DpAll g.K H vs (toPL ds)
  | _, _, [], _, _, _, o => by unfold OwnL at o; rw [o.1]; exact .nil
  | k, _, c :: cs, _, _, h, o => by
    unfold OwnL at o
    obtain ⟨x, ys, B, C, rfl, rfl, h1, h2⟩ := o
    simp only [shpL, Bool.and_eq_true] at h
    exact .cons (own_Dp h.1 h1) (own_DpL h.2 h2)
end
theorem flat_v (h : flatD d = true) (o : Own g H S n d v A) : flatV v = true := by
  cases d <;> first
    | (rw [own_non_v o]; rfl)
    | (rw [own_bl_v o]; rfl)
    | (rw [own_int_v o]; rfl)
    | (rw [own_str_v o]; rfl)
    | (simp [flatD] at h)
theorem eqV_D (h1 : flatD d = true) (h2 : flatD e = true) (o1 : Own g H S n d v A) (o2 : Own g H S m e w B) : eqV v w = eqD d e := by
  cases d <;> cases e <;> first
    | (simp [flatD] at h1; done)
    | (simp [flatD] at h2; done)
    | (first | rw [own_non_v o1] | rw [own_bl_v o1] | rw [own_int_v o1] | rw [own_str_v o1]
       first | rw [own_non_v o2] | rw [own_bl_v o2] | rw [own_int_v o2] | rw [own_str_v o2]
       simp [eqV, eqD])
theorem flatL_v : ∀ {l : List D} {xs : List V} {A : Fp}, l.all flatD = true → OwnL g H S n l xs A → xs.all flatV = true
  | [], _, _, _, o => by unfold OwnL at o; rw [o.1]; rfl
  | c :: cs, _, _, h, o => by
    unfold OwnL at o
    obtain ⟨x, ys, B, C, rfl, rfl, h1, h2⟩ := o
    simp only [List.all_cons, Bool.and_eq_true] at h ⊢
    exact ⟨flat_v h.1 h1, flatL_v h.2 h2⟩
theorem inV_D (hx : flatD d = true) (ox : Own g H S m d v B) : ∀ {l : List D} {xs : List V} {A : Fp}, l.all flatD = true → OwnL g H S n l xs A → inV v xs = inD d l
  | [], _, _, _, o => by unfold OwnL at o; rw [o.1]; rfl
  | c :: cs, _, _, h, o => by
    unfold OwnL at o
    obtain ⟨x, ys, B, C, rfl, rfl, h1, h2⟩ := o
    simp only [List.all_cons, Bool.and_eq_true] at h
    have e := inV_D hx ox h.2 h2
    unfold inV at e ⊢
    rw [List.any_cons, e, eqV_D h.1 hx h1 ox]
    rfl

def Cop.op : Cop → CmpOp
  | .eq => .Eq | .ne => .NotEq | .lt => .Lt | .le => .LtE | .gt => .Gt | .ge => .GtE | .isN => .Is | .notN => .IsNot | .isin => .In | .notin => .NotIn | .nel => .NotEq
variable {X : Cx}
theorem isN_v (o : Own g H S n d v A) : decide (v = .non) = d.isNon := by
  cases d with
  | non => rw [own_non_v o]; rfl
  | bl b => rw [own_bl_v o]; rfl
  | int b => rw [own_int_v o]; rfl
  | str b => rw [own_str_v o]; rfl
  | tup l => obtain ⟨a, xs, rfl, _⟩ := own_tup_v o; rfl
  | lst l => cases n <;> (unfold Own at o) <;> (first | obtain ⟨a, xs, rfl, _⟩ := o | obtain ⟨a, xs, B, rfl, _⟩ := o) <;> rfl
  | dct l k => cases n <;> (unfold Own at o) <;> (first | obtain ⟨a, xs, rfl, _⟩ := o | obtain ⟨a, xs, B, rfl, _⟩ := o) <;> rfl
  | obj c l k => cases n <;> (unfold Own at o) <;> (first | obtain ⟨a, dx, xs, rfl, _⟩ := o | obtain ⟨a, dx, xs, B, rfl, _⟩ := o) <;> rfl
  | exc c l => unfold Own at o; obtain ⟨a, dx, xs, rfl, _⟩ := o; rfl
theorem far_v : ∀ {d : D} {v : V}, farD d = true → Own g H S 0 d v A → ∃ a, v = .ref a ∧ ((∃ ys, SqL g.K H a ys) ∨ (∃ ys, SqT g.K H a ys) ∨ Rd H a (.dK []))
  | .lst l, _, _, o => by
    unfold Own at o
    obtain ⟨a, xs, e, _, t, _⟩ := o
    exact ⟨a, e, .inl ⟨xs, .inl t⟩⟩
  | .tup l, _, _, o => by
    obtain ⟨a, xs, e, t, _⟩ := own_tup_v o
    exact ⟨a, e, .inr (.inl ⟨xs, t⟩)⟩
  | .dct [] [], _, _, o => by
    unfold Own at o
    obtain ⟨a, xs, e, _, t, _, _⟩ := o
    rcases t with ⟨u, ⟨kk, e1, rfl⟩ | ⟨kk, ne, _⟩, t⟩ | ⟨kk, as, ne, _⟩
    · simp at e1
      subst e1
      exact ⟨a, e, .inr (.inr t)⟩
    · exact absurd rfl ne
    · exact absurd rfl ne
theorem strL_v : ∀ {l : List D} {xs : List V} {A : List Addr}, l.all isStrD = true → OwnL g H S 0 l xs A → xs.all isStrV = true
  | [], xs, _, _, o => by unfold OwnL at o; rw [o.1]; rfl
  | d :: ds, xs, _, h, o => by
    rw [List.all_cons, Bool.and_eq_true] at h
    unfold OwnL at o
    obtain ⟨x, ys, B, C, rfl, e, h1, h2⟩ := o
    rw [List.all_cons, Bool.and_eq_true]
    refine ⟨?_, strL_v h.2 h2⟩
    cases d <;> first | exact absurd h.1 Bool.false_ne_true | (rw [own_str_v h1]; rfl)
theorem any_P {n m : Nat} {x : D} : ∀ {l : List D}, shpL n l = true → shp m x = true → (l.any fun z => eqD z x) = (toPL l).any fun z => PyData.eqv z (toP x)
  | [], _, _ => rfl
  | d :: l, h, hx => by
    unfold shpL at h
    simp only [Bool.and_eq_true] at h
    rw [List.any_cons, any_P h.2 hx, eqD_P h.1 hx]
    rfl
theorem own_dct_v {ks vs : List D} (h : Own g H S 0 (.dct ks vs) v A) : ∃ a xs, v = .ref a ∧ S a ∧ ((∃ kk, ks.mapM D.key = some kk ∧ Rd H a (.dK (kk.zip xs))) ∨ (∃ (kk : List (List Key)) (as : List Addr), ks ≠ [] ∧ ks.mapM D.keyT = some kk ∧ as.length = ks.length ∧ OwnL g H S 0 ks (as.map V.ref) [] ∧ ∃ oe, Rd H a (dTo g.P g.w a (kk.zip (as.zip xs)) oe)) ∨ ∃ kk, ks ≠ [] ∧ ks.mapM D.keyL = some kk ∧ Rd H a (dLo g.P g.w a (kk.zip xs))) ∧ ks.length = vs.length ∧ OwnL g H S 0 vs xs A := by
  unfold Own at h
  obtain ⟨a, xs, e, s, t, r⟩ := h
  refine ⟨a, xs, e, s, ?_, r⟩
  rcases t with ⟨u, ⟨kk, e1, rfl⟩ | ⟨kk, ne, e1, rfl⟩, t⟩ | t
  · exact .inl ⟨kk, e1, t⟩
  · exact .inr (.inr ⟨kk, ne, e1, t⟩)
  · exact .inr (.inl t)
theorem key_v {k : Key} (h : d.key = some k) (o : Own g H S n d v A) : v = kV k := by
  cases d with
  | int i => cases h; exact own_int_v o
  | str i => cases h; exact own_str_v o
  | _ => cases h
theorem keys_v : ∀ {l : List D} {k : List Key} {xs : List V} {A : Fp}, l.mapM D.key = some k → OwnL g H S n l xs A → xs = k.map kV
  | [], k, xs, _, h, o => by
    cases h
    unfold OwnL at o
    rw [o.1]
    rfl
  | d :: l, k, xs, _, h, o => by
    obtain ⟨y, zs, rfl, h1, h2⟩ := mapM_cons_some h
    unfold OwnL at o
    obtain ⟨x, ys, B, C, rfl, rfl, o1, o2⟩ := o
    rw [key_v h1 o1, keys_v h2 o2]
    rfl
theorem keyT_v {k : List Key} (h : d.keyT = some k) (o : Own g H S n d v A) : ∃ b, v = .ref b ∧ SqT g.K H b (k.map kV) := by
  obtain ⟨l, rfl, h1⟩ := keyT_tup h
  obtain ⟨a, xs, rfl, t, ol⟩ := own_tup_v o
  rw [keys_v h1 ol] at t
  exact ⟨a, rfl, t⟩
theorem keyD_keyT {q : D} {a b : List Key} (h1 : q.keyT = some a) (h2 : d.keyT = some b) : keyD q d = decide (a = b) := by
  obtain ⟨l, rfl, _⟩ := keyT_tup h1
  obtain ⟨l2, rfl, _⟩ := keyT_tup h2
  show (match (D.tup l).keyT, (D.tup l2).keyT with | some x, some y => decide (x = y) | _, _ => false) = _
  rw [h1, h2]
theorem key_not_T {k : Key} (h : d.key = some k) : d.keyT = none := by
  cases d with
  | int i => rfl
  | str i => rfl
  | _ => cases h
theorem keyL_v {k : PySem.Leaf} (h : d.keyL = some k) (o : Own g H S n d v A) : v = lV k := by
  cases d with
  | non => cases h; exact own_non_v o
  | int i => cases h; exact own_int_v o
  | str i => cases h; exact own_str_v o
  | _ => cases h
theorem keyL_key {k : Key} (h : d.key = some k) : d.keyL = some (kL k) := by
  cases d with
  | int i => cases h; rfl
  | str i => cases h; rfl
  | _ => cases h
theorem keysL_keys : ∀ {l : List D} {k : List Key}, l.mapM D.key = some k → l.mapM D.keyL = some (k.map kL)
  | [], _, h => by cases h; rfl
  | d :: l, k, h => by
    obtain ⟨y, zs, rfl, h1, h2⟩ := mapM_cons_some h
    rw [List.mapM_cons, keyL_key h1, keysL_keys h2]
    rfl
theorem keyL_not_T {k : PySem.Leaf} (h : d.keyL = some k) : d.keyT = none := by
  cases d with
  | non => rfl
  | int i => rfl
  | str i => rfl
  | _ => cases h
theorem keyD_keyL {q : D} {a b : PySem.Leaf} (h1 : q.keyL = some a) (h2 : d.keyL = some b) : keyD q d = decide (a = b) := by
  cases q <;> (first | (cases h1; done) | skip) <;> cases d <;> (first | (cases h2; done) | skip) <;> (cases h1; cases h2; unfold keyD) <;> first | rfl | simp | skip
  all_goals (rename_i i j; by_cases e : i = j <;> simp [e])
theorem look_l {k : D} {kk : PySem.Leaf} (hk : k.keyL = some kk) : ∀ {ks vs : List D} {kks : List PySem.Leaf} {xs : List V} {A : Fp}, ks.mapM D.keyL = some kks → ks.length = vs.length → OwnL g H S n vs xs A →
    match lookD k ks vs with
    | some d => ∃ w B, valV (kks.zip xs) kk = some w ∧ Own g H S n d w B ∧ ∀ a ∈ B, a ∈ A
    | none => valV (kks.zip xs) kk = none
  | [], vs, kks, xs, _, h, hl, o => by
    cases h
    unfold lookD
    cases vs <;> rfl
  | q :: ks, [], _, _, _, _, hl, _ => by simp at hl
  | q :: ks, d :: vs, kks, xs, A, h, hl, o => by
    obtain ⟨y, zs, rfl, h1, h2⟩ := mapM_cons_some h
    unfold OwnL at o
    obtain ⟨x, ys, B, C, rfl, rfl, o1, o2⟩ := o
    have ih := look_l hk h2 (by simpa using hl) o2
    unfold lookD
    rw [keyD_keyL h1 hk]
    rw [List.zip_cons_cons]
    by_cases e : y = kk
    · rw [if_pos (by simp [e])]
      exact ⟨x, B, valV_pos (p := (y, x)) e, o1, fun a ha => List.mem_append_left _ ha⟩
    · rw [if_neg (by simp [e]), valV_neg (p := (y, x)) e]
      revert ih
      cases lookD k ks vs with
      | none => exact id
      | some d => exact fun ⟨w, B', e1, e2, e3⟩ => ⟨w, B', e1, e2, fun a ha => List.mem_append_right _ (e3 a ha)⟩
theorem zip_kL : ∀ (kk : List Key) (xs : List V), (kk.map kL).zip xs = (kk.zip xs).map fun p => (kL p.1, p.2)
  | [], _ => rfl
  | _ :: _, [] => rfl
  | k :: kk, x :: xs => by rw [List.map_cons, List.zip_cons_cons, List.zip_cons_cons, List.map_cons, zip_kL kk xs]
theorem look_t {k : D} {kk : List Key} (hk : k.keyT = some kk) : ∀ {ks vs : List D} {kks : List (List Key)} {as : List Addr} {xs : List V} {A : Fp}, ks.mapM D.keyT = some kks → as.length = ks.length → ks.length = vs.length → OwnL g H S n vs xs A →
    match lookD k ks vs with
    | some d => ∃ w B, dVal (kks.zip (as.zip xs)) kk = some w ∧ Own g H S n d w B ∧ ∀ a ∈ B, a ∈ A
    | none => dVal (kks.zip (as.zip xs)) kk = none
  | [], vs, kks, as, xs, _, h, _, hl, o => by
    cases h
    unfold lookD
    cases vs <;> rfl
  | q :: ks, [], _, _, _, _, _, _, hl, _ => by simp at hl
  | q :: ks, d :: vs, kks, [], xs, A, h, ha, hl, o => by simp at ha
  | q :: ks, d :: vs, kks, a :: as, xs, A, h, ha, hl, o => by
    obtain ⟨y, zs, rfl, h1, h2⟩ := mapM_cons_some h
    unfold OwnL at o
    obtain ⟨x, ys, B, C, rfl, rfl, o1, o2⟩ := o
    have ih := look_t hk h2 (by simpa using ha) (by simpa using hl) o2
    unfold lookD
    rw [keyD_keyT h1 hk]
    rw [List.zip_cons_cons, List.zip_cons_cons]
    unfold dVal at ih ⊢
    rw [List.map_cons]
    by_cases e : y = kk
    · rw [if_pos (by simp [e])]
      exact ⟨x, B, valV_pos (p := (y, x)) e, o1, fun a ha => List.mem_append_left _ ha⟩
    · rw [if_neg (by simp [e]), valV_neg (p := (y, x)) e]
      revert ih
      cases lookD k ks vs with
      | none => exact id
      | some d => exact fun ⟨w, B', e1, e2, e3⟩ => ⟨w, B', e1, e2, fun a ha => List.mem_append_right _ (e3 a ha)⟩
theorem keysAt {ks : List D} : ∀ {ks : List D} {kks : List (List Key)} {as : List Addr} {xs : List V} {A : Fp}, ks.mapM D.keyT = some kks → OwnL g H S n ks (as.map V.ref) A → KeysAt g.K H (kks.zip (as.zip xs))
  | [], kks, as, xs, _, h, o => by cases h; intro p hp; simp at hp
  | q :: ks, kks, [], xs, _, h, o => by unfold OwnL at o; obtain ⟨x, ys, B, C, e, _⟩ := o; cases e
  | q :: ks, kks, a :: as, [], _, h, o => by intro p hp; simp at hp
  | q :: ks, kks, a :: as, x :: xs, _, h, o => by
    obtain ⟨y, zs, rfl, h1, h2⟩ := mapM_cons_some h
    unfold OwnL at o
    obtain ⟨x', ys, B, C, e, rfl, o1, o2⟩ := o
    simp only [List.map_cons, List.cons.injEq] at e
    obtain ⟨rfl, rfl⟩ := e
    intro p hp
    rw [List.zip_cons_cons, List.zip_cons_cons] at hp
    rcases List.mem_cons.mp hp with rfl | hp
    · obtain ⟨b, e1, e2⟩ := keyT_v h1 o1
      cases e1
      exact e2
    · exact keysAt (ks := ks) h2 o2 p hp
/-- what a frozen dict answers -/
theorem dct_dg (hK : g.K = X.K) (hP : g.P = X.prog ∧ g.w = X.w) {ks vs : List D} {k : D} {y : V} (o1 : Own g H S 0 (.dct ks vs) v []) (o2 : Own g H S 0 k y []) (h : keyOk k ks = true) :
    ∃ a r, v = .ref a ∧ DG X.prog X.w X.K H a y r ∧ match lookD k ks vs with
      | some d => ∃ w, r = some w ∧ Own g H S 0 d w []
      | none => r = none := by
  obtain ⟨a, xs, rfl, s, t, hl, ol⟩ := own_dct_v o1
  unfold keyOk at h
  simp only [Bool.or_eq_true, Bool.and_eq_true] at h
  have h : (k.keyT.isSome = true ∧ (ks.mapM D.keyT).isSome = true) ∨ (k.keyL.isSome = true ∧ (ks.mapM D.keyL).isSome = true) := by
    rcases h with (⟨h1, h2⟩ | h) | h
    · obtain ⟨kk, hk⟩ := Option.isSome_iff_exists.mp h1
      obtain ⟨kks, hks⟩ := Option.isSome_iff_exists.mp h2
      exact .inr ⟨by rw [keyL_key hk]; rfl, by rw [keysL_keys hks]; rfl⟩
    · exact .inl h
    · exact .inr h
  rcases h with ⟨h1, h2⟩ | ⟨h1, h2⟩
  · obtain ⟨kk, hk⟩ := Option.isSome_iff_exists.mp h1
    obtain ⟨kks, hks⟩ := Option.isSome_iff_exists.mp h2
    obtain ⟨b, rfl, tb⟩ := keyT_v hk o2
    rw [hK] at tb
    rcases t with ⟨kk', e1, t⟩ | ⟨kk', as, e0, e1, el, ok, t⟩ | ⟨kk', e0, e1, t⟩
    · cases ks with
      | nil =>
        cases e1
        have : (lookD k [] vs) = none := by unfold lookD; cases vs <;> rfl
        rw [this]
        exact ⟨a, none, rfl, .n t rfl tb rfl, rfl⟩
      | cons q ks =>
        obtain ⟨_, _, _, z1, _⟩ := mapM_cons_some hks
        obtain ⟨_, _, _, z2, _⟩ := mapM_cons_some e1
        rw [key_not_T z2] at z1
        cases z1
    · obtain ⟨oe, t⟩ := t
      rw [hks] at e1
      cases e1
      have := look_t (n := 0) hk hks el hl ol
      rw [hP.1, hP.2] at t
      refine ⟨a, _, rfl, .t t (by rw [← hK]; exact keysAt (ks := ks) hks ok) rfl tb rfl, ?_⟩
      revert this
      cases lookD k ks vs with
      | none => exact id
      | some d => exact fun ⟨w, B, e1, e2, e3⟩ => ⟨w, e1, by
          have : B = [] := List.eq_nil_iff_forall_not_mem.mpr fun b hb => nomatch e3 b hb
          rw [← this]; exact e2⟩
    · cases ks with
      | nil => exact absurd rfl e0
      | cons q ks =>
        obtain ⟨_, _, _, z1, _⟩ := mapM_cons_some hks
        obtain ⟨_, _, _, z2, _⟩ := mapM_cons_some e1
        rw [keyL_not_T z2] at z1
        cases z1
  · obtain ⟨kk, hk⟩ := Option.isSome_iff_exists.mp h1
    obtain ⟨kks, hks⟩ := Option.isSome_iff_exists.mp h2
    have fin : ∀ kvs : List (PySem.Leaf × V), kvs = kks.zip xs → (Rd H a (dLo X.prog X.w a kvs) ∨ ∃ ks : List (Key × V), Rd H a (.dK ks) ∧ kvs = ks.map fun p => (kL p.1, p.2)) → ∃ a_1 r, V.ref a = V.ref a_1 ∧ DG X.prog X.w X.K H a_1 y r ∧ match lookD k ks vs with
      | some d => ∃ w, r = some w ∧ Own g H S 0 d w []
      | none => r = none := fun kvs ek t => by
      have := look_l (n := 0) hk hks hl ol
      rw [← ek] at this
      refine ⟨a, _, rfl, .l t (keyL_v hk o2) rfl, ?_⟩
      revert this
      cases lookD k ks vs with
      | none => exact id
      | some d => exact fun ⟨w, B, e1, e2, e3⟩ => ⟨w, e1, by
          have : B = [] := List.eq_nil_iff_forall_not_mem.mpr fun b hb => nomatch e3 b hb
          rw [← this]; exact e2⟩
    rcases t with ⟨kk', e1, t⟩ | ⟨kk', as, e0, e1, _⟩ | ⟨kk', e0, e1, t⟩
    · have e2 := keysL_keys e1
      rw [hks] at e2
      cases e2
      exact fin _ rfl (.inr ⟨_, t, zip_kL _ _⟩)
    · cases ks with
      | nil => exact (e0 rfl).elim
      | cons q ks =>
        obtain ⟨_, _, _, z1, _⟩ := mapM_cons_some hks
        obtain ⟨_, _, _, z2, _⟩ := mapM_cons_some e1
        rw [keyL_not_T z1] at z2
        cases z2
    · rw [hks] at e1
      cases e1
      rw [hP.1, hP.2] at t
      exact fin _ rfl (.inl t)
theorem look_is {o : Option D} {r : Option V} {P : D → V → Prop} (h : match o with | some d => ∃ w, r = some w ∧ P d w | none => r = none) : o.isSome = r.isSome := by
  cases o with
  | none => rw [h]; rfl
  | some d => obtain ⟨w, e, _⟩ := h; rw [e]; rfl
theorem unI_map : ∀ {l : List D} {ns : List Int}, unI l = some ns → l = ns.map D.int
  | [], _, h => by cases h; rfl
  | d :: ds, ns, h => by
    cases d <;> simp [unI] at h
    obtain ⟨ms, h1, rfl⟩ := h
    rw [unI_map h1]
    rfl
theorem shpL_ints (k : Nat) : ∀ ns : List Int, shpL k (ns.map D.int) = true
  | [] => by simp [shpL]
  | x :: ns => by
    rw [List.map_cons, shpL, shpL_ints k ns]
    cases k <;> simp [shp]
theorem toPL_ints : ∀ ns : List Int, toPL (ns.map D.int) = ns.map PyData.int
  | [] => by simp [toPL]
  | x :: ns => by
    rw [List.map_cons, toPL, toPL_ints ns]
    simp [toP]
theorem own_intsD {ns : List Int} {v : V} {n : Nat} {A : Fp} (o : Own g H S n (.lst (ns.map D.int)) v A) : Dp g.K H v (.list (ns.map .int)) := by
  have := own_Dp (k := 1) (by rw [shp]; exact shpL_ints 0 ns) o
  rw [toP, toPL_ints] at this
  exact this
/-- one list of whole numbers ahead of another -/
def rLtI (K : PySem.W.Frag) : V → V → Hp → VK → Prop := fun x y H Q => ∃ (xs ys : List Int), Dp K H x (.list (xs.map .int)) ∧ Dp K H y (.list (ys.map .int)) ∧ Q (.bl (decide (xs < ys))) H
theorem op_ltI {X : Cx} (hu : X.A.units + 65 < cLine) : OpR X (compareOp .Lt) (rLtI X.K) := by
  intro pins s σ H x y v u Q I rx ry h
  obtain ⟨xs, ys, hd, he, q⟩ := h
  obtain ⟨as, r1⟩ := Dp.reads I _ x v hd rx
  obtain ⟨bs, r2⟩ := Dp.reads I _ y u he ry
  refine PySem.W.lt_data r1 r2 (by simp only [PySem.W.alike]; exact PySem.W.alike_ints xs ys) (fun z => by cases z) (by
    simp only [PyData.depth, PySem.W.depth_ints]
    omega) ⟨.bl (decide (xs < ys)), H, I, ?_, q⟩
  rw [PySem.W.dataLt_list]
  have := PySem.W.dataLt_ints xs ys
  unfold PySem.W.rowLt at this
  rw [this]
  rfl
theorem eqv_ints_own : ∀ a b : List Int, PyData.eqvAll (a.map .int) (b.map .int) = decide (a = b)
  | [], [] => rfl
  | [], y :: b => by simp [PyData.eqvAll]
  | x :: a, [] => by simp [PyData.eqvAll]
  | x :: a, y :: b => by
    rw [List.map_cons, List.map_cons, PyData.eqvAll, eqv_ints_own a b]
    by_cases h : x = y <;> by_cases h2 : a = b <;> simp [PyData.eqv, h, h2]
def ilP (p : Int × List Int) : PyData := .tuple [.int p.1, .list (p.2.map .int)]
theorem ltIL_P (x y : Int × List Int) : PySem.W.dataLt (ilP x) (ilP y) = ltIL x y := by
  unfold ilP ltIL
  rw [PySem.W.dataLt_pair (by simp [PySem.W.alike]) (by simp only [PySem.W.alike]; exact PySem.W.alike_ints _ _), PySem.W.dataLt_int, PySem.W.dataLt_list]
  have := PySem.W.dataLt_ints x.2 y.2
  unfold PySem.W.rowLt at this
  rw [this]
  simp only [PyData.eqv, beq_iff_eq, eqv_ints_own]
  by_cases h : x.1 = y.1
  · by_cases h2 : x.2 = y.2 <;> simp [h, h2]
  · simp [h]
/-- a pair of a number and a list behind another -/
def rGtIL (K : PySem.W.Frag) : V → V → Hp → VK → Prop := fun x y H Q => ∃ (p q : Int × List Int), Dp K H x (ilP p) ∧ Dp K H y (ilP q) ∧ Q (.bl (ltIL q p)) H
theorem op_gtIL {X : Cx} (hu : X.A.units + 65 < cLine) : OpR X (compareOp .Gt) (rGtIL X.K) := by
  intro pins s σ H x y v u Q I rx ry h
  obtain ⟨p, q, hd, he, k⟩ := h
  obtain ⟨as, r1⟩ := Dp.reads I _ x v hd rx
  obtain ⟨bs, r2⟩ := Dp.reads I _ y u he ry
  refine PySem.W.gt_data r1 r2 (by simp only [ilP, PySem.W.alike, PySem.W.alikeAll, PySem.W.alike_ints, Bool.and_self]) (fun z => by cases z) (by
    simp only [ilP, PyData.depth, PyData.depthAll, PySem.W.depth_ints]
    omega) ⟨.bl (ltIL q p), H, I, ?_, k⟩
  rw [ltIL_P]
  rfl
theorem own_ilD {a : List D} {p : Int × List Int} (e : unIL a = some p) {v : V} {n : Nat} {A : Fp} (o : Own g H S n (.tup a) v A) : Dp g.K H v (ilP p) := by
  unfold unIL at e
  split at e
  · rename_i i l
    cases e2 : unI l with
    | none => rw [e2] at e; cases e
    | some ns =>
      rw [e2] at e
      cases e
      obtain rfl := unI_map e2
      have := own_Dp (k := 2) (by simp [shp, shpL, shpL_ints 0 ns]) o
      rw [toP, toPL, toPL, toPL, toP, toP, toPL_ints] at this
      exact this
  · cases e
/-- two lists of unlike lengths -/
def rNeLen (K : PySem.W.Frag) : R2 := fun x y H Q => ∃ a b xs ys, x = .ref a ∧ y = .ref b ∧ SqL K H a xs ∧ SqL K H b ys ∧ xs.length ≠ ys.length ∧ Q (.bl true) H
theorem op_neLen {X : Cx} (hu : X.A.units + 65 < cLine) : OpR X (compareOp .NotEq) (rNeLen X.K) := by
  intro pins s σ H x y v u Q I rx ry h
  obtain ⟨a, b, xs, ys, rfl, rfl, h1, h2, ne, q⟩ := h
  cases rx
  cases ry
  obtain ⟨i1, r1, p1, _⟩ := I.list h1
  obtain ⟨i2, r2, p2, _⟩ := I.list h2
  have l1 := r1.length
  have l2 := r2.length
  exact SeqAt.RcNeAt.lists_lengths p1.isList p2.isList (by simp only [List.size_toArray, bne_iff_ne]; omega) (by omega) _ _ _ _ ⟨.bl true, H, I, rfl, q⟩
theorem mapM_len {α β : Type} {f : α → Option β} : ∀ {l : List α} {k : List β}, l.mapM f = some k → k.length = l.length
  | [], k, h => by cases h; rfl
  | d :: l, k, h => by
    obtain ⟨y, zs, rfl, _, h2⟩ := mapM_cons_some h
    rw [List.length_cons, List.length_cons, mapM_len h2]
/-- a frozen dict whose keys are tuples -/
theorem own_dctTT (hP : g.P = X.prog ∧ g.w = X.w) {H : Hp} {S : Rg} {ks vs : List D} {v : V} (o : Own g H S 0 (.dct ks vs) v []) (z : (ks.mapM D.keyT).isSome = true) : ∃ a, v = .ref a ∧ ((ks = [] ∧ vs = [] ∧ Rd H a (.dK [])) ∨ ∃ (kk : List (List Key)) (as : List Addr) (xs : List V) (oe : Obj), ks ≠ [] ∧ ks.mapM D.keyT = some kk ∧ Rd H a (dTo X.prog X.w a (kk.zip (as.zip xs)) oe) ∧ OwnL g H S 0 ks (as.map V.ref) [] ∧ OwnL g H S 0 vs xs [] ∧ kk.length = as.length ∧ xs.length = as.length) := by
  obtain ⟨kks, hks⟩ := Option.isSome_iff_exists.mp z
  obtain ⟨a, xs, rfl, s, t, hl, ol⟩ := own_dct_v o
  refine ⟨a, rfl, ?_⟩
  rcases t with ⟨kk, e1, t⟩ | ⟨kk, as, e0, e1, el, ok, t⟩ | ⟨kk, e0, e1, t⟩
  · cases ks with
    | nil =>
      cases e1
      cases vs with
      | nil => exact .inl ⟨rfl, rfl, t⟩
      | cons v vs => simp at hl
    | cons q ks =>
      obtain ⟨_, _, _, z1, _⟩ := mapM_cons_some hks
      obtain ⟨_, _, _, z2, _⟩ := mapM_cons_some e1
      rw [key_not_T z2] at z1
      cases z1
  · obtain ⟨oe, t⟩ := t
    rw [hP.1, hP.2] at t
    exact .inr ⟨kk, as, xs, oe, e0, e1, t, ok, ol, by rw [mapM_len e1, el], by rw [ol.length, el, hl]⟩
  · cases ks with
    | nil => exact absurd rfl e0
    | cons q ks =>
      obtain ⟨_, _, _, z1, _⟩ := mapM_cons_some hks
      obtain ⟨_, _, _, z2, _⟩ := mapM_cons_some e1
      rw [keyL_not_T z2] at z1
      cases z1
/-- a dict held to an empty one -/
def rNeDct (X : Cx) : R2 := fun x y H Q => ∃ (a b : Addr) (kas : List KA), x = .ref a ∧ y = .ref b ∧ ((kas ≠ [] ∧ ∃ oe, Rd H a (dTo X.prog X.w a kas oe)) ∨ kas = [] ∧ Rd H a (.dK [])) ∧ Rd H b (.dK []) ∧ Q (.bl (!kas.isEmpty)) H
theorem op_neDct {X : Cx} (hu : X.A.units + 65 < cLine) : OpR X (compareOp .NotEq) (rNeDct X) := by
  intro pins s σ H x y v u Q I rx ry h
  obtain ⟨a, b, kas, rfl, rfl, ha, hb, q⟩ := h
  cases rx
  cases ry
  obtain ⟨zb, sb, vb, relb, db⟩ := (show ObjOk X.prog X.w H s.heap b (.dK []) from hb.ok I.hok)
  cases relb
  rcases ha with ⟨ne, oe, e⟩ | ⟨rfl, e⟩
  · obtain ⟨_, sys, xs, ob, es, ep, rel, d⟩ := dTo_ok (e.ok I.hok)
    obtain ⟨ob', es', ep', h1, h2, h3, _, h4, _⟩ := db
    have l1 := Paired.length rel
    have l2 := size_of_entries d.ent
    have l3 : es'.size = 0 := by
      have := h4.length
      simpa using this
    refine ne_dicts_raw sys sb d.at_ d.ex.1 d.data h1 h2.1 h3 (fun z => ne (List.length_eq_zero_iff.mp (by omega))) (by omega) ⟨.bl true, H, I, rfl, ?_⟩
    have : (!kas.isEmpty) = true := by cases kas with | nil => exact absurd rfl ne | cons _ _ => rfl
    rw [← this]
    exact q
  · obtain ⟨za, sa, va, rela, da⟩ := (show ObjOk X.prog X.w H s.heap a (.dK []) from e.ok I.hok)
    cases rela
    exact PySem.W.keq_ne (r := true) sa sb da db (by omega) (fun _ => .nil) ⟨.bl false, H, I, rfl, q⟩
theorem op_cmp (hK : g.K = X.K) (hP : g.P = X.prog ∧ g.w = X.w) (hu : X.A.units + 65 < cLine) (o : Cop) : OpR X (compareOp o.op) (rB g xg W (cmpD o)) := by
  refine OpR.pick fun x y H Q h => ?_
  obtain ⟨S, d, e, sz, o1, o2, h⟩ := h
  unfold cmpD at h
  split at h
  · split at h
    · rename_i z
      simp only [Bool.and_eq_true] at z
      refine ⟨_, op_eqD (by omega), toP _, toP _, by rw [← hK]; exact own_Dp z.1 o1, by rw [← hK]; exact own_Dp z.2 o2, shaped_of z.1, shaped_of z.2, ?_⟩
      rw [← eqD_P z.1 z.2]
      exact h.val sz own_bl
    · exact h.elim
  · split at h
    · rename_i z
      simp only [Bool.and_eq_true] at z
      refine ⟨_, op_neD (by omega), toP _, toP _, by rw [← hK]; exact own_Dp z.1 o1, by rw [← hK]; exact own_Dp z.2 o2, shaped_of z.1, shaped_of z.2, ?_⟩
      rw [← eqD_P z.1 z.2]
      exact h.val sz own_bl
    · exact h.elim
  · rw [own_int_v o1, own_int_v o2]; exact ⟨_, op_lt, _, _, rfl, rfl, h.val sz own_bl⟩
  · rw [own_int_v o1, own_int_v o2]; exact ⟨_, op_le, _, _, rfl, rfl, h.val sz own_bl⟩
  · rw [own_int_v o1, own_int_v o2]; exact ⟨_, op_gt, _, _, rfl, rfl, h.val sz own_bl⟩
  · rw [own_int_v o1, own_int_v o2]; exact ⟨_, op_ge, _, _, rfl, rfl, h.val sz own_bl⟩
  · split at h
    · rename_i xs ys e1 e2
      obtain rfl := unI_map e1
      obtain rfl := unI_map e2
      exact ⟨_, op_ltI hu, xs, ys, by rw [← hK]; exact own_intsD o1, by rw [← hK]; exact own_intsD o2, h.val sz own_bl⟩
    · exact h.elim
  · split at h
    · rename_i x y e1 e2
      exact ⟨_, op_gtIL hu, x, y, by rw [← hK]; exact own_ilD e1 o1, by rw [← hK]; exact own_ilD e2 o2, h.val sz own_bl⟩
    · exact h.elim
  · rw [own_non_v o2]
    refine ⟨_, op_isN, rfl, ?_⟩
    rw [isN_v o1]
    exact h.val sz own_bl
  · rw [own_non_v o2]
    refine ⟨_, op_notN, rfl, ?_⟩
    rw [isN_v o1]
    exact h.val sz own_bl
  · rw [own_bl_v o1, own_bl_v o2]; exact ⟨_, op_is_bl, _, _, rfl, rfl, h.val sz own_bl⟩
  · rw [own_bl_v o1, own_bl_v o2]; exact ⟨_, op_isnot_bl, _, _, rfl, rfl, h.val sz own_bl⟩
  · have o2' := o2
    obtain ⟨a, xs, rfl, s, t, l1⟩ := own_lst_v o2
    split at h
    · rename_i z
      simp only [Bool.and_eq_true] at z
      refine ⟨_, op_in_seq, a, xs, rfl, .inl (rdL t), flat_v z.1 o1, flatL_v z.2 l1, ?_⟩
      rw [if_neg Bool.false_ne_true, inV_D z.1 o1 z.2 l1]
      exact h.val sz own_bl
    · split at h
      · rename_i z
        simp only [Bool.and_eq_true] at z
        refine ⟨_, op_inD hu, toP _, toPL _, by rw [← hK]; exact own_Dp z.1 o1, by rw [← hK]; exact own_Dp z.2 o2, shaped_of z.1, shaped_of z.2, ?_⟩
        rw [← any_P (by have := z.2; unfold shp at this; exact this) z.1]
        exact h.val sz own_bl
      · exact h.elim
  · obtain ⟨a, xs, rfl, t, l1⟩ := own_tup_v o2
    split at h
    · rename_i z
      simp only [Bool.and_eq_true] at z
      refine ⟨_, op_in_seq, a, xs, rfl, .inr (by rw [← hK]; exact t), flat_v z.1 o1, flatL_v z.2 l1, ?_⟩
      rw [if_neg Bool.false_ne_true, inV_D z.1 o1 z.2 l1]
      exact h.val sz own_bl
    · exact h.elim
  · have o2' := o2
    obtain ⟨a, xs, rfl, s, t, l1⟩ := own_lst_v o2
    split at h
    · rename_i z
      simp only [Bool.and_eq_true] at z
      refine ⟨_, op_notIn_seq, a, xs, rfl, .inl (rdL t), flat_v z.1 o1, flatL_v z.2 l1, ?_⟩
      rw [if_pos rfl, inV_D z.1 o1 z.2 l1]
      exact h.val sz own_bl
    · split at h
      · rename_i z
        simp only [Bool.and_eq_true] at z
        refine ⟨_, op_notInD hu, toP _, toPL _, by rw [← hK]; exact own_Dp z.1 o1, by rw [← hK]; exact own_Dp z.2 o2, shaped_of z.1, shaped_of z.2, ?_⟩
        rw [← any_P (by have := z.2; unfold shp at this; exact this) z.1]
        exact h.val sz own_bl
      · exact h.elim
  · obtain ⟨a, xs, rfl, t, l1⟩ := own_tup_v o2
    split at h
    · rename_i z
      simp only [Bool.and_eq_true] at z
      refine ⟨_, op_notIn_seq, a, xs, rfl, .inr (by rw [← hK]; exact t), flat_v z.1 o1, flatL_v z.2 l1, ?_⟩
      rw [if_pos rfl, inV_D z.1 o1 z.2 l1]
      exact h.val sz own_bl
    · split at h
      · rename_i z
        simp only [Bool.and_eq_true] at z
        obtain ⟨b, rfl, far⟩ := far_v z.1 o1
        refine ⟨_, op_notIn_far hu, b, a, xs, rfl, rfl, by rw [← hK]; exact t, strL_v z.2 l1, by rw [← hK]; exact far, h.val sz own_bl⟩
      · exact h.elim
  · split at h
    · rename_i z
      obtain ⟨a, r, rfl, dg, e⟩ := dct_dg hK hP o2 o1 z
      refine ⟨_, op_dg_in (by omega), a, r, rfl, dg, ?_⟩
      rw [← look_is e]
      exact h.val sz own_bl
    · exact h.elim
  · split at h
    · rename_i z
      obtain ⟨a, r, rfl, dg, e⟩ := dct_dg hK hP o2 o1 z
      refine ⟨_, op_dg_notIn (by omega), a, r, rfl, dg, ?_⟩
      rw [← look_is e]
      exact h.val sz own_bl
    · exact h.elim
  · rename_i l
    cases l with
    | nil =>
      have s0 : shp 60 (.lst []) = true := by unfold shp shpL; rfl
      refine ⟨_, op_neD (by omega), toP _, toP _, by rw [← hK]; exact own_Dp s0 o1, by rw [← hK]; exact own_Dp s0 o2, shaped_of s0, shaped_of s0, ?_⟩
      rw [← eqD_P s0 s0]
      exact h.val sz own_bl
    | cons d l =>
      obtain ⟨a, xs, rfl, _, t, l1⟩ := own_lst_v o1
      obtain ⟨b, ys, rfl, _, t2, l2⟩ := own_lst_v o2
      refine ⟨_, op_neLen hu, a, b, xs, ys, rfl, rfl, rdL t, rdL t2, by rw [l1.length, l2.length, List.length_cons, List.length_nil]; omega, ?_⟩
      exact h.val sz own_bl
  · split at h
    · rename_i z
      obtain ⟨b, rfl, tb⟩ := own_dctTT hP o2 rfl
      have hb : Rd H b (.dK []) := by
        rcases tb with ⟨_, _, tb⟩ | ⟨_, _, _, _, ne, _⟩
        · exact tb
        · exact absurd rfl ne
      obtain ⟨a, rfl, ⟨rfl, _, ta⟩ | ⟨kk, as, xs, oe, ne, e1, t, ok, ol, l1, l2⟩⟩ := own_dctTT hP o1 z
      · exact ⟨_, op_neDct hu, a, b, [], rfl, rfl, .inr ⟨rfl, ta⟩, hb, h.val sz own_bl⟩
      · rename_i ks _
        have l3 := mapM_len e1
        have e2 : (!(kk.zip (as.zip xs)).isEmpty) = !ks.isEmpty := by
          cases ks with
          | nil => exact absurd rfl ne
          | cons q ks =>
            cases kk with
            | nil => simp at l3
            | cons k kk =>
              cases as with
              | nil => simp at l1
              | cons a as =>
                cases xs with
                | nil => simp at l2
                | cons x xs => rfl
        refine ⟨_, op_neDct hu, a, b, _, rfl, rfl, .inl ⟨fun e => ?_, oe, t⟩, hb, ?_⟩
        · rw [e] at e2
          cases ks with
          | nil => exact ne rfl
          | cons q ks => cases e2
        · rw [e2]
          exact h.val sz own_bl
    · exact h.elim
  · exact h.elim

theorem atI_own {l : List D} {xs : List V} {i : Int} (o : OwnL g H S 0 l xs []) (h : atI l i = some d) : ∃ v, atI xs i = some v ∧ Own g H S 0 d v [] := by
  unfold atI at h ⊢
  rw [o.length]
  cases e : ixN l.length i with
  | none => rw [e] at h; cases h
  | some j =>
    rw [e] at h
    obtain ⟨x, B, h1, h2, h3⟩ := o.get (i := j) (show l[j]? = some d from h)
    have := h2.zero
    subst this
    exact ⟨x, h1, h2⟩
theorem ix_sub (hK : g.K = X.K) (hP : g.P = X.prog ∧ g.w = X.w) (hu : X.A.units + 65 < cLine) : IxR X (rB g xg W ixD) := by
  intro value slice pins s σ H x y v u Q I rx ry h hs
  obtain ⟨S, d, e, sz, o1, o2, h⟩ := h
  unfold ixD at h
  split at h
  · rename_i l k
    obtain ⟨a, xs, rfl, s1, t, l1⟩ := own_lst_v o1
    rw [own_int_v o2] at ry
    unfold atD at h
    split at h
    · rename_i c e1
      obtain ⟨z, e2, o3⟩ := atI_own l1 e1
      exact ix_list value slice pins s σ H _ _ v u Q I rx ry ⟨a, xs, k, z, rfl, rfl, rdL t, e2, h.val sz o3⟩ hs
    · exact h.elim
  · rename_i l k
    obtain ⟨a, xs, rfl, t, l1⟩ := own_tup_v o1
    rw [own_int_v o2] at ry
    unfold atD at h
    split at h
    · rename_i c e1
      obtain ⟨z, e2, o3⟩ := atI_own l1 e1
      exact ix_tup value slice pins s σ H _ _ v u Q I rx ry ⟨a, xs, k, z, rfl, rfl, by rw [← hK]; exact t, e2, h.val sz o3⟩ hs
    · exact h.elim
  · rename_i z k
    rw [own_str_v o1] at rx
    rw [own_int_v o2] at ry
    unfold strAt at h
    split at h
    · rename_i c e1
      split at h
      · rename_i z1
        exact ix_str value slice pins s σ H _ _ v u Q I rx ry ⟨z, k, c, rfl, rfl, of_decide_eq_true z1, e1, h.val sz own_str⟩ hs
      · exact h.elim
    · exact h.elim
  · split at h
    · rename_i z
      obtain ⟨a, r, rfl, dg, e⟩ := dct_dg hK hP o1 o2 z
      split at h
      · rename_i c e1
        rw [e1] at e
        obtain ⟨w, rfl, o3⟩ := e
        exact ix_dg (by omega) value slice pins s σ H _ _ v u Q I rx ry ⟨a, w, rfl, dg, h.val sz o3⟩ hs
      · exact h.elim
    · exact h.elim
  · exact h.elim

/-- a slice of a frozen value -/
def rSlD (g : G) (xg : XG) (W : Value → Option Addr → Hp → Prop) : V → Option Int → Option Int → Hp → VK → Prop := fun x lo hi H Q =>
  ∃ S d, (∀ a, S a → (H a).isSome = true) ∧ Own g H S 0 d x [] ∧ RF g xg H S (slD d lo hi) W Q
theorem SlR.pick {r' : V → Option Int → Option Int → Hp → VK → Prop} (k : ∀ x lo hi H Q, r' x lo hi H Q → ∃ r, SlR X r ∧ r x lo hi H Q) : SlR X r' :=
  fun pins s σ H x v vl vu lo hi sl Q I rx hs pl pu q => let ⟨_, h, z⟩ := k x lo hi H Q q; h pins s σ H x v vl vu lo hi sl Q I rx hs pl pu z
theorem OwnL.drop {l : List D} {xs : List V} (o : OwnL g H S 0 l xs []) : ∀ k : Nat, OwnL g H S 0 (l.drop k) (xs.drop k) [] := by
  induction l generalizing xs with
  | nil =>
    unfold OwnL at o
    rw [o.1]
    intro k
    simp
    exact OwnL.nil
  | cons c cs ih =>
    have o' := o
    unfold OwnL at o
    obtain ⟨x, ys, B, C, rfl, e, h1, h2⟩ := o
    have e1 := h1.zero
    have e2 := h2.zero
    subst e1
    subst e2
    intro k
    cases k with
    | zero => exact o'
    | succ k => exact ih h2 k
theorem OwnL.take {l : List D} {xs : List V} (o : OwnL g H S 0 l xs []) : ∀ k : Nat, OwnL g H S 0 (l.take k) (xs.take k) [] := by
  induction l generalizing xs with
  | nil =>
    unfold OwnL at o
    rw [o.1]
    intro k
    simp
    exact OwnL.nil
  | cons c cs ih =>
    unfold OwnL at o
    obtain ⟨x, ys, B, C, rfl, e, h1, h2⟩ := o
    have e1 := h1.zero
    have e2 := h2.zero
    subst e1
    subst e2
    intro k
    cases k with
    | zero => simp; exact OwnL.nil
    | succ k => exact OwnL.cons (A := []) (B := []) h1 (ih h2 k)
theorem OwnL.cut {l : List D} {xs : List V} (o : OwnL g H S 0 l xs []) (lo hi : Option Int) : OwnL g H S 0 (cutD l lo hi) (cutV xs lo hi) [] := by
  unfold cutD cutV
  rw [o.length]
  exact (o.drop _).take _
theorem OwnL.rev {l : List D} {xs : List V} (o : OwnL g H S 0 l xs []) : OwnL g H S 0 l.reverse xs.reverse [] := by
  induction l generalizing xs with
  | nil =>
    unfold OwnL at o
    rw [o.1]
    exact OwnL.nil
  | cons c cs ih =>
    unfold OwnL at o
    obtain ⟨x, ys, B, C, rfl, e, h1, h2⟩ := o
    have e1 := h1.zero
    have e2 := h2.zero
    subst e1
    subst e2
    rw [List.reverse_cons, List.reverse_cons]
    exact OwnL.append (A := []) (B := []) (ih h2) (OwnL.cons (A := []) (B := []) h1 OwnL.nil)
theorem Vals.rev {xs : List V} {us : List Value} (r : Vals xs us) : Vals xs.reverse us.reverse := by
  induction r with
  | nil => exact .nil
  | cons h t ih =>
    rw [List.reverse_cons, List.reverse_cons]
    exact ih.append (.cons h .nil)
/-- t[lo:hi], a new one without a dict -/
def rSlN (K : PySem.W.Frag) : V → Option Int → Option Int → Hp → VK → Prop := fun x lo hi H Q => ∃ a xs, x = .ref a ∧ SqT K H a xs ∧
  (HT.sIx xs.length 0 lo = 0 ∧ HT.sIx xs.length xs.length hi = xs.length → Q (.ref a) H) ∧ (¬ (HT.sIx xs.length 0 lo = 0 ∧ HT.sIx xs.length xs.length hi = xs.length) → ∀ p o, H p = none → o.dict = none → Q (.ref p) (upd H p (.frz o (.tup (cutV xs lo hi)))))
theorem sl_tupN : SlR X (rSlN X.K) := fun pins s σ H x v vl vu lo hi sl Q I rx hs pl pu h => by
  obtain ⟨a, xs, rfl, hx, q1, q2⟩ := h
  cases rx
  obtain ⟨its, r, ht, hz⟩ := I.tuple hx
  have e0 : xs.length = its.toArray.size := by rw [List.size_toArray]; exact r.length
  rw [e0] at q1 q2
  refine ⟨"tuple", _, PyProof.Rows.slot_tuple_getitem.lookup, ht.typeIs, ?_⟩
  by_cases w : HT.sIx its.toArray.size 0 lo = 0 ∧ HT.sIx its.toArray.size its.toArray.size hi = its.toArray.size
  · exact getItem_tuple_whole ht hs pl pu w ⟨.ref a, H, I, rfl, q1 w⟩
  · have cl : (cutV xs lo hi).length ≤ sizeLine := by unfold cutV; rw [List.length_take, List.length_drop]; omega
    have rc : Vals (cutV xs lo hi) ((its.drop (HT.sIx its.toArray.size 0 lo)).take (HT.sIx its.toArray.size its.toArray.size hi - HT.sIx its.toArray.size 0 lo)) := by
      unfold cutV
      rw [e0]
      exact (r.drop _).take _
    obtain ⟨I2, fr⟩ := Inv.tup_new I (h' := s.heap) (fun _ _ e => e) cl rc
    exact HT.getItem_tuple_cut ht hs pl pu w ⟨.ref s.heap.objs.size, _, I2, rfl, q2 w _ _ fr rfl⟩ (by rw [← e0]; exact hz)
theorem sl_sub (hK : g.K = X.K) : SlR X (rSlD g xg W) := by
  refine SlR.pick fun x lo hi H Q h => ?_
  obtain ⟨S, d, sz, o1, h⟩ := h
  unfold slD at h
  split at h
  · obtain ⟨a, xs, rfl, s1, t, l1⟩ := own_lst_v o1
    exact ⟨_, sl_list, a, xs, rfl, rdL t, fun p hp => h.new (T := [p]) sz hp (.inl rfl) (own_lst upd_same ((l1.laid sz hp).cut lo hi))⟩
  · rename_i l
    obtain ⟨a, xs, rfl, t, l1⟩ := own_tup_n o1
    have e1 := l1.length
    refine ⟨_, sl_tupN, a, xs, rfl, by rw [← hK]; exact t.sq, fun q => ?_, fun q p o hp ho => h.new (T := []) sz hp (.inr rfl) (own_tup (sqN_new ho) ((l1.laid sz hp).cut lo hi))⟩
    refine h.val sz (own_tup t ?_)
    have e2 : cutD l lo hi = l := by
      unfold cutD
      rw [← e1, q.1, q.2, List.drop_zero, Nat.sub_zero, e1, List.take_length]
    rw [e2]
    exact l1
  · rw [own_str_v o1]
    split at h
    · rename_i z
      exact ⟨_, sl_str, _, rfl, of_decide_eq_true z, h.val sz own_str⟩
    · exact h.elim
  · exact h.elim
end
end PL
namespace PL
open PySem L2 PyProof.Rows

def noStar : Expr → Bool
  | .Starred _ _ => false
  | _ => true
theorem star_cons {e : Expr} {es : List Expr} {env : PySem.Env} (h : noStar e = true) : starEach (e :: es) env = (false, eval e env) :: starEach es env := by
  cases e <;> first | rfl | exact absurd h Bool.false_ne_true
theorem plain_any {es : List Expr} {env : PySem.Env} {pos : Pos} (h : es.all noStar = true) : (backTo pos (starEach es env)).any (·.1) = false := by
  induction es with
  | nil => rfl
  | cons e es ih =>
    simp only [List.all_cons, Bool.and_eq_true] at h
    rw [star_cons h.1]
    have := ih h.2
    unfold backTo at this ⊢
    simp only [List.map_cons, List.any_cons, this]
    rfl
theorem plain_form {es : List Expr} {env : PySem.Env} {pos : Pos} {n : Nat} (h : es.all noStar = true) (hn : n < 30) : methodCallForm n (backTo pos (starEach es env)) [] = true := by
  unfold methodCallForm
  have h1 := plain_any (env := env) (pos := pos) h
  simp only [List.all_nil, Bool.and_true, List.isEmpty_nil, if_true, Bool.and_eq_true, decide_eq_true_eq]
  refine ⟨?_, by simpa using hn⟩
  rw [List.all_eq_true]
  intro x hx
  rw [List.any_eq_false] at h1
  have := h1 x hx
  simpa using this
def noSlice : Expr → Bool
  | .Slice _ _ _ _ => false
  | _ => true
theorem plainIx {b : Expr} (h : noSlice b = true) : PlainIx b := by
  intro o i
  cases b <;> first | rfl | exact absurd h Bool.false_ne_true
def noSuper : Expr → Bool
  | .Call (.Name id _) [] [] _ => !(id == ("super" : Str))
  | _ => true
theorem attrBase {o : Expr} {m : Str} {env : PySem.Env} {w : Sem Value} (h : noSuper o = true) : attributeBase o m env w = w := by
  unfold attributeBase
  split
  · rename_i id p pos
    have e : (id != ("super" : Str)) = true := h
    rw [e]
    rfl
  · rfl
def noComp : Expr → Bool
  | .ListComp _ _ _ _ => false
  | .SetComp _ _ _ _ => false
  | .DictComp _ _ _ _ _ => false
  | _ => true
theorem noSwap {e : Expr} {t : Option Expr} {l : Nat} {env : PySem.Env} (h : noComp e = true) : swapsWith e t l env = pure false := by
  cases e <;> first | rfl | exact absurd h Bool.false_ne_true
def isLeaf : Expr → Bool
  | .UnaryOp .Not _ _ => false
  | .BoolOp _ _ _ => false
  | .IfExp _ _ _ _ => false
  | .Compare _ _ _ _ => false
  | _ => true
theorem isTrue_leaf {e : Expr} {env : PySem.Env} (h : isLeaf e = true) : ∀ whole, isTrue e env whole = (do let v ← whole; standAt e.pos; holding [v] (truthy v)) := by
  intro w
  cases e <;> first | rfl | exact absurd h Bool.false_ne_true | skip
  rename_i o x p
  cases o <;> first | rfl | exact absurd h Bool.false_ne_true
def noSet : Expr → Bool
  | .Set _ _ _ => false
  | _ => true
theorem noMark {e : Expr} {op : CmpOp} (h : noSet e = true) : behindInMarks op e = false := by
  cases e <;> first | rfl | exact absurd h Bool.false_ne_true
theorem noFold {e : Expr} {env : PySem.Env} (h : noSet e = true) : ∀ x, foldedSetIterable e env x = pure x := by
  intro x
  cases e <;> first | rfl | exact absurd h Bool.false_ne_true

section
variable {g : G} {xg : XG} {Γ : Fe}
/-- a body's slots, all frozen -/
structure Rep0 (g : G) (H : Hp) (S : Rg) (δ : Ev) (σ : L2.St) : Prop where
  tab : TabG g H
  sz : ∀ a, S a → (H a).isSome = true
  len : δ.length = σ.length
  at_ : ∀ (i : Nat) (d : D), δ[i]? = some (some d) → ∃ v : V, σ[i]? = some (some v) ∧ Own g H S 0 d v []
theorem Rep0.fw {H H' : Hp} {S S' : Rg} {δ : Ev} {σ : L2.St} (r : Rep0 g H S δ σ) (f : Fw g.TB H H' S S') : Rep0 g H' S' δ σ :=
  ⟨f.ext.tabG r.tab, f.sz, r.len, fun i d e => let ⟨v, e1, o⟩ := r.at_ i d e; ⟨v, e1, o.fw f r.sz⟩⟩
theorem Rep0.set {H : Hp} {S : Rg} {δ : Ev} {σ : L2.St} {i : Nat} {d : D} {v : V} (r : Rep0 g H S δ σ) (o : Own g H S 0 d v []) : Rep0 g H S (δ.set i (some d)) (σ.set i (some v)) := by
  refine ⟨r.tab, r.sz, by rw [List.length_set, List.length_set, r.len], fun j e h => ?_⟩
  by_cases hj : i = j
  · subst hj
    have hl : i < δ.length := by
      have := (List.getElem?_eq_some_iff.mp h).1
      rwa [List.length_set] at this
    rw [List.getElem?_set_self hl] at h
    cases h
    exact ⟨v, List.getElem?_set_self (by rw [← r.len]; exact hl), o⟩
  · rw [List.getElem?_set_ne hj] at h ⊢
    exact r.at_ j e h
theorem Rep0.wipe {H : Hp} {S : Rg} {δ : Ev} {σ : L2.St} (r : Rep0 g H S δ σ) : ∀ vs : List Nat, Rep0 g H S (wipeE δ vs) (L2.wipe σ vs)
  | [] => r
  | v :: vs => by
    have ih := Rep0.wipe r vs
    refine ⟨r.tab, r.sz, ?_, fun j e h => ?_⟩
    · show ((wipeE δ vs).set v none).length = ((L2.wipe σ vs).set v none).length
      rw [List.length_set, List.length_set, ih.len]
    · replace h : ((wipeE δ vs).set v none)[j]? = some (some e) := h
      show ∃ u, ((L2.wipe σ vs).set v none)[j]? = some (some u) ∧ _
      by_cases hj : v = j
      · subst hj
        have hl : v < (wipeE δ vs).length := by
          have := (List.getElem?_eq_some_iff.mp h).1
          rwa [List.length_set] at this
        rw [List.getElem?_set_self hl] at h
        cases h
      · rw [List.getElem?_set_ne hj] at h ⊢
        exact ih.at_ j e h

def RdE (g : G) (xg : XG) (Γ : Fe) (W : WX) (x : Ex) : TE := fun σ H Q => ∃ S δ, Rep0 g H S δ σ ∧ RF g xg H S (evE Γ x δ) (fun c d H' => W c d σ H') Q
/-- a test's end -/
def RFT (g : G) (xg : XG) (H : Hp) (S : Rg) (r : RT) (W : Value → Option Addr → Hp → Prop) (Q : Bool → Hp → Prop) : Prop :=
  match r with
  | .ok b => ∀ H' S', Fw g.TB H H' S S' → Q b H'
  | .exn e => ∀ cls dd H', Ext g.TB H H' → ExnN xg e cls dd H H' → W cls dd H'
  | .bad => False
def RdT (g : G) (xg : XG) (Γ : Fe) (W : WX) (x : Ex) : TT := fun σ H Q => ∃ S δ, Rep0 g H S δ σ ∧ RFT g xg H S (evT Γ x δ) (fun c d H' => W c d σ H') Q
/-- values at their own depths -/
def OwnN (g : G) (H : Hp) (S : Rg) : List (D × Nat) → List V → Fp → Prop
  | [], xs, A => xs = [] ∧ A = []
  | p :: l, xs, A => ∃ x ys B C, xs = x :: ys ∧ A = B ++ C ∧ Own g H S p.2 p.1 x B ∧ OwnN g H S l ys C
def RFL (g : G) (xg : XG) (H : Hp) (S : Rg) (r : RL) (W : Value → Option Addr → Hp → Prop) (Q : List V → Hp → Prop) : Prop :=
  match r with
  | .ok l => ∀ vs H' S' A, Fw g.TB H H' S S' → OwnN g H' S' l vs A → A.Nodup → (∀ a ∈ A, H a = none ∧ ¬ S' a) → Q vs H'
  | .exn e => ∀ cls dd H', Ext g.TB H H' → ExnN xg e cls dd H H' → W cls dd H'
  | .bad => False
def RdA (g : G) (xg : XG) (Γ : Fe) (W : WX) (xs : List Ex) : TA := fun σ H Q => ∃ S δ, Rep0 g H S δ σ ∧ RFL g xg H S (evL Γ xs δ) (fun c d H' => W c d σ H') Q

theorem OwnN.there {H : Hp} {S : Rg} : ∀ {l : List (D × Nat)} {vs : List V} {A : Fp}, OwnN g H S l vs A → ∀ a ∈ A, (H a).isSome = true
  | [], _, _, h => by unfold OwnN at h; rw [h.2]; intro a q; cases q
  | p :: l, _, _, h => by
    unfold OwnN at h
    obtain ⟨x, ys, B, C, rfl, rfl, h1, h2⟩ := h
    intro a q
    rcases List.mem_append.mp q with q | q
    · exact h1.there a q
    · exact OwnN.there h2 a q
theorem OwnN.frz {H : Hp} {S : Rg} : ∀ {l : List (D × Nat)} {vs : List V} {A : Fp}, OwnN g H S l vs A → OwnL g H (fun a => S a ∨ a ∈ A) 0 (l.map (·.1)) vs []
  | [], _, _, h => by unfold OwnN at h; rw [h.1]; exact OwnL.nil
  | p :: l, _, _, h => by
    unfold OwnN at h
    obtain ⟨x, ys, B, C, rfl, rfl, h1, h2⟩ := h
    obtain ⟨B', C', k1, k2⟩ := Own.weak (m := 0) (Nat.zero_le _) h1
    replace k1 := k1 (fun a => S a ∨ a ∈ B ++ C) (fun a q => .inl q) (fun a q => .inr (List.mem_append_left _ ((k2.1 a).mpr (.inr q))))
    have e := k1.zero
    subst e
    have h3 := (OwnN.frz h2).keep (S' := fun a => S a ∨ a ∈ B ++ C) (H' := H) (Kp.eq (fun a _ => rfl) (fun a q => ⟨q.imp id (List.mem_append_right _), rfl⟩) .refl)
    exact OwnL.cons (A := []) (B := []) k1 h3
theorem OwnN.at_ {H : Hp} {S : Rg} {m : Nat} : ∀ {l : List (D × Nat)} {vs : List V} {A : Fp}, (∀ p ∈ l, immB p.2 p.1 = true ∨ m ≤ p.2) → OwnN g H S l vs A →
    ∃ B C, (∀ R : Rg, (∀ a, S a → R a) → (∀ a ∈ C, R a) → OwnL g H R m (l.map (·.1)) vs B) ∧ Spl A B C
  | [], _, _, _, h => by unfold OwnN at h; refine ⟨[], [], fun R _ _ => ?_, by rw [h.2]; exact .nil⟩; rw [h.1]; exact OwnL.nil
  | p :: l, _, _, hm, h => by
    unfold OwnN at h
    obtain ⟨x, ys, A1, A2, rfl, rfl, h1, h2⟩ := h
    obtain ⟨B2, C2, k1, k2⟩ := OwnN.at_ (fun q hq => hm q (List.mem_cons_of_mem _ hq)) h2
    by_cases hle : m ≤ p.2
    · obtain ⟨B1, C1, j1, j2⟩ := Own.weak hle h1
      exact ⟨B1 ++ B2, C1 ++ C2, fun R hS hC => OwnL.cons (j1 R hS fun b hb => hC b (List.mem_append_left _ hb)) (k1 R hS fun b hb => hC b (List.mem_append_right _ hb)), j2.app k2⟩
    · have hi : immB p.2 p.1 = true := (hm p List.mem_cons_self).resolve_right hle
      refine ⟨A1 ++ B2, [] ++ C2, fun R hS hC => OwnL.cons (Own.imm (by omega) hi h1) (k1 R hS fun b hb => hC b hb), Spl.app ⟨fun a => by simp, fun q => by simpa using q⟩ k2⟩
theorem dep_le : ∀ l : List (D × Nat), ∀ p ∈ l, immB p.2 p.1 = true ∨ dep l ≤ p.2
  | [], _, h => by cases h
  | (d, n) :: r, p, h => by
    have ih := dep_le r
    unfold dep
    rcases List.mem_cons.mp h with rfl | h
    · by_cases hi : immB n d = true
      · exact .inl hi
      · rw [if_neg hi]; exact .inr (Nat.min_le_left _ _)
    · rcases ih p h with hq | hq
      · exact .inl hq
      · by_cases hi : immB n d = true
        · rw [if_pos hi]; exact .inr hq
        · rw [if_neg hi]; exact .inr (Nat.le_trans (Nat.min_le_right _ _) hq)
theorem OwnN.len {H : Hp} {S : Rg} : ∀ {l : List (D × Nat)} {vs : List V} {A : Fp}, OwnN g H S l vs A → vs.length = l.length
  | [], _, _, h => by unfold OwnN at h; rw [h.1]; rfl
  | p :: l, _, _, h => by
    unfold OwnN at h
    obtain ⟨x, ys, B, C, rfl, rfl, h1, h2⟩ := h
    rw [List.length_cons, List.length_cons, OwnN.len h2]

theorem _root_.L2.PE.imp {X : Cx} {e : Expr} {t t' : TE} (h : PE X e t) (k : ∀ σ H Q, t' σ H Q → t σ H Q) : PE X e t' := ⟨fun pins s σ H Q I q => h.run pins s σ H Q I (k σ H Q q)⟩
theorem _root_.L2.PE.pick {X : Cx} {e : Expr} {t' : TE} (k : ∀ σ H Q, t' σ H Q → ∃ t, PE X e t ∧ t σ H Q) : PE X e t' := ⟨fun pins s σ H Q I q => let ⟨_, h, z⟩ := k σ H Q q; h.run pins s σ H Q I z⟩
theorem _root_.L2.PT.imp {X : Cx} {e : Expr} {t t' : TT} (h : PT X e t) (k : ∀ σ H Q, t' σ H Q → t σ H Q) : PT X e t' := ⟨fun pins s σ H Q I q => h.run pins s σ H Q I (k σ H Q q)⟩
theorem _root_.L2.PA.imp {X : Cx} {e : List Expr} {t t' : TA} (h : PA X e t) (k : ∀ σ H Q, t' σ H Q → t σ H Q) : PA X e t' := ⟨fun po pins s σ H Q I q => h.run po pins s σ H Q I (k σ H Q q)⟩

variable {X : Cx} {W : WX} {a b c : Expr} {xa xb xc : Ex} {pos : Pos}
/-- an operand, then the rest -/
theorem RdE.bind {σ : L2.St} {H : Hp} {S : Rg} {δ : Ev} {f : D → Res} {Q Q' : VK} (rep : Rep0 g H S δ σ) (h : RF g xg H S ((evE Γ xa δ).bind f) (fun c d H' => W c d σ H') Q)
    (k : ∀ d v H1 S1, Rep0 g H1 S1 δ σ → Fw g.TB H H1 S S1 → Own g H1 S1 0 d v [] → RF g xg H1 S1 (f d) (fun c d H' => W c d σ H') Q → Q' v H1) : RdE g xg Γ W xa σ H Q' :=
  ⟨S, δ, rep, RF.bind rep.sz h fun d n v H1 S1 _ fw o q => k d v H1 S1 (rep.fw fw) fw o q⟩
theorem e_bin (hK : g.K = X.K) (o : Bop) (ha : PE X a (RdE g xg Γ W xa)) (hb : PE X b (RdE g xg Γ W xb)) : PE X (.BinOp a o.op b pos) (RdE g xg Γ W (.bin o xa xb)) := by
  refine PE.pick fun σ H Q ⟨S, δ, rep, h⟩ => ⟨_, pe_op (op_bin (xg := xg) (W := fun c d H' => W c d σ H') hK o) ha hb, ?_⟩
  unfold evE at h
  exact RdE.bind rep h fun d v H1 S1 rep1 f1 o1 h1 => RdE.bind rep1 h1 fun d2 v2 H2 S2 rep2 f2 o2 h2 => ⟨S2, d, d2, rep2.sz, o1.fw f2 rep1.sz, o2, h2⟩
theorem e_cmp (hK : g.K = X.K) (hP : g.P = X.prog ∧ g.w = X.w) (hu : X.A.units + 65 < cLine) (o : Cop) (hs : noSet b = true) (ha : PE X a (RdE g xg Γ W xa)) (hb : PE X b (RdE g xg Γ W xb)) : PE X (.Compare a [o.op] [b] pos) (RdE g xg Γ W (.cmp o xa xb)) := by
  refine PE.pick fun σ H Q ⟨S, δ, rep, h⟩ => ⟨_, pe_cmpR (op_cmp (xg := xg) (W := fun c d H' => W c d σ H') hK hP hu o) ha hb (noMark hs), ?_⟩
  unfold evE at h
  exact RdE.bind rep h fun d v H1 S1 rep1 f1 o1 h1 => RdE.bind rep1 h1 fun d2 v2 H2 S2 rep2 f2 o2 h2 => ⟨S2, d, d2, rep2.sz, o1.fw f2 rep1.sz, o2, h2⟩
theorem e_ix (hK : g.K = X.K) (hP : g.P = X.prog ∧ g.w = X.w) (hu : X.A.units + 65 < cLine) (hs : noSlice b = true) (ha : PE X a (RdE g xg Γ W xa)) (hb : PE X b (RdE g xg Γ W xb)) : PE X (.Subscript a b pos) (RdE g xg Γ W (.ix xa xb)) := by
  refine PE.pick fun σ H Q ⟨S, δ, rep, h⟩ => ⟨_, pe_ix (ix_sub (xg := xg) (W := fun c d H' => W c d σ H') hK hP hu) ha hb (plainIx hs), ?_⟩
  unfold evE at h
  exact RdE.bind rep h fun d v H1 S1 rep1 f1 o1 h1 => RdE.bind rep1 h1 fun d2 v2 H2 S2 rep2 f2 o2 h2 => ⟨S2, d, d2, rep2.sz, o1.fw f2 rep1.sz, o2, h2⟩
theorem e_con_int {i : Int} {j : Nat} : PE X (.Constant (.int i) j pos) (RdE g xg Γ W (.con (.int i))) :=
  pe_int.imp fun σ H Q ⟨S, δ, rep, h⟩ => by unfold evE at h; exact h.val rep.sz own_int
theorem e_con_bl {i : Bool} {j : Nat} : PE X (.Constant (.bool i) j pos) (RdE g xg Γ W (.con (.bl i))) :=
  pe_bl.imp fun σ H Q ⟨S, δ, rep, h⟩ => by unfold evE at h; exact h.val rep.sz own_bl
theorem e_con_str {i : Str} {j : Nat} : PE X (.Constant (.str i) j pos) (RdE g xg Γ W (.con (.str i))) :=
  pe_str.imp fun σ H Q ⟨S, δ, rep, h⟩ => by unfold evE at h; exact h.val rep.sz own_str
theorem e_con_non {j : Nat} : PE X (.Constant .none j pos) (RdE g xg Γ W (.con .non)) :=
  pe_non.imp fun σ H Q ⟨S, δ, rep, h⟩ => by unfold evE at h; exact h.val rep.sz own_non
theorem e_var {i : Nat} {x : Str} (hN : X.N[i]? = some x) (hv : Vis X.env.scope x) (hd : (x == ("__debug__" : Str)) = false) (hcd : (x == ("__classdict__" : Str)) = false) : PE X (.Name x pos) (RdE g xg Γ W (.var i)) :=
  (pe_var hN hv hd hcd).imp fun σ H Q ⟨S, δ, rep, h⟩ => by
    unfold evE at h
    split at h
    · rename_i d e
      obtain ⟨v, e1, o⟩ := rep.at_ i d e
      exact ⟨v, e1, h.val rep.sz o⟩
    · exact h.elim
theorem e_neg (ha : PE X a (RdE g xg Γ W xa)) : PE X (.UnaryOp .USub a pos) (RdE g xg Γ W (.neg xa)) :=
  (pe_un un_neg ha).imp fun σ H Q ⟨S, δ, rep, h⟩ => by
    unfold evE at h
    refine RdE.bind rep h fun d v H1 S1 rep1 f1 o1 h1 => ?_
    split at h1
    · rw [own_int_v o1]
      exact ⟨_, rfl, h1.val rep1.sz own_int⟩
    · exact h1.elim
theorem e_not (ha : PE X a (RdE g xg Γ W xa)) : PE X (.UnaryOp .Not a pos) (RdE g xg Γ W (.not xa)) :=
  (pe_not ha).imp fun σ H Q ⟨S, δ, rep, h⟩ => by
    unfold evE at h
    refine RdE.bind rep h fun d v H1 S1 rep1 f1 o1 h1 => ?_
    split at h1
    · rw [own_bl_v o1]
      exact ⟨_, rfl, h1.val rep1.sz own_bl⟩
    · exact h1.elim
theorem e_and {rest : List Expr} (ha : PE X a (RdE g xg Γ W xa)) (hb : PE X (.BoolOp .And (b :: rest) pos) (RdE g xg Γ W xb)) : PE X (.BoolOp .And (a :: b :: rest) pos) (RdE g xg Γ W (.and xa xb)) :=
  (pe_and ha hb).imp fun σ H Q ⟨S, δ, rep, h⟩ => by
    unfold evE at h
    refine RdE.bind rep h fun d v H1 S1 rep1 f1 o1 h1 => ?_
    split at h1
    · rw [own_bl_v o1]
      exact ⟨_, rfl, iteT ⟨S1, δ, rep1, h1⟩⟩
    · rw [own_bl_v o1]
      exact ⟨_, rfl, iteF (h1.val rep1.sz own_bl)⟩
    · exact h1.elim
theorem e_or {rest : List Expr} (ha : PE X a (RdE g xg Γ W xa)) (hb : PE X (.BoolOp .Or (b :: rest) pos) (RdE g xg Γ W xb)) : PE X (.BoolOp .Or (a :: b :: rest) pos) (RdE g xg Γ W (.or xa xb)) :=
  (pe_or ha hb).imp fun σ H Q ⟨S, δ, rep, h⟩ => by
    unfold evE at h
    refine RdE.bind rep h fun d v H1 S1 rep1 f1 o1 h1 => ?_
    split at h1
    · rw [own_bl_v o1]
      exact ⟨_, rfl, iteT (h1.val rep1.sz own_bl)⟩
    · rw [own_bl_v o1]
      exact ⟨_, rfl, iteF ⟨S1, δ, rep1, h1⟩⟩
    · exact h1.elim
theorem e_one {op : BoolOp} (ha : PE X a (RdE g xg Γ W xa)) : PE X (.BoolOp op [a] pos) (RdE g xg Γ W xa) := pe_one ha

theorem empty_len {l : List D} {xs : List V} (h : xs.length = l.length) : (!l.isEmpty) = !xs.isEmpty := by
  cases l <;> cases xs <;> first | rfl | (simp at h)
theorem tru_D (hK : g.K = X.K) {H : Hp} {S : Rg} {d : D} {v : V} {k : Bool} (o : Own g H S 0 d v []) (h : truD d = .ok k) : TruV X.K v H k := by
  unfold truD at h
  split at h
  · rw [own_non_v o]; cases h; rfl
  · rw [own_bl_v o]; cases h; rfl
  · rw [own_int_v o]; cases h; rfl
  · rw [own_str_v o]
    split at h
    · rename_i z; cases h; exact ⟨of_decide_eq_true z, rfl⟩
    · cases h
  · obtain ⟨a, xs, rfl, s, t, l1⟩ := own_lst_v o
    cases h
    exact .inl ⟨xs, rdL t, empty_len l1.length⟩
  · obtain ⟨a, xs, rfl, t, l1⟩ := own_tup_v o
    cases h
    exact .inr (.inl ⟨xs, by rw [← hK]; exact t, empty_len l1.length⟩)
  · cases h
theorem RFT.fw {H H1 : Hp} {S S1 : Rg} {r : RT} {W : Value → Option Addr → Hp → Prop} {Q : Bool → Hp → Prop} (f : Fw g.TB H H1 S S1) (h : RFT g xg H S r W Q) : RFT g xg H1 S1 r W Q := by
  cases r with
  | ok b => exact fun H' S' o => h H' S' (f.trans o)
  | exn e => exact fun cls dd H' q k => h cls dd H' (f.ext.trans q) (k.back fun _ z => f.ext.back z)
  | bad => exact h
theorem RFT.bind {H : Hp} {S : Rg} {r : Res} {f : D → RT} {W : Value → Option Addr → Hp → Prop} {Q : Bool → Hp → Prop} {Q' : VK} (sz : ∀ a, S a → (H a).isSome = true) (h : RFT g xg H S (r.bindT f) W Q)
    (k : ∀ d n v H1 S1, r = .ok d n → Fw g.TB H H1 S S1 → Own g H1 S1 0 d v [] → RFT g xg H1 S1 (f d) W Q → Q' v H1) : RF g xg H S r W Q' := by
  cases r with
  | ok d n =>
    intro v H' S' T o
    obtain ⟨S2, f2, o2⟩ := o.frz sz
    exact k d n v H' S2 rfl f2 o2 (RFT.fw f2 h)
  | exn e => exact h
  | bad => exact h
theorem t_leaf (hK : g.K = X.K) (hl : isLeaf a = true) (ha : PE X a (RdE g xg Γ W xa)) : PT X a (RdT g xg Γ W xa) :=
  (pt_truth ha (isTrue_leaf hl)).imp fun σ H Q ⟨S, δ, rep, h⟩ => by
    refine ⟨S, δ, rep, RFT.bind rep.sz h fun d n v H1 S1 _ f1 o1 h1 => ?_⟩
    cases e : truD d with
    | ok k =>
      rw [e] at h1
      exact ⟨k, tru_D hK o1 e, h1 H1 S1 (Fw.refl f1.sz)⟩
    | exn x =>
      exfalso
      cases d <;> simp [truD] at e
      split at e <;> cases e
    | bad => rw [e] at h1; exact h1.elim
end
end PL
namespace PL
open PySem L2 PyProof.Rows
section
variable {g : G} {xg : XG} {Γ : Fe} {X : Cx} {W : WX} {a b c : Expr} {xa xb xc : Ex} {pos : Pos}

theorem a_nil : PA X [] (RdA g xg Γ W []) := pa_nil.imp fun σ H Q ⟨S, δ, rep, h⟩ => by
  unfold evL at h
  exact h [] H S [] (Fw.refl rep.sz) (by unfold OwnN; exact ⟨rfl, rfl⟩) List.nodup_nil fun _ q => nomatch q
theorem a_cons {es : List Expr} {xs : List Ex} (hs : noStar a = true) (ha : PE X a (RdE g xg Γ W xa)) (hr : PA X es (RdA g xg Γ W xs)) : PA X (a :: es) (RdA g xg Γ W (xa :: xs)) :=
  (pa_cons ha hr (star_cons hs)).imp fun σ H Q ⟨S, δ, rep, h⟩ => by
    refine ⟨S, δ, rep, ?_⟩
    unfold evL at h
    cases e1 : evE Γ xa δ with
    | ok d n =>
      rw [e1] at h
      intro v H1 S1 T o
      refine ⟨S1, δ, rep.fw o.fw, ?_⟩
      cases e2 : evL Γ xs δ with
      | ok l =>
        rw [e2] at h
        intro vs H2 S2 A f ow nd fr
        refine h (v :: vs) H2 S2 (T ++ A) (o.fw.trans f) ?_ ?_ ?_
        · unfold OwnN
          exact ⟨v, vs, T, A, rfl, rfl, o.own.fw f o.sz, ow⟩
        · refine List.nodup_append.mpr ⟨o.nd, nd, fun x hx y hy e => ?_⟩
          have h1 := o.own.there x hx
          rw [e, (fr y hy).1] at h1
          cases h1
        · intro x hx
          rcases List.mem_append.mp hx with hx | hx
          · refine ⟨(o.fr x hx).1, fun q => ?_⟩
            rcases f.new x q with q | q
            · exact (o.fr x hx).2 q
            · have h1 := o.own.there x hx
              rw [q] at h1
              cases h1
          · exact ⟨o.ext.back (fr x hx).1, (fr x hx).2⟩
      | exn x =>
        rw [e2] at h
        exact fun cls dd H' q k => h cls dd H' (o.ext.trans q) (k.back fun _ z => o.ext.back z)
      | bad => rw [e2] at h; exact h.elim
    | exn x => rw [e1] at h; exact h
    | bad => rw [e1] at h; exact h.elim
/-- the arguments, all frozen -/
theorem RFL.frz {H : Hp} {S : Rg} {r : RL} {f : List D → Res} {W : Value → Option Addr → Hp → Prop} {Q : VK} {Q' : List V → Hp → Prop} (sz : ∀ a, S a → (H a).isSome = true) (h : RF g xg H S (r.bind f) W Q)
    (k : ∀ ds vs H1 S1, Fw g.TB H H1 S S1 → OwnL g H1 S1 0 ds vs [] → RF g xg H1 S1 (f ds) W Q → Q' vs H1) : RFL g xg H S r W Q' := by
  cases r with
  | ok l =>
    intro vs H' S' A f1 ow nd fr
    have f2 : Fw g.TB H H' S (fun a => S' a ∨ a ∈ A) := ⟨f1.ext, fun a q => .inl (f1.sub a q), fun a q => q.elim (f1.new a) fun q => .inr (fr a q).1, fun a q => q.elim (f1.sz a) fun q => ?_⟩
    · exact k _ vs H' _ f2 ow.frz (RF.fw f2 h)
    · have : ∀ {l : List (D × Nat)} {vs : List V} {A : Fp}, OwnN g H' S' l vs A → ∀ a ∈ A, (H' a).isSome = true := by
        intro l
        induction l with
        | nil => intro vs A h; unfold OwnN at h; rw [h.2]; intro a q; cases q
        | cons p l ih =>
          intro vs A h
          unfold OwnN at h
          obtain ⟨x, ys, B, C, rfl, rfl, h1, h2⟩ := h
          intro a q
          rcases List.mem_append.mp q with q | q
          · exact h1.there a q
          · exact ih h2 a q
      exact this ow a q
  | exn e => exact h
  | bad => exact h

section
variable {H H1 : Hp} {S S1 : Rg} {l : List (D × Nat)} {vs : List V} {A : Fp} {p : Addr}
/-- a new object over values that were just made -/
theorem lay_core {o : HO} (f : Fw g.TB H H1 S S1) (ow : OwnN g H1 S1 l vs A) (nd : A.Nodup) (fr : ∀ a ∈ A, H a = none ∧ ¬ S1 a) (hp : H1 p = none) :
    ∃ (S2 : Rg) (B : Fp), (∀ n d T, (∀ L : OwnL g (upd H1 p o) S2 (dep l) (l.map (·.1)) vs B, Own g (upd H1 p o) S2 n d (.ref p) T) → (T = B ∨ T = p :: B) → OkV g H (upd H1 p o) S S2 n d (.ref p) T) := by
  obtain ⟨B, C, k1, k2⟩ := OwnN.at_ (m := dep l) (dep_le l) ow
  have k3 := k1 (fun a => S1 a ∨ a ∈ C) (fun a q => .inl q) (fun a q => .inr q)
  have hB : ∀ a ∈ B, a ∈ A := fun a q => (k2.1 a).mpr (.inl q)
  have hC : ∀ a ∈ C, a ∈ A := fun a q => (k2.1 a).mpr (.inr q)
  have szC : ∀ a, (S1 a ∨ a ∈ C) → (H1 a).isSome = true := fun a q => q.elim (f.sz a) fun q => ow.there a (hC a q)
  have k4 : OwnL g (upd H1 p o) (fun a => S1 a ∨ a ∈ C) (dep l) (l.map (·.1)) vs B := k3.laid szC hp
  obtain ⟨n1, n2, n3⟩ := List.nodup_append.mp (k2.2 nd)
  have pB : p ∉ B := fun q => by
    have := k3.there p q
    rw [hp] at this; cases this
  have inB : ∀ a ∈ B, H a = none ∧ ¬ (S1 a ∨ a ∈ C) := fun a q => ⟨(fr a (hB a q)).1, fun z => z.elim (fr a (hB a q)).2 fun z => n3 a q a z rfl⟩
  refine ⟨fun a => S1 a ∨ a ∈ C, B, fun n d T own hT => ⟨f.ext.trans (Ext.new hp), fun a q => .inl (f.sub a q), fun a q => ?_, fun a q => ?_, own k4, ?_, fun a q => ?_⟩⟩
  · rcases q with q | q
    · exact f.new a q
    · exact .inr (fr a (hC a q)).1
  · by_cases e : a = p
    · rw [e, upd_same]; rfl
    · rw [upd_ne e]; exact szC a q
  · rcases hT with rfl | rfl
    · exact n1
    · exact List.nodup_cons.mpr ⟨pB, n1⟩
  · rcases hT with rfl | rfl
    · exact inB a q
    · rcases List.mem_cons.mp q with rfl | q
      · refine ⟨f.ext.back hp, fun z => ?_⟩
        have := szC a z
        rw [hp] at this; cases this
      · exact inB a q
theorem lay_lst (f : Fw g.TB H H1 S S1) (ow : OwnN g H1 S1 l vs A) (nd : A.Nodup) (fr : ∀ a ∈ A, H a = none ∧ ¬ S1 a) (hp : H1 p = none) :
    ∃ S2 T, OkV g H (upd H1 p (.lst vs)) S S2 (dep l + 1) (.lst (l.map (·.1))) (.ref p) T := by
  obtain ⟨S2, B, k⟩ := lay_core (o := .lst vs) f ow nd fr hp
  exact ⟨S2, _, k _ _ (p :: B) (fun L => own_lst upd_same L) (.inr rfl)⟩
theorem lay_tup {ob : Obj} (hob : ob.dict = none) (f : Fw g.TB H H1 S S1) (ow : OwnN g H1 S1 l vs A) (nd : A.Nodup) (fr : ∀ a ∈ A, H a = none ∧ ¬ S1 a) (hp : H1 p = none) :
    ∃ S2 T, OkV g H (upd H1 p (.frz ob (.tup vs))) S S2 (dep l) (.tup (l.map (·.1))) (.ref p) T := by
  obtain ⟨S2, B, k⟩ := lay_core (o := .frz ob (.tup vs)) f ow nd fr hp
  exact ⟨S2, _, k _ _ B (fun L => own_tup (sqN_new hob) L) (.inl rfl)⟩
end
theorem e_lst {es : List Expr} {xs : List Ex} (h : PA X es (RdA g xg Γ W xs)) : PE X (.List es pos) (RdE g xg Γ W (.lst xs)) :=
  (pe_lst h).imp fun σ H Q ⟨S, δ, rep, h⟩ => by
    refine ⟨S, δ, rep, ?_⟩
    unfold evE at h
    cases e2 : evL Γ xs δ with
    | ok l =>
      rw [e2] at h
      intro vs H1 S1 A f ow nd fr
      simp only [RL.bindN_ok, newL] at h
      split at h
      · rename_i z
        refine ⟨by rw [ow.len]; exact of_decide_eq_true z, fun p hp => ?_⟩
        obtain ⟨S2, T, o⟩ := lay_lst f ow nd fr hp
        exact h _ _ _ _ o
      · exact h.elim
    | exn x => rw [e2] at h; exact h
    | bad => rw [e2] at h; exact h.elim
def tTupN (t : TA) : TE := fun σ H Q => t σ H fun xs H1 => xs.length ≤ sizeLine ∧ ∀ p o, H1 p = none → o.dict = none → Q (.ref p) (upd H1 p (.frz o (.tup xs)))
theorem pe_tupN {t : TA} {es : List Expr} {k : Nat} (h : PA X es t) : PE X (.Tuple es k pos) (tTupN t) :=
  ⟨fun pins s σ H Q I hq => wpAny_Tuple_spliced (thn (h.run pos pins s σ H _ I hq) fun us s1 ⟨xs, H1, I1, r, z, q⟩ => by
    refine ⟨by rw [← r.length]; exact z, ?_⟩
    obtain ⟨I2, fr⟩ := Inv.tup_new I1 (h' := s1.heap) (fun _ _ e => e) z r
    exact ⟨.ref s1.heap.objs.size, _, I2, rfl, q _ _ fr rfl⟩)⟩
theorem e_tup {es : List Expr} {xs : List Ex} {k : Nat} (h : PA X es (RdA g xg Γ W xs)) : PE X (.Tuple es k pos) (RdE g xg Γ W (.tup xs)) :=
  (pe_tupN h).imp fun σ H Q ⟨S, δ, rep, h⟩ => by
    refine ⟨S, δ, rep, ?_⟩
    unfold evE at h
    cases e2 : evL Γ xs δ with
    | ok l =>
      rw [e2] at h
      intro vs H1 S1 A f ow nd fr
      simp only [RL.bindN_ok, newT] at h
      split at h
      · rename_i z
        refine ⟨by rw [ow.len]; exact of_decide_eq_true z, fun p ob hp hob => ?_⟩
        obtain ⟨S2, T, o⟩ := lay_tup hob f ow nd fr hp
        exact h _ _ _ _ o
      · exact h.elim
    | exn x => rw [e2] at h; exact h
    | bad => rw [e2] at h; exact h.elim

theorem takes0N {X : Cx} : L2N.Takes X (fun _ _ _ _ => False) := fun _ _ x => by
  obtain ⟨_, _, _, _, _, _, _, _, _, _, _, _, _, _, _, _, z⟩ := x
  exact z.elim
/-- a def's promise: what the function F says of the frozen arguments -/
def pSp (g : G) (xg : XG) (F : List D → Res) : Sp := fun vs H Q E => ∃ S ds, LamX.Tabs g.TB H ∧ (∀ a, S a → (H a).isSome = true) ∧ OwnL g H S 0 ds vs [] ∧ RF g xg H S (F ds) E Q
/-- the name x stands for a def that keeps its promise F -/
structure Callee (g : G) (xg : XG) (X : Cx) (x : Str) (F : List D → Res) : Prop where
  is : ∃ f fd ps k, FnOk X.prog X.w X.K X.mg X.base (L2N.CX X.prog X.w) k f fd ps (pSp g xg F) ∧ Room k X.A ∧ X.mg x = some (.ref f) ∧ PySem.W.keepIn X.K (.ref f) = true ∧ Binds X.K fd ps []
theorem evL_rf {σ : L2.St} {H : Hp} {S : Rg} {δ : Ev} {xs : List Ex} {F : List D → Res} {Q : VK} {Q' : List V → Hp → Prop} (rep : Rep0 g H S δ σ) (h : RF g xg H S ((evL Γ xs δ).bind F) (fun c d H' => W c d σ H') Q)
    (k : ∀ ds vs H1 S1, Rep0 g H1 S1 δ σ → Fw g.TB H H1 S S1 → OwnL g H1 S1 0 ds vs [] → RF g xg H1 S1 (F ds) (fun c d H' => W c d σ H') Q → Q' vs H1) : RdA g xg Γ W xs σ H Q' :=
  ⟨S, δ, rep, RFL.frz rep.sz h fun ds vs H1 S1 f1 ow h1 => k ds vs H1 S1 (rep.fw f1) f1 ow h1⟩
theorem e_call {x : Str} {p : Pos} {es : List Expr} {xs : List Ex} {f : Nat} (tk : L2N.Takes X W) (C : Callee g xg X x (Γ.fn f)) (hg : Gl X x) (hdb : (x == ("__debug__" : Str)) = false) (hs : es.all noStar = true) (hn : es.isEmpty = xs.isEmpty)
    (ha : PA X es (RdA g xg Γ W xs)) : PE X (.Call (.Name x p) es [] pos) (RdE g xg Γ W (.call f xs)) := by
  obtain ⟨fa, fd, ps, k, F, hr, hm, hk, hb⟩ := C.is
  refine ⟨fun pins s σ H Q I ⟨S, δ, rep, h⟩ => ?_⟩
  unfold evE at h
  refine wpAny_Call_Name_kw (ld_glob I hg hm ?_ hdb)
  cases es with
  | nil =>
    cases xs with
    | cons y ys => cases hn
    | nil =>
      unfold evL at h
      exact PySem.W.callWith_K0 I.kIn hk (run_fnS (E := WE W) (us := []) (vs := []) F hr hb (L2N.passAt tk σ) I .nil ⟨S, [], rep.tab.1, rep.sz, OwnL.nil, h⟩)
  | cons e es =>
    simp only [List.all_cons, Bool.and_eq_true] at hs
    have hA : RdA g xg Γ W xs σ H fun vs H1 => pSp g xg (Γ.fn f) vs H1 Q (WE W σ) := evL_rf rep h fun ds vs H1 S1 rep1 f1 ow h1 => ⟨S1, ds, rep1.tab.1, rep1.sz, ow, h1⟩
    refine PySem.W.callWith_K (h₀ := X.base) I.ok.mod.kin hk (thn (ha.run pos pins s σ H _ I hA) fun us s1 ⟨vs, H1, I1, r, q⟩ => ⟨I1.kIn, ?_⟩) (star_cons hs.1) (plain_any hs.2)
    exact run_fnS (E := WE W) F hr hb (L2N.passAt tk σ) I1 r q

/-- the class c has the method m, a def that keeps its promise F -/
structure MCallee (g : G) (xg : XG) (X : Cx) (c : Nat) (m : Str) (F : List D → Res) : Prop where
  is : ∃ f fd ps k, FnOk X.prog X.w X.K X.mg X.base (L2N.CX X.prog X.w) k f fd ps (pSp g xg F) ∧ Room k X.A ∧ Cls X.K (g.CA c) ∧ Meth X.K (g.CA c) m f ∧ Binds X.K fd ps []
/-- the heap grows, but at x -/
structure ExtX (T : List (Addr × Str)) (x : Addr) (H H' : Hp) : Prop where
  st : ∀ a o, a ≠ x → H a = some o → nTb o → H' a = some o
  dom : ∀ a, (H a).isSome = true → (H' a).isSome = true
  tab : LamX.Tabs T H → LamX.Tabs T H'
/-- the promise of an __init__: the new instance at x, the rest as a def's -/
def iSp (g : G) (xg : XG) (c : Nat) (F : List D → Res) : Sp := fun vs H Q E => ∃ S ds x dx ws, LamX.Tabs g.TB H ∧ vs = .ref x :: ws ∧ (∀ a, S a → (H a).isSome = true) ∧ H x = some (.ins (g.CA c) dx []) ∧ ¬ S x ∧ OwnL g H S 0 ds ws [] ∧
  match F ds with
  | .ok d n => ∀ H' S' T, ExtX g.TB x H H' → (∀ a, S a → S' a) → (∀ a, S' a → S a ∨ H a = none) → (∀ a, S' a → (H' a).isSome = true) → Own g H' S' n d (.ref x) T → T.Nodup → (∀ a ∈ T, (H a = none ∨ a = x) ∧ ¬ S' a) → Q .non H'
  | .exn e => ∀ cls dd H', ExtX g.TB x H H' → ExnN xg e cls dd H H' → E cls dd H'
  | .bad => False
structure KCallee (g : G) (xg : XG) (X : Cx) (x : Str) (c : Nat) (F : List D → Res) : Prop where
  is : ∃ f fd ps k, FnOk X.prog X.w X.K X.mg X.base (L2N.CX X.prog X.w) k f fd ps (iSp g xg c F) ∧ Room (k + 1) X.A ∧ X.mg x = some (.ref (g.CA c)) ∧ Mk X.K (g.CA c) f ∧ Binds X.K fd ps []
end
end PL
namespace PL
open PySem L2 PyProof.Rows
section
variable {g : G} {xg : XG} {Γ : Fe} {X : Cx} {W : WX} {a b c : Expr} {xa xb xc : Ex} {pos : Pos}

def Bi.val : Bi → Value
  | .len => .builtin "len" | .abs => .builtin "abs" | .sum => .builtin "sum" | .max1 => .builtin "max" | .min1 => .builtin "min" | .max2 => .builtin "max" | .min2 => .builtin "min"
  | .list => .type "list" | .tuple => .type "tuple" | .str => .type "str" | .int => .type "int" | .all => .builtin "all" | .any => .builtin "any" | .sorted => .builtin "sorted" | .repr => .builtin "repr" | .reprL => .builtin "repr" | .bool => .type "bool"
def rBi (g : G) (xg : XG) (W : Value → Option Addr → Hp → Prop) (b : Bi) : List V → Hp → VK → Prop := fun xs H Q => ∃ S ds, (∀ a, S a → (H a).isSome = true) ∧ OwnL g H S 0 ds xs [] ∧ RF g xg H S (biD b ds) W Q
theorem CallR.pick {f : Value} {r' : List V → Hp → VK → Prop} (k : ∀ xs H Q, r' xs H Q → ∃ r, CallR X f r ∧ r xs H Q) : CallR X f r' :=
  fun pins s σ H xs us Q I rx q => let ⟨_, h, z⟩ := k xs H Q q; h pins s σ H xs us Q I rx z
theorem own1 {H : Hp} {S : Rg} {d : D} {xs : List V} (o : OwnL g H S 0 [d] xs []) : ∃ v, xs = [v] ∧ Own g H S 0 d v [] := by
  unfold OwnL at o
  obtain ⟨x, ys, B, C, rfl, e, h1, h2⟩ := o
  have e1 := h1.zero
  subst e1
  unfold OwnL at h2
  rw [h2.1]
  exact ⟨x, rfl, h1⟩
theorem own2 {H : Hp} {S : Rg} {d e : D} {xs : List V} (o : OwnL g H S 0 [d, e] xs []) : ∃ v w, xs = [v, w] ∧ Own g H S 0 d v [] ∧ Own g H S 0 e w [] := by
  unfold OwnL at o
  obtain ⟨x, ys, B, C, rfl, e, h1, h2⟩ := o
  have e1 := h1.zero
  have e2 := h2.zero
  subst e1
  subst e2
  obtain ⟨w, rfl, h3⟩ := own1 h2
  exact ⟨x, w, rfl, h1, h3⟩
theorem ints_v {H : Hp} {S : Rg} : ∀ {l : List D} {ns : List Int} {xs : List V} {A : Fp} {n : Nat}, unI l = some ns → OwnL g H S n l xs A → xs = ns.map V.int
  | [], ns, _, _, _, h, o => by
    cases h
    unfold OwnL at o
    rw [o.1]
    rfl
  | d :: l, ns, _, _, _, h, o => by
    unfold OwnL at o
    obtain ⟨x, ys, B, C, rfl, rfl, h1, h2⟩ := o
    cases d <;> simp [unI] at h
    obtain ⟨ms, e1, rfl⟩ := h
    rw [own_int_v h1, ints_v e1 h2]
    rfl
theorem bls_v {H : Hp} {S : Rg} : ∀ {l : List D} {ns : List Bool} {xs : List V} {A : Fp} {n : Nat}, unB l = some ns → OwnL g H S n l xs A → xs = ns.map V.bl
  | [], ns, _, _, _, h, o => by
    cases h
    unfold OwnL at o
    rw [o.1]
    rfl
  | d :: l, ns, _, _, _, h, o => by
    unfold OwnL at o
    obtain ⟨x, ys, B, C, rfl, rfl, h1, h2⟩ := o
    cases d <;> simp [unB] at h
    obtain ⟨ms, e1, rfl⟩ := h
    rw [own_bl_v h1, bls_v e1 h2]
    rfl
theorem fold_max : ∀ (ns : List Int) (n : Int), ns.foldl max n ∈ n :: ns ∧ ∀ y ∈ n :: ns, y ≤ ns.foldl max n
  | [], n => ⟨List.mem_cons_self, fun y hy => by rcases List.mem_cons.mp hy with rfl | hy <;> first | exact Int.le_refl _ | cases hy⟩
  | k :: ns, n => by
    obtain ⟨h1, h2⟩ := fold_max ns (max n k)
    rw [List.foldl_cons]
    refine ⟨?_, fun y hy => ?_⟩
    · rcases List.mem_cons.mp h1 with h | h
      · rw [h]
        rcases Int.le_total n k with q | q
        · rw [Int.max_eq_right q]; simp
        · rw [Int.max_eq_left q]; simp
      · simp [h]
    · have h3 := h2 (max n k) List.mem_cons_self
      rcases List.mem_cons.mp hy with rfl | hy
      · exact Int.le_trans (Int.le_max_left _ _) h3
      · rcases List.mem_cons.mp hy with rfl | hy
        · exact Int.le_trans (Int.le_max_right _ _) h3
        · exact h2 y (List.mem_cons_of_mem _ hy)
theorem fold_min : ∀ (ns : List Int) (n : Int), ns.foldl min n ∈ n :: ns ∧ ∀ y ∈ n :: ns, ns.foldl min n ≤ y
  | [], n => ⟨List.mem_cons_self, fun y hy => by rcases List.mem_cons.mp hy with rfl | hy <;> first | exact Int.le_refl _ | cases hy⟩
  | k :: ns, n => by
    obtain ⟨h1, h2⟩ := fold_min ns (min n k)
    rw [List.foldl_cons]
    refine ⟨?_, fun y hy => ?_⟩
    · rcases List.mem_cons.mp h1 with h | h
      · rw [h]
        rcases Int.le_total n k with q | q
        · rw [Int.min_eq_left q]; simp
        · rw [Int.min_eq_right q]; simp
      · simp [h]
    · have h3 := h2 (min n k) List.mem_cons_self
      rcases List.mem_cons.mp hy with rfl | hy
      · exact Int.le_trans h3 (Int.min_le_left _ _)
      · rcases List.mem_cons.mp hy with rfl | hy
        · exact Int.le_trans h3 (Int.min_le_right _ _)
        · exact h2 y (List.mem_cons_of_mem _ hy)
theorem top_of {n m : Int} {ns : List Int} (hm : m ∈ n :: ns) (hle : ∀ y, y ∈ n :: ns → y ≤ m) : m = ns.foldl max n := by
  obtain ⟨h1, h2⟩ := fold_max ns n
  exact Int.le_antisymm (h2 m hm) (hle _ h1)
theorem bot_of {n m : Int} {ns : List Int} (hm : m ∈ n :: ns) (hle : ∀ y, y ∈ n :: ns → m ≤ y) : m = ns.foldl min n := by
  obtain ⟨h1, h2⟩ := fold_min ns n
  exact Int.le_antisymm (hle _ h1) (h2 m hm)
/-- tuple(x): of a list a new one without a dict -/
theorem call_tuple_ofN : CallR X (.type "tuple") (fun xs H Q => ∃ p ys, xs = [.ref p] ∧ ((SqL X.K H p ys ∧ ∀ l o, H l = none → o.dict = none → Q (.ref l) (upd H l (.frz o (.tup ys)))) ∨ (SqT X.K H p ys ∧ Q (.ref p) H))) := fun pins s σ H xs us Q I r h => by
  obtain ⟨p, ys, rfl, h⟩ := h
  obtain ⟨u, rfl, rx⟩ := r.one
  cases rx
  rcases h with ⟨hq, q⟩ | ⟨hq, q⟩
  · obtain ⟨its, rv, pl, hz⟩ := I.list hq
    have el := rv.length
    refine call_tuple_list pl.isList (fun h' kp => ?_) (by rw [List.size_toArray]; omega)
    obtain ⟨I2, fr⟩ := Inv.tup_new I kp hz rv
    exact ⟨.ref h'.objs.size, _, I2, rfl, q _ _ fr rfl⟩
  · obtain ⟨its, rv, pl, hz⟩ := I.tuple hq
    exact call_tuple_same pl ⟨.ref p, H, I, rfl, q⟩
/-- sum of a tuple of ints -/
theorem cr_sumT (hc : X.calm = true) : CallR X (.builtin "sum") (fun vs H Q => ∃ (a : Addr) (ns : List Int), vs = [V.ref a] ∧ SqT X.K H a (ns.map V.int) ∧ Q (.int ns.sum) H) := by
  rintro pins s σ H vs us Q I r ⟨a, ns, rfl, hs, q⟩
  obtain ⟨ts, rv, ht, _⟩ := I.tuple hs
  rw [Vals.ref1 r]
  obtain ⟨xs, ex⟩ := rv.ints.allInts.items
  have hn : numsOf (intItems xs).toList = ns := ex ▸ rv.ints.numsOf
  rw [nums_intItems] at hn
  have ht2 : s.heap.IsTuple a (intItems xs) := ex ▸ ht
  refine PySem.W.ktm_sumG (I.ok.hd hc) ht2 fun h' tk t' hk => ?_
  rw [preSum_eq, List.take_of_length_le (by simp), hn]
  exact ⟨.int _, H, I.kept hk, ⟨_, rfl⟩, q⟩
theorem call_repr_non : CallR X (.builtin "repr") (fun xs H Q => xs = [.non] ∧ Q (.str "None") H) := by
  intro pins s σ H xs us Q I r h
  obtain ⟨rfl, q⟩ := h
  obtain ⟨u, rfl, ru⟩ := r.one
  cases ru
  exact PySem.P.repr_of_none ⟨.str "None", H, I.tok _, ⟨_, rfl⟩, q⟩
theorem call_repr_st : CallR X (.builtin "repr") (fun xs H Q => ∃ x : Str, xs = [.str x] ∧ (reprText x).length ≤ sizeLine ∧ Q (.str (reprText x)) H) := by
  intro pins s σ H xs us Q I r h
  obtain ⟨x, rfl, l, q⟩ := h
  obtain ⟨u, rfl, ru⟩ := r.one
  obtain ⟨t, rfl⟩ := ru
  refine PySem.P.repr_of_str ?_ l
  exact ⟨.str (reprText x), H, I.tok _, ⟨_, rfl⟩, q⟩
theorem call_repr_bl : CallR X (.builtin "repr") (fun xs H Q => ∃ b : Bool, xs = [.bl b] ∧ Q (.str (if b then "True" else "False")) H) := by
  intro pins s σ H xs us Q I r h
  obtain ⟨b, rfl, q⟩ := h
  obtain ⟨u, rfl, ru⟩ := r.one
  cases ru
  exact PySem.P.repr_of_bool ⟨.str (if b then "True" else "False"), H, I.tok _, ⟨_, rfl⟩, q⟩
/-- the least of a list of pairs: the item itself -/
theorem cr_minP (hc : X.calm = true) (hu : X.A.units + 65 < cLine) : CallR X (.builtin "min") (fun vs H Q => ∃ (a : Addr) (xs : List V) (p : Int × Int) (ps : List (Int × Int)), vs = [V.ref a] ∧ SqL X.K H a xs ∧ DpAll X.K H xs ((p :: ps).map PySem.W.Datum.toD) ∧ ∀ (i : Nat) (x : V), xs[i]? = some x → (p :: ps)[i]? = some (minPr p ps) → Q x H) := by
  rintro pins s σ H vs us Q I r ⟨a, xs, p, ps, rfl, hs, hd, q⟩
  obtain ⟨its, rv, hl, _⟩ := I.list hs
  rw [Vals.ref1 r]
  obtain ⟨as, rs⟩ := Dp.readsAll I _ _ _ hd rv
  have HA : PySem.W.HoldAll s.heap its.toArray.toList (p :: ps) := ⟨as, by simpa using rs⟩
  refine PySem.W.min_list_datum (x := p) (xs := ps) (I.ok.hd hc) hl.isList HA ?_ fun i v h' tk hi hv hk => ?_
  · show X.A.units + 1 + 1 < cLine
    omega
  · have hi' : its[i]? = some v := by simpa using hi
    have hxl := rv.length
    have hil : i < its.length := (List.getElem?_eq_some_iff.mp hi').1
    obtain ⟨x, hx⟩ : ∃ x, xs[i]? = some x := ⟨_, List.getElem?_eq_getElem (by omega)⟩
    obtain ⟨u, hu1, hu2⟩ := rv.get hx
    rw [hi'] at hu1
    cases hu1
    obtain ⟨z, hz1, hz2⟩ := PySem.W.HoldAll.at HA (i := i) (v := v) (by simpa using hi')
    refine ⟨x, H, I.kept hk, hu2, q i x hx ?_⟩
    obtain ⟨a1, r1⟩ := hv
    obtain ⟨a2, r2⟩ := hz2
    have e := PySem.SeqAt.readOf_plain (PySem.W.Datum.plain _) r1
    have e2 := PySem.SeqAt.readOf_plain (PySem.W.Datum.plain _) (Reads.keeps hk r2)
    have e3 : PySem.W.Datum.toD (PySem.W.minOf p ps) = PySem.W.Datum.toD z := e.symm.trans e2
    have e4 : PySem.W.minOf p ps = z := by
      have h1 := PySem.W.Datum.eqv (PySem.W.minOf p ps) z
      rw [e3, PySem.W.Datum.eqv z z] at h1
      simpa using h1.symm
    have e5 : minPr p ps = z := e4
    rw [e5]
    exact hz1
theorem pairs_P : ∀ {l : List D} {ps : List (Int × Int)}, unP l = some ps → l = ps.map pairD ∧ toPL l = ps.map PySem.W.Datum.toD ∧ shpL 1 l = true
  | [], ps, h => by
    cases h
    exact ⟨rfl, rfl, rfl⟩
  | d :: l, ps, h => by
    unfold unP at h
    split at h
    · rename_i a b
      cases e : unP l with
      | none => rw [e] at h; cases h
      | some qs =>
        rw [e] at h
        cases h
        obtain ⟨h1, h2, h3⟩ := pairs_P e
        refine ⟨by rw [h1]; rfl, ?_, ?_⟩
        · show toP _ :: toPL l = _
          rw [h2]
          rfl
        · simp [shpL, shp, h3]
    · cases h
/-- a container's text -/
theorem call_reprL (hg : X.A.guards = some []) (hu : X.A.units + 65 < cLine) : CallR X (.builtin "repr") (fun xs H Q => ∃ d a, xs = [.ref a] ∧ Dp X.K H (.ref a) d ∧ d.showable = true ∧ d.hasDict = false ∧ d.depth ≤ 62 ∧ d.shown.length ≤ sizeLine ∧ Q (.str d.shown) H) := by
  rintro pins s σ H xs us Q I r ⟨d, a, rfl, hd, h1, h2, h3, h4, q⟩
  obtain ⟨u, rfl, ru⟩ := r.one
  obtain ⟨as, rd⟩ := Dp.reads I d _ _ hd ru
  cases ru
  exact repr_of_reads' rd h1 (PyData.noDict_hsm h2) hg (by omega) (fun _ _ e => e) (fun h' u tk hk => ⟨.str _, H, I.kept hk, ⟨_, rfl⟩, q⟩) h4
mutual
theorem toP_dict : ∀ d : D, (toP d).hasDict = false
  | .non => rfl
  | .bl _ => rfl
  | .int _ => rfl
  | .str _ => rfl
  | .tup l => by unfold toP PyData.hasDict; exact toPL_dict l
  | .lst l => by unfold toP PyData.hasDict; exact toPL_dict l
  | .dct _ _ => rfl
  | .obj _ _ _ => rfl
  | .exc _ _ => rfl
theorem toPL_dict : ∀ l : List D, PyData.hasDictAll (toPL l) = false
  | [] => rfl
  | d :: l => by unfold toPL PyData.hasDictAll; rw [toP_dict d, toPL_dict l]; rfl
end
theorem shw_ok {H : Hp} {S : Rg} {d : D} {x : Str} {v : V} (e : shwD d = some x) (o1 : Own g H S 0 d v []) : shp 60 d = true ∧ (toP d).showable = true ∧ (toP d).shown.length ≤ szLine ∧ (toP d).shown = x ∧ ∃ a, v = .ref a := by
  unfold shwD at e
  split at e
  · split at e
    · rename_i z
      simp only [Bool.and_eq_true, decide_eq_true_eq] at z
      obtain ⟨a, xs, rfl, _⟩ := own_lst_v o1
      exact ⟨z.1.1, z.1.2, z.2, Option.some.inj e, a, rfl⟩
    · cases e
  · split at e
    · rename_i z
      simp only [Bool.and_eq_true, decide_eq_true_eq] at z
      obtain ⟨a, xs, rfl, _⟩ := own_tup_v o1
      exact ⟨z.1.1, z.1.2, z.2, Option.some.inj e, a, rfl⟩
    · cases e
  · cases e
theorem kas_as : ∀ {kk : List (List Key)} {as : List Addr} {xs : List V}, kk.length = as.length → xs.length = as.length → ((kk.zip (as.zip xs)).map fun p => p.2.1) = as
  | [], [], _, _, _ => rfl
  | [], _ :: _, _, h, _ => by simp at h
  | _ :: _, [], _, h, _ => by simp at h
  | _ :: _, _ :: _, [], _, h => by simp at h
  | k :: kk, a :: as, x :: xs, h1, h2 => by
    rw [List.zip_cons_cons, List.zip_cons_cons, List.map_cons, kas_as (by simpa using h1) (by simpa using h2)]
theorem insI_perm (x : Int) : ∀ l : List Int, (insI x l).Perm (x :: l)
  | [] => List.Perm.refl _
  | y :: l => by
    unfold insI
    split
    · exact List.Perm.refl _
    · exact ((insI_perm x l).cons y).trans (List.Perm.swap x y l)
theorem srtI_perm : ∀ l : List Int, (srtI l).Perm l
  | [] => List.Perm.refl _
  | x :: l => (insI_perm x (srtI l)).trans ((srtI_perm l).cons x)
theorem insI_srt (x : Int) : ∀ l : List Int, l.Pairwise (· ≤ ·) → (insI x l).Pairwise (· ≤ ·)
  | [], _ => List.pairwise_singleton _ _
  | y :: l, h => by
    obtain ⟨h1, h2⟩ := List.pairwise_cons.mp h
    unfold insI
    split
    · rename_i q
      refine List.pairwise_cons.mpr ⟨fun z hz => ?_, h⟩
      rcases List.mem_cons.mp hz with rfl | hz
      · exact q
      · exact Int.le_trans q (h1 z hz)
    · rename_i q
      refine List.pairwise_cons.mpr ⟨fun z hz => ?_, insI_srt x l h2⟩
      rcases List.mem_cons.mp ((insI_perm x l).mem_iff.mp hz) with rfl | hz
      · omega
      · exact h1 z hz
theorem srtI_srt : ∀ l : List Int, (srtI l).Pairwise (· ≤ ·)
  | [] => List.Pairwise.nil
  | x :: l => insI_srt x _ (srtI_srt l)
theorem srt_uniq : ∀ {a b : List Int}, a.Perm b → a.Pairwise (· ≤ ·) → b.Pairwise (· ≤ ·) → a = b
  | [], b, p, _, _ => (List.nil_perm.mp p).symm
  | x :: a, [], p, _, _ => absurd p.length_eq (by simp)
  | x :: a, y :: b, p, ha, hb => by
    obtain ⟨a1, a2⟩ := List.pairwise_cons.mp ha
    obtain ⟨b1, b2⟩ := List.pairwise_cons.mp hb
    have e : x = y := by
      have h1 : x ≤ y := by
        rcases List.mem_cons.mp (p.mem_iff.mpr (List.mem_cons_self : y ∈ y :: b)) with z | z
        · omega
        · exact a1 y z
      have h2 : y ≤ x := by
        rcases List.mem_cons.mp (p.mem_iff.mp (List.mem_cons_self : x ∈ x :: a)) with z | z
        · omega
        · exact b1 x z
      omega
    subst e
    rw [srt_uniq (List.Perm.cons_inv p) a2 b2]
theorem own_intsM {H : Hp} {S : Rg} {n : Nat} : ∀ l : List Int, OwnL g H S n (l.map D.int) (l.map V.int) []
  | [] => OwnL.nil
  | x :: l => OwnL.cons (A := []) (B := []) own_int (own_intsM l)
theorem ownR {H : Hp} {S : Rg} : ∀ {l : List D} {rs : List (List Int)} {xs : List V}, unR l = some rs → OwnL g H S 0 l xs [] → ∃ bs : List (V × List Int), bs.map (·.1) = xs ∧ bs.map (·.2) = rs ∧ ∀ b ∈ bs, Own g H S 0 (.lst (b.2.map D.int)) b.1 []
  | [], rs, xs, e, o => by
    unfold OwnL at o
    cases e
    exact ⟨[], o.1.symm, rfl, fun b hb => nomatch hb⟩
  | d :: ds, rs, xs, e, o => by
    unfold OwnL at o
    obtain ⟨x, ys, B, C, rfl, eA, h1, h2⟩ := o
    have e1 := h1.zero
    subst e1
    have eC : C = [] := by simpa using eA.symm
    subst eC
    unfold unR at e
    split at e
    · rename_i l
      split at e
      · rename_i ns rs' q1 q2
        cases e
        obtain ⟨bs, rfl, rfl, hb⟩ := ownR q2 h2
        obtain rfl := unI_map q1
        refine ⟨(x, ns) :: bs, rfl, rfl, fun b m => ?_⟩
        rcases List.mem_cons.mp m with rfl | m
        · exact h1
        · exact hb b m
      · cases e
    · cases e
theorem ownR_of {H : Hp} {S : Rg} : ∀ {bs : List (V × List Int)}, (∀ b ∈ bs, Own g H S 0 (.lst (b.2.map D.int)) b.1 []) → OwnL g H S 0 (bs.map ((fun r : List Int => D.lst (r.map D.int)) ∘ fun b : V × List Int => b.2)) (bs.map (·.1)) []
  | [], _ => OwnL.nil
  | b :: bs, h => OwnL.cons (A := []) (B := []) (h b List.mem_cons_self) (ownR_of fun c m => h c (List.mem_cons_of_mem _ m))
def rSortedR (K : PySem.W.Frag) : List V → Hp → VK → Prop := fun vs H Q => ∃ (a : Addr) (bs : List (V × List Int)), vs = [V.ref a] ∧ SqL K H a (bs.map (·.1)) ∧ (∀ b ∈ bs, Dp K H b.1 (.list (b.2.map .int))) ∧
  ∀ p, H p = none → Q (.ref p) (upd H p (.lst ((bs.mergeSort fun p q => decide (p.2 ≤ q.2)).map (·.1))))
theorem each_of {R : Value → (V × List Int) → Prop} : ∀ {bs : List (V × List Int)} {us : List Value}, Vals (bs.map (·.1)) us → (∀ b ∈ bs, ∀ u, RelV b.1 u → R u b) → PySem.W.EachIs R us bs
  | [], _, .nil, _ => .nil
  | b :: bs, _, .cons r t, h => .cons (h b List.mem_cons_self _ r) (each_of t fun c m => h c (List.mem_cons_of_mem _ m))
theorem each_vals : ∀ {bs : List (V × List Int)} {us : List Value}, PySem.W.EachIs (fun u b => RelV b.1 u) us bs → Vals (bs.map (·.1)) us
  | _, _, .nil => .nil
  | _, _, .cons r t => .cons r (each_vals t)
theorem cr_sortedR {X : Cx} (hu : X.A.units + 65 < cLine) : CallR X (.builtin "sorted") (rSortedR X.K) := by
  intro pins s σ H vs us Q I r h
  obtain ⟨a, bs, rfl, hs, hd, q⟩ := h
  obtain ⟨its, rv, hl, hz⟩ := I.list hs
  rw [Vals.ref1 r]
  rw [List.length_map] at hz
  refine PySem.W.sorted_data (R := fun u b => RelV b.1 u) (enc := fun b : V × List Int => .list (b.2.map .int)) (vs := its) (bs := bs) hl.isList (each_of rv fun b _ u r => r) (each_of rv fun b m u r => Dp.reads I _ b.1 u (hd b m) r)
    (PySem.W.AllAlike.of fun b b' => by simp only [PySem.W.alike]; exact PySem.W.alike_ints _ _) (PySem.W.Sortable.others fun b => ⟨(fun z => by cases z), fun xs z => by cases z⟩) hz (fun b _ => by
    simp only [PyData.depth, PySem.W.depth_ints]
    omega) fun out ho eo => ?_
  rw [PySem.W.dataLe_rows] at eo
  have ev := each_vals eo
  obtain ⟨ep, he'⟩ := PyProof.Rows.sortedAll_at s.heap its out.toArray
  have hlen : ((bs.mergeSort fun p q => decide (p.2 ≤ q.2)).map (·.1)).length ≤ sizeLine := by
    rw [List.length_map, List.length_mergeSort]
    exact hz
  exact ⟨.ref _, upd H (s.heap.objs.size + 1) (.lst ((bs.mergeSort fun p q => decide (p.2 ≤ q.2)).map (·.1))), I.laid (t' := s.toks) (fun _ _ => PyProof.Rows.sortedAll_old) (Nat.le_succ _) ⟨hlen, out, ep, ev, he'⟩, rfl, q _ (I.hok.fresh (Nat.le_succ _))⟩
mutual
theorem reads_no {h : Heap} : ∀ (d : PyData) (v : Value) (as : List Addr), noAd d = true → Reads h v d as → as = []
  | .none, _, _, _, r => by cases r; rfl
  | .bool _, _, _, _, r => by cases r; rfl
  | .int _, _, _, _, r => by cases r; rfl
  | .str _, _, _, _, r => by cases r; rfl
  | .list _, _, _, n, _ => by simp [noAd] at n
  | .dict _, _, _, n, _ => by simp [noAd] at n
  | .tuple l, _, _, n, r => by
    unfold noAd at n
    cases r with
    | tuple _ _ _ rs => exact readsL_no l _ _ n rs
theorem readsL_no {h : Heap} : ∀ (l : List PyData) (vs : List Value) (as : List Addr), noAdL l = true → ReadsAll h vs l as → as = []
  | [], _, _, _, r => by cases r; rfl
  | d :: l, _, _, n, r => by
    unfold noAdL at n
    rw [Bool.and_eq_true] at n
    cases r with
    | cons r1 r2 => rw [reads_no d _ _ n.1 r1, readsL_no l _ _ n.2 r2]; rfl
end
theorem KRel.keyVals : ∀ {kas : List KA} {xs : List (List Key × Addr × Value)}, KRel kas xs → Vals (kas.map fun p => V.ref p.2.1) (xs.map fun x => Value.ref x.2.1)
  | _, _, .nil => .nil
  | _, _, @Paired.cons _ _ _ p q ps qs ⟨_, h2, _⟩ t => by
    rw [List.map_cons, List.map_cons]
    exact .cons (by rw [h2]; exact rfl) (KRel.keyVals (kas := ps) (xs := qs) t)
theorem KRel.valVals : ∀ {kas : List KA} {xs : List (List Key × Addr × Value)}, KRel kas xs → Vals (kas.map fun p => p.2.2) (xs.map fun x => x.2.2)
  | _, _, .nil => .nil
  | _, _, @Paired.cons _ _ _ p q ps qs ⟨_, _, h3⟩ t => by
    rw [List.map_cons, List.map_cons]
    exact .cons h3 (KRel.valVals (kas := ps) (xs := qs) t)
theorem call_reprDT {X : Cx} (hg : X.A.guards = some []) (hu : X.A.units + 65 < cLine) : CallR X (.builtin "repr") (fun xs H Q => ∃ (a : Addr) (kas : List KA) (oe : Obj) (kd vd : List PyData), xs = [.ref a] ∧ Rd H a (dTo X.prog X.w a kas oe) ∧ DpAll X.K H (kas.map fun p => V.ref p.2.1) kd ∧ DpAll X.K H (kas.map fun p => p.2.2) vd ∧
    noAdL kd = true ∧ noAdL vd = true ∧ kd.length = vd.length ∧ (PyData.dict (kd.zip vd)).showable = true ∧ (PyData.dict (kd.zip vd)).depth ≤ 62 ∧ (PyData.dict (kd.zip vd)).shown.length ≤ sizeLine ∧ Q (.str (PyData.dict (kd.zip vd)).shown) H) := by
  rintro pins s σ H xs us Q I r ⟨a, kas, oe, kd, vd, rfl, hd, dk, dv, n1, n2, hl, h1, h3, h4, q⟩
  obtain ⟨u, rfl, ru⟩ := r.one
  cases ru
  obtain ⟨z, sys, ks, o, es, ep, rel, D⟩ := dTo_ok (hd.ok I.hok)
  obtain ⟨as, ra⟩ := Dp.readsAll I _ _ _ dk rel.keyVals
  obtain ⟨bs, rb⟩ := Dp.readsAll I _ _ _ dv rel.valVals
  have ea := readsL_no _ _ _ n1 ra
  have eb := readsL_no _ _ _ n2 rb
  subst ea
  subst eb
  have e1 : es.toList.map (·.key) = ks.map fun x => Value.ref x.2.1 := by
    rw [D.ent, List.map_map]
    rfl
  have e2 : es.toList.map (·.val) = ks.map fun x => x.2.2 := by
    rw [D.ent, List.map_map]
    rfl
  have rd : Reads s.heap (.ref a) (.dict (kd.zip vd)) (a :: [] ++ []) := by
    refine Reads.dict D.at_ D.ex.1 D.data ?_ ?_
    · rw [e1, List.map_fst_zip (by omega)]
      exact ra
    · rw [e2, List.map_snd_zip (by omega)]
      exact rb
  refine repr_of_reads' rd h1 (fun _ hm => ?_) hg (by omega) (fun _ _ e => e) (fun h' u tk hk => ⟨.str _, H, I.kept hk, ⟨_, rfl⟩, q⟩) h4
  have hm : sysModules = a := by simpa using hm
  rw [hm] at sys
  simp at sys
theorem listLt_lt : ∀ a b : List Int, PySem.W.listLt a b = decide (a < b)
  | [], [] => by simp [PySem.W.listLt]
  | [], _ :: _ => by simp [PySem.W.listLt]
  | _ :: _, [] => by simp [PySem.W.listLt]
  | x :: xs, y :: ys => by
    unfold PySem.W.listLt
    rw [listLt_lt xs ys]
    by_cases e : x = y
    · subst e
      simp [List.cons_lt_cons_iff]
    · rw [if_neg e]
      show decide (x < y) = _
      simp [List.cons_lt_cons_iff, e]
theorem minR_of (r : List Int) (l : List (List Int)) : PySem.W.minOf r l = minR r l := by
  unfold PySem.W.minOf minR
  congr 1
  funext b x
  have : PySem.W.DatumOrd.lt x b = decide (x < b) := listLt_lt x b
  rw [this]
  by_cases h : x < b <;> simp [h]
theorem cr_minR {X : Cx} (hc : X.calm = true) (hu : X.A.units + 65 < cLine) : CallR X (.builtin "min") (fun vs H Q => ∃ (a : Addr) (xs : List V) (p : List Int) (ps : List (List Int)), vs = [V.ref a] ∧ SqL X.K H a xs ∧ DpAll X.K H xs ((p :: ps).map PySem.W.Datum.toD) ∧ ∀ (i : Nat) (x : V), xs[i]? = some x → (p :: ps)[i]? = some (minR p ps) → Q x H) := by
  rintro pins s σ H vs us Q I r ⟨a, xs, p, ps, rfl, hs, hd, q⟩
  obtain ⟨its, rv, hl, _⟩ := I.list hs
  rw [Vals.ref1 r]
  obtain ⟨as, rs⟩ := Dp.readsAll I _ _ _ hd rv
  have HA : PySem.W.HoldAll s.heap its.toArray.toList (p :: ps) := ⟨as, by simpa using rs⟩
  refine PySem.W.min_list_datum (x := p) (xs := ps) (I.ok.hd hc) hl.isList HA ?_ fun i v h' tk hi hv hk => ?_
  · show X.A.units + 1 + 1 < cLine
    omega
  · have hi' : its[i]? = some v := by simpa using hi
    have hxl := rv.length
    have hil : i < its.length := (List.getElem?_eq_some_iff.mp hi').1
    obtain ⟨x, hx⟩ : ∃ x, xs[i]? = some x := ⟨_, List.getElem?_eq_getElem (by omega)⟩
    obtain ⟨u, hu1, hu2⟩ := rv.get hx
    rw [hi'] at hu1
    cases hu1
    obtain ⟨z, hz1, hz2⟩ := PySem.W.HoldAll.at HA (i := i) (v := v) (by simpa using hi')
    refine ⟨x, H, I.kept hk, hu2, q i x hx ?_⟩
    obtain ⟨a1, r1⟩ := hv
    obtain ⟨a2, r2⟩ := hz2
    have e := PySem.SeqAt.readOf_plain (PySem.W.Datum.plain _) r1
    have e2 := PySem.SeqAt.readOf_plain (PySem.W.Datum.plain _) (Reads.keeps hk r2)
    have e3 : PySem.W.Datum.toD (PySem.W.minOf p ps) = PySem.W.Datum.toD z := e.symm.trans e2
    have e4 : PySem.W.minOf p ps = z := by
      have h1 := PySem.W.Datum.eqv (PySem.W.minOf p ps) z
      rw [e3, PySem.W.Datum.eqv z z] at h1
      simpa using h1.symm
    have e5 : minR p ps = z := by rw [← minR_of]; exact e4
    rw [e5]
    exact hz1
theorem dataLe_rowsT {β : Type} (x : β → List Int) : PySem.W.dataLe false (fun b => .tuple ((x b).map .int)) = fun p q => decide (x p ≤ x q) := by
  funext p q
  show (!PySem.W.dataLt (.tuple ((x q).map .int)) (.tuple ((x p).map .int))) = _
  rw [PySem.W.dataLt_tuple]
  show (!PySem.W.rowLt ((x q).map .int) ((x p).map .int)) = _
  rw [PySem.W.dataLt_ints]
  by_cases h : x q < x p
  · have h' : ¬ x p ≤ x q := fun r => List.not_lt.mpr r h
    simp [h, h']
  · have h' : x p ≤ x q := List.not_lt.mp h
    simp [h, h']
theorem cr_sortedDT {X : Cx} (hc : X.calm = true) (hu : X.A.units + 65 < cLine) : CallR X (.builtin "sorted") (fun vs H Q => ∃ (a : Addr) (kas : List KA) (oe : Obj) (bs : List (V × List Int)), vs = [V.ref a] ∧ Rd H a (dTo X.prog X.w a kas oe) ∧ (kas.map fun p => V.ref p.2.1) = bs.map (·.1) ∧ (∀ b ∈ bs, Dp X.K H b.1 (.tuple (b.2.map .int))) ∧ (∀ b ∈ bs, b.2 ≠ []) ∧
    ∀ p, H p = none → Q (.ref p) (upd H p (.lst ((bs.mergeSort fun p q => decide (p.2 ≤ q.2)).map (·.1))))) := by
  rintro pins s σ H vs us Q I r ⟨a, kas, oe, bs, rfl, hd, hks, hb, hne, q⟩
  obtain ⟨u, rfl, ru⟩ := r.one
  cases ru
  obtain ⟨z, sys, ks, o, es, ep, rel, D⟩ := dTo_ok (hd.ok I.hok)
  have le : es.size = ks.length := size_of_entries D.ent
  have lb : kas.length = bs.length := by have := congrArg List.length hks; simpa using this
  have hn : es.size ≤ sizeLine := by have := rel.len; omega
  refine PySem.Calls.call_function_entry kind_sorted plain_sorted entry_sorted (args_sorted1 _) ?_
  unfold Builtin.«sorted»
  refine wpAny_bind (m := checkCount "sorted" 1 1 _) (wpAny_pure ?_)
  refine wpAny_bind (PySem.W.kdu_collect (A := X.A.in1) (kdl_raw sys D.ex D.data) (I.ok.hd hc) D.at_ hn fun h' tk acc hk it => ?_)
  have key : ∀ (j : Nat) (hj : j < acc.toList.length), acc.toList[j] = Value.ref ((kas.map fun p => p.2.1)[j]'(by rw [List.length_map, rel.len, ← le, ← it.1]; simpa using hj)) := fun j hj => by
    obtain ⟨en, hen, hv⟩ := it.2 j acc.toList[j] (by rw [← Array.getElem?_toList, List.getElem?_eq_getElem hj])
    have qe := entry_at D.ent j
    rw [hen] at qe
    cases hb : ks[j]? with
    | none => rw [hb] at qe; cases qe
    | some b =>
      rw [hb] at qe
      cases qe
      have : (kas.map fun p => p.2.1)[j]? = some b.2.1 := by rw [← rel.addrs, List.getElem?_map, hb]; rfl
      obtain ⟨hj', e2⟩ := List.getElem?_eq_some_iff.mp this
      rw [hv, e2]; rfl
  have el : acc.toList = (kas.map fun p => p.2.1).map Value.ref := List.ext_getElem (by rw [List.length_map, List.length_map, rel.len, ← le, ← it.1]; simp) fun j h1 h2 => by rw [List.getElem_map]; exact key j h1
  have rv : Vals (bs.map (·.1)) acc.toList := by
    have e : (kas.map fun p => V.ref p.2.1) = (kas.map fun p => p.2.1).map V.ref := by rw [List.map_map]; rfl
    rw [el, ← hks, e]
    exact vals_refs _
  have hlen : acc.toList.length = es.size := by rw [Array.length_toList]; exact it.1
  refine wpAny_bind (wpAny_newList ?_ (by rw [hlen]; exact hn))
  have I1 : Inv X pins σ H { s with heap := h', toks := tk } := I.kept hk
  have kp2 : ∀ b ob, h'.get? b = some ob → (h'.push { cls := .type "list", data := .seq acc.toList.toArray }).get? b = some ob := fun b ob e => Heap.get?_push_of_some _ e
  have ho : (h'.push { cls := .type "list", data := .seq acc.toList.toArray }).get? h'.objs.size = some (seqObj "list" acc.toList.toArray 0) := Heap.get?_push_size _ rfl
  refine wpAny_bind (wpAny_holding (wpAny_mono (Q := fun _ s' => ∃ h2, s' = { s with heap := h2, toks := tk } ∧ (∀ b ob, h'.get? b = some ob → h2.get? b = some ob) ∧ ∃ out e, h2.get? h'.objs.size = some (seqObj "list" out.toArray e) ∧ Vals ((bs.mergeSort fun p q => decide (p.2 ≤ q.2)).map (·.1)) out) ?_ (fun v s' x => ?_) fun _ _ e => e))
  · have er : PySem.W.EachIs (fun u (b : V × List Int) => ∃ as, Reads (h'.push { cls := .type "list", data := .seq acc.toList.toArray }) u (.tuple (b.2.map .int)) as ∧ h'.objs.size ∉ as) acc.toList bs := each_of rv fun b m u r => by
      obtain ⟨as, rd⟩ := Dp.reads I _ b.1 u (hb b m) r
      have : as = [] := reads_no _ _ _ (by
        unfold noAd
        have : ∀ l : List Int, noAdL (l.map PyData.int) = true := fun l => by
          induction l with
          | nil => rfl
          | cons a l ih => rw [List.map_cons]; unfold noAdL; rw [ih]; rfl
        exact this b.2) rd
      subst this
      exact ⟨[], PyProof.Rows.Reads.keeps (fun b ob e => kp2 b ob (hk b ob e)) rd, by simp⟩
    refine PySem.W.list_sort_data (R := fun u b => RelV b.1 u) (enc := fun b : V × List Int => .tuple (b.2.map .int)) (vs := acc.toList) (bs := bs) (n := 0) ho (each_of rv fun b _ u r => r) er
      (PySem.W.AllAlike.of fun b b' => by simp only [PySem.W.alike]; exact PySem.W.alike_ints _ _) (.inl fun d hd => by
        obtain ⟨b, m, rfl⟩ := List.mem_map.mp hd
        cases e : b.2 with
        | nil => exact absurd e (hne b m)
        | cons x r => exact ⟨.int x, r.map .int, rfl⟩) (by rw [← lb]; exact z) (fun b _ => by
        simp only [PyData.depth, PySem.W.depth_ints]
        show X.A.units + 1 + 1 + (0 + 1) < cLine
        omega) fun out ho2 eo => ?_
    rw [dataLe_rowsT] at eo
    refine ⟨_, rfl, fun b ob e => ?_, out, ?_⟩
    · have hlt := Heap.lt_size e
      rw [sortedHeap_old (Nat.ne_of_lt hlt) (Nat.lt_of_lt_of_le hlt (by rw [Heap.size_push]; exact Nat.le_succ _))]
      exact kp2 b ob e
    · obtain ⟨e, he⟩ := sortedHeap_at (out := out.toArray) ho
      exact ⟨e, he, each_vals eo⟩
  · obtain ⟨h2, rfl, kp, out, e, he, ev⟩ := x
    have hl2 : ((bs.mergeSort fun p q => decide (p.2 ≤ q.2)).map (·.1)).length ≤ sizeLine := by
      rw [List.length_map, List.length_mergeSort, ← lb]
      exact z
    exact wpAny_pure ⟨_, rfl, .ref h'.objs.size, upd H h'.objs.size (.lst ((bs.mergeSort fun p q => decide (p.2 ≤ q.2)).map (·.1))), I1.laid (t' := tk) kp (Nat.le_refl _) ⟨hl2, out, e, ev, he⟩, rfl, q _ (I1.hok.fresh (Nat.le_refl _))⟩

theorem call_lenDK {X : Cx} : CallR X (.builtin "len") (fun vs H Q => ∃ (a : Addr) (kvs : List (Key × V)), vs = [V.ref a] ∧ Rd H a (.dK kvs) ∧ Q (.int (kvs.length : Nat)) H) := by
  rintro pins s σ H vs us Q I r ⟨a, kvs, rfl, hd, q⟩
  obtain ⟨u, rfl, ru⟩ := r.one
  cases ru
  exact d_len I hd fun t s' I' => ⟨.int kvs.length, H, I', ⟨t, rfl⟩, q⟩
theorem call_lenDT {X : Cx} : CallR X (.builtin "len") (fun vs H Q => ∃ (a : Addr) (kas : List KA) (oe : Obj), vs = [V.ref a] ∧ Rd H a (dTo X.prog X.w a kas oe) ∧ Q (.int (kas.length : Nat)) H) := by
  rintro pins s σ H vs us Q I r ⟨a, kas, oe, rfl, hd, q⟩
  obtain ⟨u, rfl, ru⟩ := r.one
  cases ru
  obtain ⟨z, sys, ks, o, es, ep, rel, D⟩ := dTo_ok (hd.ok I.hok)
  have le : es.size = ks.length := size_of_entries D.ent
  have lk := rel.len
  have hz : kas.length ≤ 16777216 := by rw [← sizeLine_eq]; exact z
  refine PyProof.Rows.call_len_slot (n := (kas.length : Nat)) ⟨o, D.at_, D.ex.1⟩ PySem.F.slot_dict_len (fun Q' hq => call_len_raw sys ⟨o, D.at_, D.ex, D.data⟩ (by rw [le, ← lk]; exact hq)) (by omega) (by omega) ?_
  exact ⟨.int kas.length, H, I.tok _, ⟨_, rfl⟩, q⟩
theorem ownT {H : Hp} {S : Rg} : ∀ {l : List D} {rs : List (List Int)} {xs : List V}, unT l = some rs → OwnL g H S 0 l xs [] → ∃ bs : List (V × List Int), bs.map (·.1) = xs ∧ bs.map (·.2) = rs ∧ ∀ b ∈ bs, Own g H S 0 (.tup (b.2.map D.int)) b.1 []
  | [], rs, xs, e, o => by
    unfold OwnL at o
    cases e
    exact ⟨[], o.1.symm, rfl, fun b hb => nomatch hb⟩
  | d :: ds, rs, xs, e, o => by
    unfold OwnL at o
    obtain ⟨x, ys, B, C, rfl, eA, h1, h2⟩ := o
    have e1 := h1.zero
    subst e1
    have eC : C = [] := by simpa using eA.symm
    subst eC
    unfold unT at e
    split at e
    · rename_i l
      split at e
      · rename_i ns rs' q1 q2
        cases e
        obtain ⟨bs, rfl, rfl, hb⟩ := ownT q2 h2
        obtain rfl := unI_map q1
        refine ⟨(x, ns) :: bs, rfl, rfl, fun b m => ?_⟩
        rcases List.mem_cons.mp m with rfl | m
        · exact h1
        · exact hb b m
      · cases e
    · cases e
theorem ownT_of {H : Hp} {S : Rg} : ∀ {bs : List (V × List Int)}, (∀ b ∈ bs, Own g H S 0 (.tup (b.2.map D.int)) b.1 []) → OwnL g H S 0 (bs.map ((fun r : List Int => D.tup (r.map D.int)) ∘ fun b : V × List Int => b.2)) (bs.map (·.1)) []
  | [], _ => OwnL.nil
  | b :: bs, h => OwnL.cons (A := []) (B := []) (h b List.mem_cons_self) (ownT_of fun c m => h c (List.mem_cons_of_mem _ m))
theorem toPL_I : ∀ l : List Int, toPL (l.map D.int) = l.map PyData.int
  | [] => rfl
  | a :: l => by rw [List.map_cons, List.map_cons]; unfold toPL; rw [toPL_I l]; rfl
theorem own_intsDT {H : Hp} {S : Rg} {ns : List Int} {v : V} {n : Nat} {A : Fp} (o : Own g H S n (.tup (ns.map D.int)) v A) : Dp g.K H v (.tuple (ns.map .int)) := by
  have h := own_Dp (k := 1) (by unfold shp; exact shpL_ints _ _) o
  unfold toP at h
  rwa [toPL_I] at h
theorem rows_R : ∀ {l : List D} {rs : List (List Int)}, unR l = some rs → l = (rs.map fun r => .lst (r.map D.int)) ∧ toPL l = rs.map PySem.W.Datum.toD ∧ shpL 1 l = true
  | [], rs, h => by
    cases h
    exact ⟨rfl, rfl, rfl⟩
  | d :: l, rs, h => by
    unfold unR at h
    split at h
    · rename_i x
      split at h
      · rename_i ns qs e1 e2
        cases h
        obtain ⟨h1, h2, h3⟩ := rows_R e2
        obtain rfl := unI_map e1
        refine ⟨by rw [h1]; rfl, ?_, ?_⟩
        · show toP _ :: toPL l = _
          rw [h2]
          unfold toP
          rw [toPL_I]
          rfl
        · unfold shpL
          rw [h3]
          unfold shp
          rw [shpL_ints]
          rfl
      · cases h
    · cases h
theorem vals_xs : ∀ {kk : List (List Key)} {as : List Addr} {xs : List V}, kk.length = as.length → xs.length = as.length → ((kk.zip (as.zip xs)).map fun p => p.2.2) = xs
  | [], [], [], _, _ => rfl
  | [], [], _ :: _, _, h => by simp at h
  | [], _ :: _, _, h, _ => by simp at h
  | _ :: _, [], _, h, _ => by simp at h
  | _ :: _, _ :: _, [], _, h => by simp at h
  | k :: kk, a :: as, x :: xs, h1, h2 => by
    rw [List.zip_cons_cons, List.zip_cons_cons, List.map_cons, vals_xs (by simpa using h1) (by simpa using h2)]
theorem keys_rs {kk : List (List Key)} {as : List Addr} {xs : List V} (h1 : kk.length = as.length) (h2 : xs.length = as.length) : ((kk.zip (as.zip xs)).map fun p => V.ref p.2.1) = as.map V.ref := by
  have := congrArg (List.map V.ref) (kas_as h1 h2)
  rw [List.map_map] at this
  exact this
theorem toPL_len : ∀ l : List D, (toPL l).length = l.length
  | [] => rfl
  | d :: l => by unfold toPL; rw [List.length_cons, List.length_cons, toPL_len l]
theorem shwT_ok {ks vs : List D} {x : Str} (e : shwT ks vs = some x) : ks ≠ [] ∧ (ks.mapM D.keyT).isSome = true ∧ noAdL (toPL ks) = true ∧ noAdL (toPL vs) = true ∧ shpL 58 ks = true ∧ shpL 58 vs = true ∧ (PyData.dict ((toPL ks).zip (toPL vs))).showable = true ∧ (PyData.dict ((toPL ks).zip (toPL vs))).depth ≤ 62 ∧ (PyData.dict ((toPL ks).zip (toPL vs))).shown.length ≤ szLine ∧ (PyData.dict ((toPL ks).zip (toPL vs))).shown = x := by
  unfold shwT at e
  split at e
  · rename_i z
    simp only [Bool.and_eq_true, decide_eq_true_eq] at z
    obtain ⟨⟨⟨⟨⟨⟨⟨⟨z1, z2⟩, z3⟩, z4⟩, z5⟩, z6⟩, z7⟩, z8⟩, z9⟩ := z
    exact ⟨(fun h => by rw [h] at z1; cases z1), z2, z3, z4, z5, z6, z7, z8, z9, Option.some.inj e⟩
  · cases e
theorem bi_call (hK : g.K = X.K) (hP : g.P = X.prog ∧ g.w = X.w) (b : Bi) (hc : b.calmy = true → X.calm = true) (hu : X.A.units + 65 < cLine) {W : Value → Option Addr → Hp → Prop} (hgd : b = .reprL → X.A.guards = some []) : CallR X b.val (rBi g xg W b) := by
  refine CallR.pick fun xs H Q ⟨S, ds, sz, o, h⟩ => ?_
  unfold biD at h
  split at h
  · obtain ⟨v, rfl, o1⟩ := own1 o
    obtain ⟨a, xs, rfl, s, t, l1⟩ := own_lst_v o1
    refine ⟨_, call_len, _, xs.length, rfl, .inl ⟨xs, rdL t, rfl⟩, ?_⟩
    rw [l1.length]
    exact h.val sz own_int
  · obtain ⟨v, rfl, o1⟩ := own1 o
    obtain ⟨a, xs, rfl, t, l1⟩ := own_tup_v o1
    refine ⟨_, call_len, _, xs.length, rfl, .inr ⟨xs, by rw [← hK]; exact t, rfl⟩, ?_⟩
    rw [l1.length]
    exact h.val sz own_int
  · obtain ⟨v, rfl, o1⟩ := own1 o
    split at h
    · rename_i z
      simp only [Bool.and_eq_true] at z
      obtain ⟨a, rfl, ⟨rfl, rfl, t⟩ | ⟨kk, as, xs, oe, _, e1, t, _, _, l1, l2⟩⟩ := own_dctTT hP o1 z.1
      · exact ⟨_, call_lenDK, a, [], rfl, t, h.val sz own_int⟩
      · refine ⟨_, call_lenDT, a, _, oe, rfl, t, ?_⟩
        rw [List.length_zip, List.length_zip, l1, l2, Nat.min_self, Nat.min_self, ← l1, mapM_len e1]
        exact h.val sz own_int
    · exact h.elim
  · obtain ⟨v, rfl, o1⟩ := own1 o
    rw [own_str_v o1]
    split at h
    · rename_i z
      exact ⟨_, call_len, _, _, rfl, ⟨of_decide_eq_true z, rfl⟩, h.val sz own_int⟩
    · exact h.elim
  · obtain ⟨v, rfl, o1⟩ := own1 o
    rw [own_int_v o1]
    exact ⟨_, call_abs, _, rfl, h.val sz own_int⟩
  · obtain ⟨v, rfl, o1⟩ := own1 o
    obtain ⟨a, xs, rfl, s, t, l1⟩ := own_lst_v o1
    split at h
    · rename_i ns e
      have ex := ints_v e l1
      subst ex
      exact ⟨_, cr_sum (hc rfl), a, ns, rfl, rdL t, h.val sz own_int⟩
    · exact h.elim
  · obtain ⟨v, w, rfl, o1, o2⟩ := own2 o
    rw [own_int_v o1, own_int_v o2]
    exact ⟨_, call_max2 (hc rfl), _, _, rfl, h.val sz own_int⟩
  · obtain ⟨v, w, rfl, o1, o2⟩ := own2 o
    rw [own_int_v o1, own_int_v o2]
    exact ⟨_, call_min2 (hc rfl), _, _, rfl, h.val sz own_int⟩
  · obtain ⟨v, rfl, o1⟩ := own1 o
    obtain ⟨a, xs, rfl, s, t, l1⟩ := own_lst_v o1
    exact ⟨_, call_list_of, a, xs, rfl, .inl (rdL t), fun p hp => h.new (T := [p]) sz hp (.inl rfl) (own_lst upd_same (l1.laid sz hp))⟩
  · obtain ⟨v, rfl, o1⟩ := own1 o
    obtain ⟨a, xs, rfl, t, l1⟩ := own_tup_v o1
    exact ⟨_, call_list_of, a, xs, rfl, .inr (by rw [← hK]; exact t), fun p hp => h.new (T := [p]) sz hp (.inl rfl) (own_lst upd_same (l1.laid sz hp))⟩
  · split at h
    · rename_i z
      obtain ⟨v, rfl, o1⟩ := own1 o
      obtain ⟨a, xs, rfl, s, t, hl, ol⟩ := own_dct_v o1
      obtain ⟨kks, hks⟩ := Option.isSome_iff_exists.mp z
      rcases t with ⟨kk, e1, t⟩ | ⟨kk, as, e0, e1, el, ok, t⟩ | ⟨kk, e0, e1, t⟩
      rotate_left 2
      · rename_i ks vs _
        cases ks with
        | nil => exact absurd rfl e0
        | cons q ks =>
          obtain ⟨_, _, _, z1, _⟩ := mapM_cons_some hks
          obtain ⟨_, _, _, z2, _⟩ := mapM_cons_some e1
          rw [keyL_not_T z2] at z1
          cases z1
      · rename_i ks vs _
        cases ks with
        | nil =>
          cases e1
          refine ⟨_, call_listD (hc rfl), a, _, rfl, t, fun p hp => h.new (T := [p]) sz hp (.inl rfl) (own_lst upd_same ?_)⟩
          exact OwnL.nil
        | cons q ks =>
          obtain ⟨_, _, _, z1, _⟩ := mapM_cons_some hks
          obtain ⟨_, _, _, z2, _⟩ := mapM_cons_some e1
          rw [key_not_T z2] at z1
          cases z1
      · obtain ⟨oe, t⟩ := t
        rw [hP.1, hP.2] at t
        refine ⟨_, call_list_dTo (hc rfl), a, _, _, rfl, t, fun p hp => h.new (T := [p]) sz hp (.inl rfl) (own_lst upd_same ?_)⟩
        rw [kas_as (by rw [mapM_len e1, el]) (by rw [ol.length, el, hl])]
        exact ok.laid sz hp
    · exact h.elim
  · obtain ⟨v, rfl, o1⟩ := own1 o
    obtain ⟨a, xs, rfl, s, t, l1⟩ := own_lst_v o1
    exact ⟨_, call_tuple_ofN, a, xs, rfl, .inl ⟨rdL t, fun p o hp ho => h.new (T := []) sz hp (.inr rfl) (own_tup (sqN_new ho) (l1.laid sz hp))⟩⟩
  · obtain ⟨v, rfl, o1⟩ := own1 o
    obtain ⟨a, xs, rfl, t, l1⟩ := own_tup_v o1
    exact ⟨_, call_tuple_ofN, a, xs, rfl, .inr ⟨by rw [← hK]; exact t, h.val sz o1⟩⟩
  · obtain ⟨v, rfl, o1⟩ := own1 o
    obtain ⟨a, xs, rfl, s, t, l1⟩ := own_lst_v o1
    split at h
    · rename_i ns e
      have ex := bls_v e l1
      subst ex
      exact ⟨_, cr_all (hc rfl), a, ns, rfl, rdL t, h.val sz own_bl⟩
    · exact h.elim
  · obtain ⟨v, rfl, o1⟩ := own1 o
    obtain ⟨a, xs, rfl, s, t, l1⟩ := own_lst_v o1
    split at h
    · rename_i ns e
      have ex := bls_v e l1
      subst ex
      exact ⟨_, cr_any (hc rfl), a, ns, rfl, rdL t, h.val sz own_bl⟩
    · exact h.elim
  · obtain ⟨v, rfl, o1⟩ := own1 o
    rw [own_int_v o1]
    split at h
    · rename_i z
      exact ⟨_, call_str_int, _, rfl, of_decide_eq_true z, h.val sz own_str⟩
    · exact h.elim
  · obtain ⟨v, rfl, o1⟩ := own1 o
    rw [own_int_v o1]
    exact ⟨_, call_int1, .inl ⟨_, rfl, h.val sz own_int⟩⟩
  · obtain ⟨v, rfl, o1⟩ := own1 o
    rw [own_bl_v o1]
    exact ⟨_, call_int1, .inr ⟨_, rfl, h.val sz own_int⟩⟩
  · obtain ⟨v, rfl, o1⟩ := own1 o
    obtain ⟨a, xs, rfl, s, t, l1⟩ := own_lst_v o1
    split at h
    · rename_i n ns e
      have ex := ints_v e l1
      subst ex
      refine ⟨_, cr_max (hc rfl), a, n :: ns, rfl, rdL t, Nat.succ_pos _, fun m hm hle => ?_⟩
      rw [top_of hm hle]
      exact h.val sz own_int
    · exact h.elim
  · obtain ⟨v, rfl, o1⟩ := own1 o
    obtain ⟨a, xs, rfl, s, t, l1⟩ := own_lst_v o1
    split at h
    · rename_i n ns e
      have ex := ints_v e l1
      subst ex
      refine ⟨_, cr_min (hc rfl), a, n :: ns, rfl, rdL t, Nat.succ_pos _, fun m hm hle => ?_⟩
      rw [bot_of hm hle]
      exact h.val sz own_int
    · split at h
      · rename_i p ps e
        obtain ⟨e1, e2, e3⟩ := pairs_P e
        refine ⟨_, cr_minP (hc rfl) hu, a, xs, p, ps, rfl, rdL t, by rw [← e2, ← hK]; exact own_DpL e3 l1, fun i x hx hp => ?_⟩
        obtain ⟨v, B, h1, h2, _⟩ := l1.get (i := i) (d := pairD (minPr p ps)) (by rw [e1, List.getElem?_map, hp]; rfl)
        rw [hx] at h1
        cases h1
        have := h2.zero
        subst this
        exact h.val sz h2
      · split at h
        · rename_i r rs e
          obtain ⟨e1, e2, e3⟩ := rows_R e
          refine ⟨_, cr_minR (hc rfl) hu, a, xs, r, rs, rfl, rdL t, by rw [← e2, ← hK]; exact own_DpL e3 l1, fun i x hx hp => ?_⟩
          obtain ⟨v, B, h1, h2, _⟩ := l1.get (i := i) (d := .lst ((minR r rs).map D.int)) (by rw [e1, List.getElem?_map, hp]; rfl)
          rw [hx] at h1
          cases h1
          have := h2.zero
          subst this
          exact h.val sz h2
        · exact h.elim
  · obtain ⟨v, rfl, o1⟩ := own1 o
    rw [own_int_v o1]
    split at h
    · rename_i z
      exact ⟨_, SkE.call_repr_int, _, rfl, of_decide_eq_true z, h.val sz own_str⟩
    · exact h.elim
  · obtain ⟨v, rfl, o1⟩ := own1 o
    rw [own_non_v o1]
    exact ⟨_, call_repr_non, rfl, h.val sz own_str⟩
  · obtain ⟨v, rfl, o1⟩ := own1 o
    rw [own_bl_v o1]
    exact ⟨_, call_repr_bl, _, rfl, h.val sz own_str⟩
  · obtain ⟨v, rfl, o1⟩ := own1 o
    obtain ⟨a, xs, rfl, t, l1⟩ := own_tup_v o1
    split at h
    · rename_i ns e
      have ex := ints_v e l1
      subst ex
      exact ⟨_, cr_sumT (hc rfl), a, ns, rfl, by rw [← hK]; exact t, h.val sz own_int⟩
    · exact h.elim
  · obtain ⟨v, rfl, o1⟩ := own1 o
    obtain ⟨a, xs, rfl, s, t, l1⟩ := own_lst_v o1
    split at h
    · rename_i ns e
      have ex := ints_v e l1
      subst ex
      refine ⟨_, cr_sortedI, a, ns, rfl, rdL t, fun ns' p k1 k2 hp => ?_⟩
      obtain rfl := srt_uniq (k1.trans (srtI_perm ns).symm) k2 (srtI_srt ns)
      exact h.new (T := [p]) sz hp (.inl rfl) (own_lst upd_same (own_intsM _))
    · split at h
      · rename_i rs e
        obtain ⟨bs, rfl, rfl, hb⟩ := ownR e l1
        refine ⟨_, cr_sortedR hu, a, bs, rfl, rdL t, (fun b m => by rw [← hK]; exact own_intsD (hb b m)), fun p hp => ?_⟩
        rw [← List.map_mergeSort (r := fun p q : V × List Int => decide (p.2 ≤ q.2)) (f := fun b : V × List Int => b.2) (fun _ _ _ _ => rfl), List.map_map] at h
        have l2 := ownR_of (g := g) (H := H) (S := S) (bs := bs.mergeSort fun p q => decide (p.2 ≤ q.2)) fun b m => hb b (List.mem_mergeSort.mp m)
        exact h.new (T := [p]) sz hp (.inl rfl) (own_lst upd_same (l2.laid sz hp))
      · exact h.elim
  · obtain ⟨v, rfl, o1⟩ := own1 o
    rw [own_int_v o1]
    split at h
    · rename_i z
      exact ⟨_, SkE.call_repr_int, _, rfl, of_decide_eq_true z, h.val sz own_str⟩
    · exact h.elim
  · obtain ⟨v, rfl, o1⟩ := own1 o
    rw [own_non_v o1]
    exact ⟨_, call_repr_non, rfl, h.val sz own_str⟩
  · obtain ⟨v, rfl, o1⟩ := own1 o
    rw [own_bl_v o1]
    exact ⟨_, call_repr_bl, _, rfl, h.val sz own_str⟩
  · obtain ⟨v, rfl, o1⟩ := own1 o
    rw [own_str_v o1]
    split at h
    · rename_i z
      exact ⟨_, call_repr_st, _, rfl, of_decide_eq_true z, h.val sz own_str⟩
    · exact h.elim
  · obtain ⟨v, rfl, o1⟩ := own1 o
    split at h
    · rename_i x e
      obtain ⟨_, y2, y3, y4, y5, y6, y7, y8, y9, y10⟩ := shwT_ok e
      obtain ⟨a, rfl, ⟨rfl, _, _⟩ | ⟨kk, as, xs, oe, _, e1, t, ok, ol, l1, l2⟩⟩ := own_dctTT hP o1 y2
      · exact absurd rfl (shwT_ok e).1
      · have dk := own_DpL y5 ok
        have dv := own_DpL y6 ol
        rw [hK] at dk dv
        have e3 := mapM_len e1
        have e4 := ol.length
        exact ⟨_, call_reprDT (hgd rfl) hu, a, _, oe, _, _, rfl, t, by rw [keys_rs l1 l2]; exact dk, by rw [vals_xs l1 l2]; exact dv, y3, y4, by rw [toPL_len, toPL_len]; omega, y7, y8, y9, by rw [y10]; exact h.val sz own_str⟩
    · exact h.elim
  · obtain ⟨v, rfl, o1⟩ := own1 o
    split at h
    · rename_i z
      simp only [Bool.and_eq_true] at z
      split at h
      · rename_i ts e
        split at h
        · rename_i z3
          obtain ⟨a, rfl, ⟨rfl, _, _⟩ | ⟨kk, as, xs, oe, _, e1, t, ok, ol, l1, l2⟩⟩ := own_dctTT hP o1 z.2
          · exact absurd z.1 (by decide)
          · obtain ⟨bs, hb1, rfl, hb⟩ := ownT e ok
            refine ⟨_, cr_sortedDT (hc rfl) hu, a, _, oe, bs, rfl, t, by rw [keys_rs l1 l2, hb1], (fun b m => by rw [← hK]; exact own_intsDT (hb b m)), (fun b m eb => ?_), fun p hp => ?_⟩
            · have := List.all_eq_true.mp z3 b.2 (List.mem_map.mpr ⟨b, m, rfl⟩)
              rw [eb] at this
              cases this
            · rw [← List.map_mergeSort (r := fun p q : V × List Int => decide (p.2 ≤ q.2)) (f := fun b : V × List Int => b.2) (fun _ _ _ _ => rfl), List.map_map] at h
              have l2 := ownT_of (g := g) (H := H) (S := S) (bs := bs.mergeSort fun p q => decide (p.2 ≤ q.2)) fun b m => hb b (List.mem_mergeSort.mp m)
              exact h.new (T := [p]) sz hp (.inl rfl) (own_lst upd_same (l2.laid sz hp))
        · exact h.elim
      · exact h.elim
    · exact h.elim
  · obtain ⟨v, rfl, o1⟩ := own1 o
    split at h
    · rename_i x e
      obtain ⟨k1, k2, k3, k4, a, rfl⟩ := shw_ok e o1
      obtain ⟨_, dp⟩ := shp_ok k1
      exact ⟨_, call_reprL (hgd rfl) hu, toP _, a, rfl, by rw [← hK]; exact own_Dp k1 o1, k2, toP_dict _, by omega, k3, by rw [k4]; exact h.val sz own_str⟩
    · exact h.elim
  · obtain ⟨v, rfl, o1⟩ := own1 o
    rw [own_int_v o1]
    exact ⟨_, call_bool1, .inl ⟨_, rfl, h.val sz own_bl⟩⟩
  · obtain ⟨v, rfl, o1⟩ := own1 o
    rw [own_bl_v o1]
    exact ⟨_, call_bool1, .inr ⟨_, rfl, h.val sz own_bl⟩⟩
  · exact h.elim
theorem e_bi {x : Str} {p : Pos} {e : Expr} {es : List Expr} {y : Ex} {xs : List Ex} (hK : g.K = X.K) (hP : g.P = X.prog ∧ g.w = X.w) (b : Bi) (hc : b.calmy = true → X.calm = true) (hu : X.A.units + 65 < cLine) (hgd : b = .reprL → X.A.guards = some []) (hg : Gl X x) (hm : X.mg x = none) (hv : bootBuiltins x = some b.val) (hn : x ≠ "__name__") (hdb : (x == ("__debug__" : Str)) = false)
    (hs : (e :: es).all noStar = true) (ha : PA X (e :: es) (RdA g xg Γ W xs)) : PE X (.Call (.Name x p) (e :: es) [] pos) (RdE g xg Γ W (.bi b xs)) := by
  simp only [List.all_cons, Bool.and_eq_true] at hs
  refine PE.pick fun σ H Q ⟨S, δ, rep, h⟩ => ?_
  unfold evE at h
  have hA : RdA g xg Γ W xs σ H fun vs H1 => rBi g xg (fun c d H' => W c d σ H') b vs H1 Q := evL_rf rep h fun ds vs H1 S1 rep1 f1 ow h1 => ⟨S1, ds, rep1.sz, ow, h1⟩
  have hb : CallR X b.val (rBi g xg (fun c d H' => W c d σ H') b) := bi_call hK hP b hc hu hgd
  cases hbv : b.val with
  | builtin id =>
    rw [hbv] at hb hv
    exact ⟨_, pe_callB hb hg hm hv ha hn hdb (star_cons hs.1) (plain_any hs.2), hA⟩
  | type T =>
    rw [hbv] at hb hv
    exact ⟨_, pe_callTy hb hg hm hv ha hn hdb (star_cons hs.1) (plain_any hs.2), hA⟩
  | _ => cases b <;> cases hbv

def Bm.nm : Bm → Str
  | .count => "count" | .index => "index" | .get1 => "get" | .get2 => "get" | .join => "join" | .split => "split"
theorem PE.pick {e : Expr} {t' : TE} (k : ∀ σ H Q, t' σ H Q → ∃ t, PE X e t ∧ t σ H Q) : PE X e t' := ⟨fun pins s σ H Q I q => let ⟨_, h, z⟩ := k σ H Q q; h.run pins s σ H Q I z⟩
def Ty.name : Ty → String
  | .int => "int" | .bool => "bool" | .tuple => "tuple" | .list => "list" | .str => "str" | .dict => "dict" | .float => "float"
def rIsi2 (X : Cx) : List V → Hp → VK → Prop := fun xs H Q => rIsi X.K xs H Q ∨ ∃ (a : Addr) (kas : List KA) (oe : Obj) (n : String) (b : Bool), xs = [.ref a, .ty n] ∧ Rd H a (dTo X.prog X.w a kas oe) ∧ kitB "dict" n = some b ∧ Q (.bl b) H
theorem call_isi2 {X : Cx} : CallR X (.builtin "isinstance") (rIsi2 X) := by
  intro pins s σ H xs us Q I r h
  rcases h with h | ⟨a, kas, oe, n, b, rfl, hd, e, q⟩
  · exact call_isi pins s σ H xs us Q I r h
  · obtain ⟨u1, u2, rfl, r1, r2⟩ := vals2 r
    cases (show u1 = Value.ref a from r1)
    cases (show u2 = Value.type n from r2)
    obtain ⟨z, sys, ks, o, es, ep, rel, D⟩ := dTo_ok (hd.ok I.hok)
    exact PySem.W.kia_one PySem.W.kitx_dict I.kIn ⟨o, D.at_, D.ex.1⟩ (kit_ty e) (fun z => nomatch z) fun tk => ⟨.bl b, H, I.tok tk, rfl, q⟩
theorem isi_rule (hK : g.K = X.K) (hP : g.P = X.prog ∧ g.w = X.w) {H : Hp} {S : Rg} {d : D} {v : V} {t : Ty} {W : Value → Option Addr → Hp → Prop} {Q : VK} (sz : ∀ a, S a → (H a).isSome = true) (o : Own g H S 0 d v []) (h : RF g xg H S (isiD t d) W Q) : rIsi2 X [v, .ty t.name] H Q := by
  have key : ∀ (ty : String) (r : Bool), TyX X.K H v (.type ty) → kitB ty t.name = some r → isiD t d = .ok (.bl r) 0 → rIsi2 X [v, .ty t.name] H Q := fun ty r h1 h2 h3 => by
    rw [h3] at h
    exact .inl ⟨v, .ty t.name, .type ty, .type t.name, r, rfl, .ty _, h1, kit_ty h2, h.val sz own_bl⟩
  cases d with
  | non => rw [own_non_v o] at key ⊢; cases t <;> exact key "NoneType" _ (.base .non) (by decide +kernel) rfl
  | bl x => rw [own_bl_v o] at key ⊢; cases t <;> exact key "bool" _ (.base (.bl x)) (by decide +kernel) rfl
  | int x => rw [own_int_v o] at key ⊢; cases t <;> exact key "int" _ (.base (.int x)) (by decide +kernel) rfl
  | str x => rw [own_str_v o] at key ⊢; cases t <;> exact key "str" _ (.base (.str x)) (by decide +kernel) rfl
  | tup l =>
    obtain ⟨a, xs, rfl, tt, l1⟩ := own_tup_v o
    have ty : TyX X.K H (.ref a) (.type "tuple") := by
      rw [hK] at tt
      rcases tt with (q | ⟨ob, q⟩) | ⟨ob, its, n, q, c, _⟩
      · exact .base (.tup q)
      · exact .fTuple q
      · exact .kTuple q c
    cases t <;> exact key "tuple" _ ty (by decide +kernel) rfl
  | lst l =>
    obtain ⟨a, xs, rfl, s, tt, l1⟩ := own_lst_v o
    have ty : TyX X.K H (.ref a) (.type "list") := by
      rcases tt with q | ⟨ob, q⟩
      · exact .base (.lst q)
      · exact .base (.frz q)
    cases t <;> exact key "list" _ ty (by decide +kernel) rfl
  | dct ks vs =>
    cases ks with
    | nil =>
      unfold Own at o
      obtain ⟨a, xs, rfl, s, tt, e, l1⟩ := o
      have ty : TyX X.K H (.ref a) (.type "dict") := by
        rcases tt with ⟨u, ⟨kk, e1, rfl⟩ | ⟨kk, e0, _⟩, q | ⟨ob, q⟩⟩ | ⟨kk, as, e0, _⟩
        · exact .base (.dK q)
        · exact .fDict q
        · exact absurd rfl e0
        · exact absurd rfl e0
        · exact absurd rfl e0
      cases t <;> exact key "dict" _ ty (by decide +kernel) rfl
    | cons k ks =>
      have hd : isiD t (.dct (k :: ks) vs) = if ((k :: ks).mapM D.keyT).isSome then .ok (.bl (decide (t = .dict))) 0 else .bad := by cases t <;> rfl
      rw [hd] at h
      split at h
      · rename_i z
        obtain ⟨a, rfl, ⟨e, _, _⟩ | ⟨kk, as, xs, oe, _, e1, tt, _⟩⟩ := own_dctTT hP o z
        · cases e
        · refine .inr ⟨a, _, oe, t.name, decide (t = .dict), rfl, tt, ?_, h.val sz own_bl⟩
          cases t <;> decide +kernel
      · exact h.elim
  | obj _ _ _ => cases t <;> exact h.elim
  | exc _ _ => cases t <;> exact h.elim
theorem e_isi {x y : Str} {p p2 : Pos} (hK : g.K = X.K) (hP : g.P = X.prog ∧ g.w = X.w) (t : Ty) (hg : Gl X x) (hm : X.mg x = none) (hv : bootBuiltins x = some (.builtin "isinstance")) (hn : x ≠ "__name__") (hdb : (x == ("__debug__" : Str)) = false)
    (hg2 : Gl X y) (hm2 : X.mg y = none) (hv2 : bootBuiltins y = some (.type t.name)) (hn2 : y ≠ "__name__") (hdb2 : (y == ("__debug__" : Str)) = false) (hs : noStar a = true)
    (ha : PE X a (RdE g xg Γ W xa)) : PE X (.Call (.Name x p) [a, .Name y p2] [] pos) (RdE g xg Γ W (.isi xa t)) := by
  refine (pe_callB call_isi2 hg hm hv (pa_cons ha (pa_cons (pe_bltn (v := .ty t.name) hg2 hm2 hv2 rfl hn2 hdb2) pa_nil) (star_cons hs)) hn hdb (star_cons hs) rfl).imp fun σ H Q ⟨S, δ, rep, h⟩ => ?_
  unfold evE at h
  exact RdE.bind rep h fun d v H1 S1 rep1 f1 o1 h1 => isi_rule hK hP rep1.sz o1 h1

def RdO (g : G) (xg : XG) (Γ : Fe) (W : WX) (x : Ex) : TO := fun σ H Q => (x.isOmit = true ∧ Q none H) ∨ (x.isOmit = false ∧ RdE g xg Γ W x σ H fun v H1 => ∃ i, v = .int i ∧ Q (some i) H1)
theorem o_none : PO X none (RdO g xg Γ W .omit) := ⟨fun pins s σ H Q I h => po_none.run pins s σ H Q I (h.elim (fun h => h.2) fun h => Bool.noConfusion h.1)⟩
theorem o_some (hx : xa.isOmit = false) (ha : PE X a (RdE g xg Γ W xa)) : PO X (some a) (RdO g xg Γ W xa) :=
  ⟨fun pins s σ H Q I h => (po_some ha).run pins s σ H Q I (h.elim (fun h => by rw [hx] at h; exact Bool.noConfusion h.1) fun h => h.2)⟩
theorem optI_rf {σ : L2.St} {H : Hp} {S : Rg} {δ : Ev} {f : Option Int → Res} {Q : VK} {Q' : Option Int → Hp → Prop} (rep : Rep0 g H S δ σ) (h : RF g xg H S (optI (if xa.isOmit then none else some (evE Γ xa δ)) f) (fun c d H' => W c d σ H') Q)
    (k : ∀ i H1 S1, Rep0 g H1 S1 δ σ → Fw g.TB H H1 S S1 → RF g xg H1 S1 (f i) (fun c d H' => W c d σ H') Q → Q' i H1) : RdO g xg Γ W xa σ H Q' := by
  cases e : xa.isOmit with
  | true =>
    rw [e] at h
    exact .inl ⟨e, k none H S rep (Fw.refl rep.sz) h⟩
  | false =>
    rw [e] at h
    refine .inr ⟨e, RdE.bind rep h fun d v H1 S1 rep1 f1 o1 h1 => ?_⟩
    split at h1
    · exact ⟨_, own_int_v o1, k _ H1 S1 rep1 f1 h1⟩
    · exact h1.elim
theorem e_sl {lo hi : Option Expr} {xl xh : Ex} {p2 : Pos} (hK : g.K = X.K) (ha : PE X a (RdE g xg Γ W xa)) (hl : PO X lo (RdO g xg Γ W xl)) (hh : PO X hi (RdO g xg Γ W xh)) : PE X (.Subscript a (.Slice lo hi none p2) pos) (RdE g xg Γ W (.sl xa xl xh)) := by
  refine PE.pick fun σ H Q ⟨S, δ, rep, h⟩ => ⟨_, pe_slice (sl_sub (xg := xg) (W := fun c d H' => W c d σ H') hK) ha hl hh, ?_⟩
  unfold evE at h
  exact RdE.bind rep h fun d v H1 S1 rep1 f1 o1 h1 => optI_rf rep1 h1 fun i H2 S2 rep2 f2 h2 => optI_rf rep2 h2 fun j H3 S3 rep3 f3 h3 => ⟨S3, d, rep3.sz, (o1.fw f2 rep1.sz).fw f3 rep2.sz, h3⟩

theorem e_cmp2 (hK : g.K = X.K) (hP : g.P = X.prog ∧ g.w = X.w) (hu : X.A.units + 65 < cLine) (o q : Cop) (h1 : noSet c = true) (ha : PE X a (RdE g xg Γ W xa)) (hb : PE X b (RdE g xg Γ W xb)) (hc : PE X c (RdE g xg Γ W xc)) : PE X (.Compare a [o.op, q.op] [b, c] pos) (RdE g xg Γ W (.cmp2 o q xa xb xc)) := by
  refine PE.pick fun σ H Q ⟨S, δ, rep, h⟩ => ⟨_, pe_chain (op_cmp (xg := xg) (W := fun c d H' => W c d σ H') hK hP hu o) (op_cmp (xg := xg) (W := fun c d H' => W c d σ H') hK hP hu q) ha hb hc (noMark h1), ?_⟩
  unfold evE at h
  refine RdE.bind rep h fun d v H1 S1 rep1 f1 o1 h1 => RdE.bind rep1 h1 fun d2 v2 H2 S2 rep2 f2 o2 h2 => ⟨S2, d, d2, rep2.sz, o1.fw f2 rep1.sz, o2, ?_⟩
  refine RF.bind rep2.sz h2 fun k n u H3 S3 _ f3 o3 h3 => ?_
  split at h3
  · rw [own_bl_v o3]
    exact ⟨true, rfl, iteT (RdE.bind (rep2.fw f3) h3 fun d4 v4 H4 S4 rep4 f4 o4 h4 => ⟨S4, d2, d4, rep4.sz, (o2.fw f3 rep2.sz).fw f4 f3.sz, o4, h4⟩)⟩
  · rw [own_bl_v o3]
    exact ⟨false, rfl, iteF (h3.val f3.sz own_bl)⟩
  · exact h3.elim
section
variable {P : Program} {w : World} {A : Around} {E : Value → Shared → Prop} {s : Shared}
end
theorem RFT.bindF {σ : L2.St} {H : Hp} {S : Rg} {δ : Ev} {f : Bool → Res} {Q : VK} {Q' : Bool → Hp → Prop} (rep : Rep0 g H S δ σ) (h : RF g xg H S ((evT Γ xa δ).bind f) (fun c d H' => W c d σ H') Q)
    (k : ∀ b H1 S1, Rep0 g H1 S1 δ σ → Fw g.TB H H1 S S1 → RF g xg H1 S1 (f b) (fun c d H' => W c d σ H') Q → Q' b H1) : RdT g xg Γ W xa σ H Q' := by
  refine ⟨S, δ, rep, ?_⟩
  cases e : evT Γ xa δ with
  | ok b => rw [e] at h; exact fun H' S' f1 => k b H' S' (rep.fw f1) f1 (RF.fw f1 h)
  | exn x => rw [e] at h; exact h
  | bad => rw [e] at h; exact h
theorem e_ife (hc : PT X c (RdT g xg Γ W xc)) (ha : PE X a (RdE g xg Γ W xa)) (hb : PE X b (RdE g xg Γ W xb)) : PE X (.IfExp c a b pos) (RdE g xg Γ W (.ife xc xa xb)) :=
  (pe_ifExp hc ha hb).imp fun σ H Q ⟨S, δ, rep, h⟩ => by
    unfold evE at h
    refine RFT.bindF (xa := xc) rep h fun k H1 S1 rep1 f1 h1 => ?_
    cases k with
    | true => exact iteT ⟨S1, δ, rep1, h1⟩
    | false => exact iteF ⟨S1, δ, rep1, h1⟩

theorem RFT.bindTT {σ : L2.St} {H : Hp} {S : Rg} {δ : Ev} {f : D → RT} {Q : Bool → Hp → Prop} {Q' : VK} (rep : Rep0 g H S δ σ) (h : RFT g xg H S ((evE Γ xa δ).bindT f) (fun c d H' => W c d σ H') Q)
    (k : ∀ d v H1 S1, Rep0 g H1 S1 δ σ → Fw g.TB H H1 S S1 → Own g H1 S1 0 d v [] → RFT g xg H1 S1 (f d) (fun c d H' => W c d σ H') Q → Q' v H1) : RdE g xg Γ W xa σ H Q' :=
  ⟨S, δ, rep, RFT.bind rep.sz h fun d n v H1 S1 _ f1 o1 h1 => k d v H1 S1 (rep.fw f1) f1 o1 h1⟩
theorem bindT_bind (r : Res) (f : D → Res) (k : D → RT) : (r.bind f).bindT k = r.bindT fun d => (f d).bindT k := by cases r <;> rfl
/-- a comparison's end as a test -/
theorem tst_of {H : Hp} {S : Rg} {r : Res} {W : Value → Option Addr → Hp → Prop} {Q : Bool → Hp → Prop} (sz : ∀ a, S a → (H a).isSome = true) (hr : ∀ d n, r = .ok d n → ∃ k, d = .bl k) (h : RFT g xg H S (r.bindT truD) W Q) :
    RF g xg H S r W fun x H' => ∃ k, x = .bl k ∧ Q k H' := by
  cases r with
  | ok d n =>
    obtain ⟨k, rfl⟩ := hr d n rfl
    intro v H' S' T o
    exact ⟨k, own_bl_v o.own, h H' S' o.fw⟩
  | exn e => exact h
  | bad => exact h
theorem cmpD_bl {o : Cop} {x y d : D} {n : Nat} (h : cmpD o x y = .ok d n) : ∃ k, d = .bl k := by
  unfold cmpD at h
  split at h <;> first
    | (cases h; exact ⟨_, rfl⟩)
    | (split at h <;> first | (cases h; exact ⟨_, rfl⟩) | cases h | (split at h <;> first | (cases h; exact ⟨_, rfl⟩) | cases h))
    | cases h
theorem t_cmp (hK : g.K = X.K) (hP : g.P = X.prog ∧ g.w = X.w) (hu : X.A.units + 65 < cLine) (o : Cop) (hs : noSet b = true) (ha : PE X a (RdE g xg Γ W xa)) (hb : PE X b (RdE g xg Γ W xb)) : PT X (.Compare a [o.op] [b] pos) (RdT g xg Γ W (.cmp o xa xb)) := by
  refine ⟨fun pins s σ H Q I ⟨S, δ, rep, h⟩ => (pt_cmpR (op_cmp (xg := xg) (W := fun c d H' => W c d σ H') hK hP hu o) ha hb (noMark hs)).run pins s σ H Q I ?_⟩
  unfold evT evE at h
  rw [bindT_bind] at h
  refine RFT.bindTT rep h fun d v H1 S1 rep1 f1 o1 h1 => ?_
  rw [bindT_bind] at h1
  exact RFT.bindTT rep1 h1 fun d2 v2 H2 S2 rep2 f2 o2 h2 => ⟨S2, d, d2, rep2.sz, o1.fw f2 rep1.sz, o2, tst_of rep2.sz (fun _ _ e => cmpD_bl e) h2⟩
theorem t_cmp2 (hK : g.K = X.K) (hP : g.P = X.prog ∧ g.w = X.w) (hu : X.A.units + 65 < cLine) (o q : Cop) (h1 : noSet c = true) (ha : PE X a (RdE g xg Γ W xa)) (hb : PE X b (RdE g xg Γ W xb)) (hc : PE X c (RdE g xg Γ W xc)) : PT X (.Compare a [o.op, q.op] [b, c] pos) (RdT g xg Γ W (.cmp2 o q xa xb xc)) := by
  refine ⟨fun pins s σ H Q I ⟨S, δ, rep, h⟩ => (pt_chain (op_cmp (xg := xg) (W := fun c d H' => W c d σ H') hK hP hu o) (op_cmp (xg := xg) (W := fun c d H' => W c d σ H') hK hP hu q) ha hb hc (noMark h1)).run pins s σ H Q I ?_⟩
  unfold evT evE at h
  rw [bindT_bind] at h
  refine RFT.bindTT rep h fun d v H1 S1 rep1 f1 o1 h1 => ?_
  rw [bindT_bind] at h1
  refine RFT.bindTT rep1 h1 fun d2 v2 H2 S2 rep2 f2 o2 h2 => ⟨S2, d, d2, rep2.sz, o1.fw f2 rep1.sz, o2, ?_⟩
  rw [bindT_bind] at h2
  refine RFT.bind rep2.sz h2 fun k n u H3 S3 _ f3 o3 h3 => ?_
  split at h3
  · rw [own_bl_v o3]
    refine ⟨true, rfl, iteT ?_⟩
    rw [bindT_bind] at h3
    exact RFT.bindTT (rep2.fw f3) h3 fun d4 v4 H4 S4 rep4 f4 o4 h4 => ⟨S4, d2, d4, rep4.sz, (o2.fw f3 rep2.sz).fw f4 f3.sz, o4, tst_of rep4.sz (fun _ _ e => cmpD_bl e) h4⟩
  · rw [own_bl_v o3]
    exact ⟨false, rfl, iteF ⟨false, rfl, h3 H3 S3 (Fw.refl f3.sz)⟩⟩
  · exact h3.elim
theorem t_not (ha : PT X a (RdT g xg Γ W xa)) : PT X (.UnaryOp .Not a pos) (RdT g xg Γ W (.not xa)) :=
  (pt_not ha).imp fun σ H Q ⟨S, δ, rep, h⟩ => by
    refine ⟨S, δ, rep, ?_⟩
    unfold evT evE at h
    unfold evT
    cases e : evE Γ xa δ with
    | ok d n =>
      rw [e] at h
      simp only [Res.bind_ok] at h
      split at h
      · exact fun H' S' f => h H' S' f
      · exact h.elim
    | exn x => rw [e] at h; exact h
    | bad => rw [e] at h; exact h
theorem t_and {rest : List Expr} (ha : PT X a (RdT g xg Γ W xa)) (hb : PW X (.BoolOp .And (b :: rest) pos) (RdT g xg Γ W xb)) : PW X (.BoolOp .And (a :: b :: rest) pos) (RdT g xg Γ W (.and xa xb)) := by
  refine ⟨fun wh pins s σ H Q I ⟨S, δ, rep, h⟩ => (pw_and ha hb).run wh pins s σ H Q I ⟨S, δ, rep, ?_⟩⟩
  unfold evT evE at h
  unfold evT
  cases e : evE Γ xa δ with
  | ok d n =>
    rw [e] at h
    simp only [Res.bind_ok] at h
    split at h
    · exact fun H' S' f => iteT ⟨S', δ, rep.fw f, RFT.fw f h⟩
    · exact fun H' S' f => iteF (h H' S' f)
    · exact h.elim
  | exn x => rw [e] at h; exact h
  | bad => rw [e] at h; exact h
theorem t_or {rest : List Expr} (ha : PT X a (RdT g xg Γ W xa)) (hb : PW X (.BoolOp .Or (b :: rest) pos) (RdT g xg Γ W xb)) : PW X (.BoolOp .Or (a :: b :: rest) pos) (RdT g xg Γ W (.or xa xb)) := by
  refine ⟨fun wh pins s σ H Q I ⟨S, δ, rep, h⟩ => (pw_or ha hb).run wh pins s σ H Q I ⟨S, δ, rep, ?_⟩⟩
  unfold evT evE at h
  unfold evT
  cases e : evE Γ xa δ with
  | ok d n =>
    rw [e] at h
    simp only [Res.bind_ok] at h
    split at h
    · exact fun H' S' f => iteT (h H' S' f)
    · exact fun H' S' f => iteF ⟨S', δ, rep.fw f, RFT.fw f h⟩
    · exact h.elim
  | exn x => rw [e] at h; exact h
  | bad => rw [e] at h; exact h

theorem e_glo {x : Str} {k : Nat} {v : V} {u : Value} (hg : Gl X x) (hm : X.mg x = some u) (r : RelV v u) (hd : (x == ("__debug__" : Str)) = false) (ho : ∀ H S, Own g H S 0 (Γ.gl k) v []) : PE X (.Name x pos) (RdE g xg Γ W (.glo k)) :=
  (pe_glob hg hm r hd).imp fun σ H Q ⟨S, δ, rep, h⟩ => by unfold evE at h; exact h.val rep.sz (ho H S)
end
end PL
namespace PySem
open Sem (wp)
section
variable {prog : Program} {w : World} {A : Around} {E : Value → Shared → Prop} {s : Shared}
abbrev ZipAs (h : Heap) (z TI TO : Addr) (f0 f1 : Value) : Prop := h.get? z = some { cls := .type "zip", dict := none, data := .fields #[f0, f1, .bool false, .ref TI, .ref TO], slots := #[] }
theorem load_alive {a : Addr} {Q : Option Obj → Shared → Prop} (h : Q (s.heap.get? a) s) : wpAny (model prog w) A (loadIfAlive a) Q E s := fun _ _ _ => h
/-- a zip's next where the tuple that was given out is gone -/
theorem zip_gone {z TI TO T i1 i2 l1 l2 : Addr} {f : Bool} {k1 k2 : Nat} {xs ys : Array Value} {a b : Value} {Q : Fin → Shared → Prop} (D : ZipApart z TI TO i1 i2 l1 l2)
    (hz : ZipAs s.heap z TI TO (rawInt T) (.bool f)) (hT : s.heap.get? T = none) (hTI : IsPair s.heap TI (.ref i1) (.ref i2)) (hTO : IsPair s.heap TO a b)
    (h1 : s.heap.IsListIter i1 l1 k1) (h2 : s.heap.IsListIter i2 l2 k2) (hl1 : s.heap.IsList l1 xs) (hl2 : s.heap.IsList l2 ys) (hh : A.handled = none)
    (hQ : ∀ x y h', xs[k1]? = some x → ys[k2]? = some y → ZipAs h' z TI TO (rawInt s.heap.objs.size) (.bool false) → IsPair h' TO x y → h'.IsListIter i1 l1 (k1 + 1) → h'.IsListIter i2 l2 (k2 + 1) → IsPair h' s.heap.objs.size x y → h'.objs.size = s.heap.objs.size + 1 →
      (∀ c o, c ≠ z → c ≠ TO → c ≠ i1 → c ≠ i2 → s.heap.get? c = some o → h'.get? c = some o) → Q (.done (.ret (.ref s.heap.objs.size))) { s with heap := h' })
    (hE : xs[k1]? = none ∨ ys[k2]? = none → ∀ h' e, (∀ c o, c ≠ z → c ≠ TO → c ≠ i1 → c ≠ i2 → s.heap.get? c = some o → h'.get? c = some o) → (∃ o, h'.get? e = some o ∧ o.cls = .type "StopIteration") → E (.ref e) { s with heap := h' }) :
    wpAny (model prog w) A (Builtin.«zip.__next__» ⟨[.ref z], []⟩) Q E s := by
  have free : ∀ R : Bool → Shared → Prop, R true s → wpAny (model prog w) A (Builtin.SmallTypes.ownedTupleIsFree (.ref z)) R E s := fun R hr => by
    unfold Builtin.SmallTypes.ownedTupleIsFree
    refine wpAny_bind (wpAny_field hz rfl (x := rawInt T) rfl ?_)
    show wpAny _ _ (loadIfAlive ((T : Int).toNat) >>= _) _ _ _
    rw [Int.toNat_natCast]
    refine wpAny_bind (load_alive ?_)
    rw [hT]
    exact wpAny_pure hr
  show wpAny _ _ (field (.ref z) 2 >>= _) _ _ _
  refine wpAny_bind (wpAny_field hz rfl (x := .bool false) rfl ?_)
  show wpAny _ _ (field (.ref z) 3 >>= _) _ _ _
  refine wpAny_bind (wpAny_field hz rfl (x := .ref TI) rfl (wpAny_bind (wpAny_seqItems hTI rfl ?_)))
  refine wpAny_bind (free _ ?_)
  simp only [if_true]
  refine wpAny_bind (wpAny_rule (wpAny_bind (wpAny_field hz rfl (x := .ref TO) rfl (wpAny_bind (wpAny_setField_rec hz (by simp) fun g1 z1 c1 => ?_)))))
  replace z1 : ZipAs g1 z TI TO .ellipsis (.bool f) := z1
  refine wpAny_bind ?_
  simp only [List.zipIdx_cons, List.zipIdx_nil, List.forIn_cons, List.forIn_nil]
  have a1 := c1.extBut
  have b1 := h1.extBut a1 D.i1z
  have l1' := hl1.extBut a1 D.l1z
  have b2 := h2.extBut a1 D.i2z
  have l2' := hl2.extBut a1 D.l2z
  have t1 := a1 _ _ D.TOz hTO
  -- the first iterator
  refine wpAny_bind (wpAny_bind (wpAny_onRaise ?_))
  show wpAny _ _ (Builtin.SmallTypes.nextOf (.ref i1) >>= _) _ _ _
  cases hx : xs[k1]? with
  | none =>
    refine wpAny_bind (wpAny_nextOf_list_end hh b1 l1' hx fun g2 e a2 ⟨oe, ho, hc⟩ => ?_)
    have z2 : ZipAs g2 z TI TO .ellipsis (.bool f) := a2 _ _ D.i1z.symm z1
    have ne : e ≠ z := fun q => by
      subst q
      rw [z2] at ho
      cases ho
      simp at hc
    exact wpAny_setField_rec z2 (by simp) fun g3 _ c3 => hE (.inl hx) g3 e (fun c o q1 _ q3 _ y => c3.extBut _ _ q1 (a2 _ _ q3 (a1 _ _ q1 y))) ⟨oe, c3.extBut _ _ ne ho, hc⟩
  | some x =>
    refine wpAny_bind (wpAny_nextOf_list_item b1 l1' hx fun g2 b1' c2 => wpAny_pure ?_)
    have a2 := c2.extBut
    have t2 := a2 _ _ D.TOi1 t1
    refine wpAny_bind (wpAny_seqItems t2 rfl (wpAny_bind (wpAny_updateSeq_pair t2 fun g3 t3 c3 => ?_)))
    replace t3 : IsPair g3 TO x b := t3
    have a3 := c3.extBut
    refine wpAny_bind (wpAny_letGo (wpAny_pure ?_))
    have b2' := (b2.extBut a2 D.i12.symm).extBut a3 D.TOi2.symm
    have l2'' := (l2'.extBut a2 D.l2i1).extBut a3 D.l2TO
    have z3 : ZipAs g3 z TI TO .ellipsis (.bool f) := a3 _ _ D.TOz.symm (a2 _ _ D.i1z.symm z1)
    -- the second one
    refine wpAny_bind (wpAny_bind (wpAny_onRaise ?_))
    show wpAny _ _ (Builtin.SmallTypes.nextOf (.ref i2) >>= _) _ _ _
    cases hy : ys[k2]? with
    | none =>
      refine wpAny_bind (wpAny_nextOf_list_end hh b2' l2'' hy fun g4 e a4 ⟨oe, ho, hc⟩ => ?_)
      have z4 : ZipAs g4 z TI TO .ellipsis (.bool f) := a4 _ _ D.i2z.symm z3
      have ne : e ≠ z := fun q => by
        subst q
        rw [z4] at ho
        cases ho
        simp at hc
      exact wpAny_setField_rec z4 (by simp) fun g5 _ c5 => hE (.inr hy) g5 e (fun c o q1 q2 q3 q4 y => c5.extBut _ _ q1 (a4 _ _ q4 (a3 _ _ q2 (a2 _ _ q3 (a1 _ _ q1 y))))) ⟨oe, c5.extBut _ _ ne ho, hc⟩
    | some y =>
      refine wpAny_bind (wpAny_nextOf_list_item b2' l2'' hy fun g4 b2'' c4 => wpAny_pure ?_)
      have a4 := c4.extBut
      have t4 := a4 _ _ D.TOi2 t3
      refine wpAny_bind (wpAny_seqItems t4 rfl (wpAny_bind (wpAny_updateSeq_pair t4 fun g5 t5 c5 => ?_)))
      replace t5 : IsPair g5 TO x y := t5
      have a5 := c5.extBut
      refine wpAny_bind (wpAny_letGo (wpAny_pure (wpAny_pure ?_)))
      have z5 : ZipAs g5 z TI TO .ellipsis (.bool f) := a5 _ _ D.TOz.symm (a4 _ _ D.i2z.symm z3)
      have sz : g5.objs.size = s.heap.objs.size := by rw [c5.1, c4.1, c3.1, c2.1, c1.1]
      have kp : ∀ c o, c ≠ z → c ≠ TO → c ≠ i1 → c ≠ i2 → s.heap.get? c = some o → g5.get? c = some o := fun c o q1 q2 q3 q4 y => a5 _ _ q2 (a4 _ _ q4 (a3 _ _ q2 (a2 _ _ q3 (a1 _ _ q1 y))))
      have d1 := ((b1'.extBut a3 D.TOi1.symm).extBut a4 D.i12).extBut a5 D.TOi1.symm
      have d2 := b2''.extBut a5 D.TOi2.symm
      refine wpAny_bind (wpAny_seqItems t5 rfl (wpAny_bind (wpAny_newTuple ?_)))
      show wpAny _ _ (Builtin.SmallTypes.ownedTupleHandOut (.ref z) (.ref g5.objs.size) >>= _) _ _ _
      refine wpAny_bind ?_
      unfold Builtin.SmallTypes.ownedTupleHandOut
      have z6 : ZipAs (g5.push { cls := .type "tuple", data := .seq #[x, y] }) z TI TO .ellipsis (.bool f) := Heap.get?_push_of_some _ z5
      refine wpAny_bind (wpAny_setField_rec z6 (by simp) fun g7 z7 c7 => ?_)
      replace z7 : ZipAs g7 z TI TO (rawInt g5.objs.size) (.bool f) := z7
      refine wpAny_setField_rec z7 (by simp) fun g8 z8 c8 => ?_
      replace z8 : ZipAs g8 z TI TO (rawInt g5.objs.size) (.bool false) := z8
      have up : ∀ c o, c ≠ z → g5.get? c = some o → g8.get? c = some o := fun c o q y => c8.extBut _ _ q (c7.extBut _ _ q (Heap.get?_push_of_some _ y))
      have gt : g5.objs.size ≠ z := Nat.ne_of_gt (Heap.lt_size z5)
      have new : IsPair g8 g5.objs.size x y := c8.extBut _ _ gt (c7.extBut _ _ gt (Heap.get?_push_size _ rfl))
      have sz8 : g8.objs.size = g5.objs.size + 1 := by rw [c8.1, c7.1, Heap.size_push]
      rw [sz] at z8 new sz8
      refine wpAny_pure ?_
      show Q (.done (.ret (.ref g5.objs.size))) _
      rw [sz]
      exact hQ x y g8 hx hy z8 (up _ _ D.TOz t5) (d1.at fun o q => up _ o D.i1z q) (d2.at fun o q => up _ o D.i2z q) new sz8 fun c o q1 q2 q3 q4 y => up c o q1 (kp c o q1 q2 q3 q4 y)
/-- a zip of two lists behind k turns -/
structure ZipAt (h : Heap) (z TI TO i1 i2 l1 l2 : Addr) (k : Nat) : Prop where
  ti : IsPair h TI (.ref i1) (.ref i2)
  to_ : ∃ a b, IsPair h TO a b
  j1 : h.IsListIter i1 l1 k
  j2 : h.IsListIter i2 l2 k
  zz : IsZip h z TI TO .none ∨ ∃ (T : Addr) (f : Bool), ZipAs h z TI TO (rawInt T) (.bool f)
theorem zip_turn {z TI TO i1 i2 l1 l2 : Addr} {k : Nat} {xs ys : Array Value} {Q : Value → Shared → Prop} (D : ZipApart z TI TO i1 i2 l1 l2) (Z : ZipAt s.heap z TI TO i1 i2 l1 l2 k)
    (hl1 : s.heap.IsList l1 xs) (hl2 : s.heap.IsList l2 ys) (hh : A.handled = none)
    (hQ : ∀ x y h', xs[k]? = some x → ys[k]? = some y → ZipAt h' z TI TO i1 i2 l1 l2 (k + 1) → IsPair h' s.heap.objs.size x y → h'.objs.size = s.heap.objs.size + 1 →
      (∀ c o, c ≠ z → c ≠ TO → c ≠ i1 → c ≠ i2 → s.heap.get? c = some o → h'.get? c = some o) → Q (.ref s.heap.objs.size) { s with heap := h' })
    (hE : xs[k]? = none ∨ ys[k]? = none → ∀ h' e, (∀ c o, c ≠ z → c ≠ TO → c ≠ i1 → c ≠ i2 → s.heap.get? c = some o → h'.get? c = some o) → (∃ o, h'.get? e = some o ∧ o.cls = .type "StopIteration") → E (.ref e) { s with heap := h' }) :
    wpAny (model prog w) A (Builtin.SmallTypes.nextOf (.ref z)) Q E s := by
  obtain ⟨ti, ⟨a, b, to_⟩, j1, j2, zz⟩ := Z
  have hT : s.TypeIs (.ref z) "zip" := by
    rcases zz with q | ⟨T, f, q⟩
    · exact ⟨_, q, rfl⟩
    · exact ⟨_, q, rfl⟩
  have ends : (∃ x y, xs[k]? = some x ∧ ys[k]? = some y) ∨ (xs[k]? = none ∨ ys[k]? = none) := by
    cases hx : xs[k]? with
    | none => exact .inr (.inl rfl)
    | some x =>
      cases hy : ys[k]? with
      | none => exact .inr (.inr rfl)
      | some y => exact .inl ⟨x, y, rfl, rfl⟩
  unfold Builtin.SmallTypes.nextOf
  refine wpAny_bind (wpAny_callSpecial?_slot (name := Str.ofString "__next__") hT F.slot_zip_next (wpAny_call_entry F.slot_zip_next hT F.entry_zip_next ?_ (F.args_zip_next_1 _)))
  rcases zz with q | ⟨T, f, q⟩
  · rcases ends with ⟨x, y, hx, hy⟩ | hend
    · refine zip_next_item D q ti to_ j1 j2 hl1 hl2 hx hy fun h' z' t' j1' j2' p' sz kp => wpAny_pure ?_
      exact hQ x y h' hx hy ⟨kp _ _ D.TIz D.TITO D.TIi1 D.TIi2 ti, ⟨_, _, t'⟩, j1', j2', .inr ⟨_, false, z'⟩⟩ p' sz kp
    · exact zip_next_end hh D q ti to_ j1 j2 hl1 hl2 hend fun h' e kp ho => hE hend h' e kp ho
  · cases al : s.heap.get? T with
    | some oT =>
      rcases ends with ⟨x, y, hx, hy⟩ | hend
      · refine zip_next_item_held D (f := f) q al ti j1 j2 hl1 hl2 hx hy fun h' z' j1' j2' p' sz kp => wpAny_pure ?_
        exact hQ x y h' hx hy ⟨kp _ _ D.TIz D.TIi1 D.TIi2 ti, ⟨_, _, kp _ _ D.TOz D.TOi1 D.TOi2 to_⟩, j1', j2', .inr ⟨_, true, z'⟩⟩ p' sz fun c o c1 _ c3 c4 e => kp c o c1 c3 c4 e
      · exact zip_next_end_held hh D (f := f) q al ti j1 j2 hl1 hl2 hend fun h' e kp ho => hE hend h' e (fun c o c1 _ c3 c4 e => kp c o c1 c3 c4 e) ho
    | none =>
      refine zip_gone D q al ti to_ j1 j2 hl1 hl2 hh (fun x y h' hx hy z' t' j1' j2' p' sz kp => ⟨_, rfl, wpAny_pure ?_⟩) hE
      exact hQ x y h' hx hy ⟨kp _ _ D.TIz D.TITO D.TIi1 D.TIi2 ti, ⟨_, _, t'⟩, j1', j2', .inr ⟨_, false, z'⟩⟩ p' sz kp
theorem ZipAt.of {z TI TO i1 i2 l1 l2 : Addr} {k : Nat} {h h' : Heap} (Z : ZipAt h z TI TO i1 i2 l1 l2 k) (kp : ∀ c ∈ [z, TI, TO, i1, i2], ∀ o, h.get? c = some o → h'.get? c = some o) : ZipAt h' z TI TO i1 i2 l1 l2 k := by
  obtain ⟨ti, ⟨a, b, to_⟩, j1, j2, zz⟩ := Z
  refine ⟨kp TI (by simp) _ ti, ⟨a, b, kp TO (by simp) _ to_⟩, j1.at fun o q => kp i1 (by simp) o q, j2.at fun o q => kp i2 (by simp) o q, ?_⟩
  rcases zz with q | ⟨T, f, q⟩
  · exact .inl (kp z (by simp) _ q)
  · exact .inr ⟨T, f, kp z (by simp) _ q⟩
theorem ZipAt.there {z TI TO i1 i2 l1 l2 : Addr} {k : Nat} {h : Heap} (Z : ZipAt h z TI TO i1 i2 l1 l2 k) : ∀ c ∈ [z, TI, TO, i1, i2], ∃ o, h.get? c = some o ∧ ∀ v, o.data ≠ .cell v := by
  obtain ⟨ti, ⟨a, b, to_⟩, ⟨o1, e1, _, d1⟩, ⟨o2, e2, _, d2⟩, zz⟩ := Z
  intro c hc
  simp only [List.mem_cons, List.not_mem_nil, or_false] at hc
  rcases hc with rfl | rfl | rfl | rfl | rfl
  · rcases zz with q | ⟨T, f, q⟩
    · exact ⟨_, q, fun v q => nomatch q⟩
    · exact ⟨_, q, fun v q => nomatch q⟩
  · exact ⟨_, ti, fun v q => nomatch q⟩
  · exact ⟨_, to_, fun v q => nomatch q⟩
  · exact ⟨o1, e1, fun v q => by rw [d1] at q; cases q⟩
  · exact ⟨o2, e2, fun v q => by rw [d2] at q; cases q⟩
/-- enumerate's next over such a zip -/
theorem ez_item {e z TI TO i1 i2 l1 l2 : Addr} {k : Nat} {old : Value} {xs ys : Array Value} {Q : Option Value → Shared → Prop} (D : ZipApart z TI TO i1 i2 l1 l2) (he : IsEnum s.heap e z k old) (hn : e ∉ [z, TI, TO, i1, i2])
    (Z : ZipAt s.heap z TI TO i1 i2 l1 l2 k) (hl1 : s.heap.IsList l1 xs) (hl2 : s.heap.IsList l2 ys) (hh : A.handled = none) {x y : Value} (hx : xs[k]? = some x) (hy : ys[k]? = some y)
    (hQ : ∀ h' tk, IsEnumOut h' e z ((k : Int) + 1) (.ref s.heap.objs.size) (s.heap.objs.size + 1) → ZipAt h' z TI TO i1 i2 l1 l2 (k + 1) → IsPair h' s.heap.objs.size x y →
      h'.get? (s.heap.objs.size + 1) = some { cls := .type "tuple", data := .seq #[.int k tk, .ref s.heap.objs.size] } → h'.objs.size = s.heap.objs.size + 2 →
      (∀ c o, c ≠ e → c ≠ z → c ≠ TO → c ≠ i1 → c ≠ i2 → s.heap.get? c = some o → h'.get? c = some o) → Q (some (.ref (s.heap.objs.size + 1))) { s with heap := h', toks := tk + 1 }) :
    wpAny (model prog w) A (pyNext (.ref e)) Q E s := by
  have hT : s.TypeIs (.ref e) "enumerate" := ⟨_, he, rfl⟩
  simp only [List.mem_cons, List.not_mem_nil, or_false, not_or] at hn
  obtain ⟨nz, nTI, nTO, n1, n2⟩ := hn
  unfold pyNext
  refine wpAny_bind (wpAny_attempt (wpAny_callSpecial?_slot (name := Str.ofString "__next__") hT F.slot_enumerate_next (wpAny_call_entry F.slot_enumerate_next hT F.entry_enumerate_next ?_ (F.args_enumerate_next_1 _))))
  obtain ⟨hp, g, d, tk0, os⟩ := s
  show wpAny _ _ (field (.ref e) 2 >>= _) _ _ _
  refine wpAny_bind (wpAny_field he rfl (x := .ref z) rfl (wpAny_bind (zip_turn D Z hl1 hl2 (by simp [hh]) (fun x' y' g1 hx' hy' Z1 p1 sz1 kp1 => ?_) fun hend => ?_)))
  · have ex := hx'.symm.trans hx
    have ey := hy'.symm.trans hy
    cases ex
    cases ey
    have e1 : IsEnum g1 e z k old := kp1 _ _ nz nTO n1 n2 he
    have elt : e < hp.objs.size := Heap.lt_size he
    show wpAny _ _ (field (.ref e) 3 >>= _) _ _ _
    refine wpAny_bind (wpAny_field e1 rfl (x := rawInt k) rfl ?_)
    show wpAny _ _ (field (.ref e) 4 >>= _) _ _ _
    refine wpAny_bind (wpAny_field e1 rfl (x := .none) rfl ?_)
    show wpAny _ _ (mkInt k >>= _) _ _ _
    refine wpAny_bind (wpAny_mkInt ?_)
    show wpAny _ _ (setField (.ref e) 3 (rawInt ((k : Int) + 1)) >>= _) _ _ _
    refine wpAny_bind (wpAny_setField_rec e1 (by simp) fun g2 e2 c2 => ?_)
    replace e2 : IsEnum g2 e z ((k : Int) + 1) old := e2
    show wpAny _ _ (setField (.ref e) 4 .none >>= _) _ _ _
    refine wpAny_bind (wpAny_setField_rec e2 (by simp) fun g3 e3 c3 => ?_)
    replace e3 : IsEnum g3 e z ((k : Int) + 1) old := e3
    have s3 : g3.objs.size = hp.objs.size + 1 := by rw [c3.1, c2.1]; exact sz1
    show wpAny _ _ (newTuple [.int k tk0, .ref hp.objs.size] >>= _) _ _ _
    refine wpAny_bind (wpAny_newTuple ?_)
    have e4 : IsEnum (g3.push { cls := .type "tuple", data := .seq #[.int k tk0, .ref hp.objs.size] }) e z ((k : Int) + 1) old := Heap.get?_push_of_some _ e3
    have p4 : (g3.push { cls := .type "tuple", data := .seq #[.int k tk0, .ref hp.objs.size] }).get? g3.objs.size = some { cls := .type "tuple", data := .seq #[.int k tk0, .ref hp.objs.size] } := Heap.get?_push_size _ rfl
    have k4 : ∀ c o, c ≠ e → g1.get? c = some o → (g3.push { cls := .type "tuple", data := .seq #[.int k tk0, .ref hp.objs.size] }).get? c = some o := fun c o q y => Heap.get?_push_of_some _ (c3.extBut _ _ q (c2.extBut _ _ q y))
    have s4 : (g3.push { cls := .type "tuple", data := .seq #[.int k tk0, .ref hp.objs.size] }).objs.size = hp.objs.size + 2 := by rw [Heap.size_push, s3]
    generalize g3.push { cls := .type "tuple", data := .seq #[.int k tk0, .ref hp.objs.size] } = g4 at e4 p4 k4 s4 ⊢
    rw [s3] at p4 ⊢
    show wpAny _ _ (Builtin.SmallTypes.ownedTupleIsFree (.ref e) >>= _) _ _ _
    refine wpAny_bind ?_
    unfold Builtin.SmallTypes.ownedTupleIsFree
    refine wpAny_bind (wpAny_field e4 rfl (x := .none) rfl (wpAny_pure ?_))
    simp only [if_true]
    refine wpAny_bind (wpAny_rule (wpAny_bind (wpAny_field e4 rfl (x := old) rfl (wpAny_bind (wpAny_setField_rec e4 (by simp) fun g5 e5 c5 => ?_)))))
    replace e5 : IsEnum g5 e z ((k : Int) + 1) (.ref hp.objs.size) := e5
    show wpAny _ _ (Builtin.SmallTypes.ownedTupleHandOut (.ref e) (.ref (hp.objs.size + 1)) >>= _) _ _ _
    refine wpAny_bind ?_
    unfold Builtin.SmallTypes.ownedTupleHandOut
    refine wpAny_bind (wpAny_setField_rec e5 (by simp) fun g6 e6 c6 => ?_)
    replace e6 : IsEnumOut g6 e z ((k : Int) + 1) (.ref hp.objs.size) (hp.objs.size + 1) := e6
    refine wpAny_setField_rec e6 (by simp) fun g7 e7 c7 => ?_
    replace e7 : IsEnumOut g7 e z ((k : Int) + 1) (.ref hp.objs.size) (hp.objs.size + 1) := e7
    have up : ∀ c o, c ≠ e → g4.get? c = some o → g7.get? c = some o := fun c o q y => c7.extBut _ _ q (c6.extBut _ _ q (c5.extBut _ _ q y))
    refine wpAny_bind (wpAny_letGo (wpAny_pure ⟨_, rfl, wpAny_pure (hQ g7 tk0 e7 ?_ ?_ ?_ ?_ ?_)⟩))
    · refine Z1.of fun c hc o q => ?_
      have ce : c ≠ e := fun q => by
        subst q
        simp only [List.mem_cons, List.not_mem_nil, or_false] at hc
        rcases hc with q | q | q | q | q
        · exact nz q
        · exact nTI q
        · exact nTO q
        · exact n1 q
        · exact n2 q
      exact up _ _ ce (k4 _ _ ce q)
    · exact up _ _ (Nat.ne_of_gt elt) (k4 _ _ (Nat.ne_of_gt elt) p1)
    · exact up _ _ (Nat.ne_of_gt (Nat.lt_succ_of_lt elt)) p4
    · rw [c7.1, c6.1, c5.1, s4]
    · exact fun c o q1 q2 q3 q4 q5 y => up _ _ q1 (k4 _ _ q1 (kp1 c o q2 q3 q4 q5 y))
  · rcases hend with q | q
    · rw [hx] at q; cases q
    · rw [hy] at q; cases q
theorem ez_end {e z TI TO i1 i2 l1 l2 : Addr} {k : Nat} {old : Value} {xs ys : Array Value} {Q : Option Value → Shared → Prop} (D : ZipApart z TI TO i1 i2 l1 l2) (he : IsEnum s.heap e z k old)
    (Z : ZipAt s.heap z TI TO i1 i2 l1 l2 k) (hl1 : s.heap.IsList l1 xs) (hl2 : s.heap.IsList l2 ys) (hh : A.handled = none) (hend : xs[k]? = none ∨ ys[k]? = none)
    (hQ : ∀ h', (∀ c o, c ≠ z → c ≠ TO → c ≠ i1 → c ≠ i2 → s.heap.get? c = some o → h'.get? c = some o) → Q none { s with heap := h' }) : wpAny (model prog w) A (pyNext (.ref e)) Q E s := by
  have hT : s.TypeIs (.ref e) "enumerate" := ⟨_, he, rfl⟩
  unfold pyNext
  refine wpAny_bind (wpAny_attempt (wpAny_callSpecial?_slot (name := Str.ofString "__next__") hT F.slot_enumerate_next (wpAny_call_entry F.slot_enumerate_next hT F.entry_enumerate_next ?_ (F.args_enumerate_next_1 _))))
  show wpAny _ _ (field (.ref e) 2 >>= _) _ _ _
  refine wpAny_bind (wpAny_field he rfl (x := .ref z) rfl (wpAny_bind (zip_turn D Z hl1 hl2 (by simp [hh]) (fun x y h' hx hy _ _ _ _ => ?_) fun _ h' e kp ⟨o, ho, hc⟩ => ?_)))
  · rcases hend with q | q
    · rw [hx] at q; cases q
    · rw [hy] at q; cases q
  · refine wpAny_bind (wpAny_isInstance (T := "StopIteration") (b := true) ⟨o, ho, hc⟩ isSubtype_stop ?_)
    exact wpAny_pure (hQ _ kp)
end
end PySem

namespace PySem
open Sem (wp)
open AutoSeq1 (wpAny_loadPart')
/-- enumerate(z) of a zip -/
theorem meets_enum_zip (z TI TO : Addr) :
    Meets (Builtin.«enumerate.__new__» ⟨[.type "enumerate", .ref z], []⟩) (fun _ R s => IsZip s.heap z TI TO .none ∧
      R (.ok (.ret (.ref s.heap.objs.size))) { s with heap := s.heap.push { cls := .type "enumerate", data := .fields #[.none, .bool false, .ref z, rawInt 0, .none, .none] } }) :=
  .of_wp fun prog w A R s h => by
    obtain ⟨hp, g, d, tk, os⟩ := s; obtain ⟨hz, h⟩ := h
    have hsub := sub_enumerate
    have hZ : IsZip (Shared.heap ⟨hp, g, d, tk, os⟩) z TI TO .none := hz
    wp_walk using wpAny_loadPart' hz
    refine wpAny_stack_any fun st => wpAny_pure ?_
    split
    · rename_i c _ _ _ _ _
      cases (c == Value.type "enumerate")
      · wp_walk using wpAny_loadPart' hz, wpAny_pyIter_zip hZ
        exact ⟨_, rfl, h⟩
      · wp_walk using wpAny_loadPart' hz, wpAny_pyIter_zip hZ
        exact ⟨_, rfl, h⟩
    · wp_walk using wpAny_loadPart' hz, wpAny_pyIter_zip hZ
      exact ⟨_, rfl, h⟩
section
variable {prog : Program} {w : World} {A : Around} {E : Value → Shared → Prop} {s : Shared}
theorem call_enum_zip {z TI TO : Addr} {Q : Value → Shared → Prop} (hz : IsZip s.heap z TI TO .none)
    (h : ∀ h', IsEnum h' s.heap.objs.size z 0 .none → h'.objs.size = s.heap.objs.size + 1 → (∀ b o, s.heap.get? b = some o → h'.get? b = some o) → Q (.ref s.heap.objs.size) { s with heap := h' }) :
    wpAny (model prog w) A (call (.type "enumerate") [.ref z]) Q E s := by
  refine callType_new F.called_enumerate (by decide) (F.typeCall_enumerate_1 _) (F.newCall_enumerate_1 _) (fun obj => F.args_object_init_2 obj _) F.entry_enumerate_new
    (meets_enum_zip z TI TO) ⟨hz, ?_⟩
  have he : IsEnum (s.heap.push { cls := .type "enumerate", data := .fields #[.none, .bool false, .ref z, rawInt 0, .none, .none] }) s.heap.objs.size z 0 .none := Heap.get?_push_size _ rfl
  exact ⟨⟨_, he, rfl⟩, h _ he (Heap.size_push ..) fun b o x => Heap.get?_push_of_some _ x⟩
end
end PySem
namespace PL
open PySem L2 PyProof.Rows
section
variable {g : G} {xg : XG} {Γ : Fe} {X : Cx} {W : WX} {a b c : Expr} {xa xb xc : Ex} {pos : Pos}

/-- the region's nodes and the tuples are as they were -/
structure Kz (H H' : Hp) (S : Rg) : Prop where
  frz : ∀ a, S a → ∀ o, H a = some o → nTb o → H' a = some o
  tup : TupS H H'
theorem Kz.rd {H H' : Hp} {S : Rg} {a : Addr} {u : HO} (k : Kz H H' S) (s : S a) (h : Rd H a u) (n : nTb u := by first | exact nTb_lst | exact nTb_tup | exact nTb_dK | exact nTb_dTo) : Rd H' a u := by
  rcases h with h | ⟨o, h⟩
  · exact .inl (k.frz a s _ h n)
  · exact .inr ⟨o, k.frz a s _ h nTb_frz⟩
theorem Kz.own {H H' : Hp} {S : Rg} {d : D} {v : V} (k : Kz H H' S) (o : Own g H S 0 d v []) : Own g H' S 0 d v [] := o.keep ⟨(fun a h => nomatch h), fun a q => ⟨q, k.frz a q⟩, k.tup⟩
theorem Kz.ownL {H H' : Hp} {S : Rg} {d : List D} {v : List V} (k : Kz H H' S) (o : OwnL g H S 0 d v []) : OwnL g H' S 0 d v [] := o.keep ⟨(fun a h => nomatch h), fun a q => ⟨q, k.frz a q⟩, k.tup⟩
theorem Kz.refl {H : Hp} {S : Rg} : Kz H H S := ⟨fun _ _ _ h _ => h, .refl⟩
/-- an item: of a walk that yields pairs the pair itself may be less known -/
def OwnI (g : G) (H : Hp) (S : Rg) (pr : Bool) (d : D) (v : V) : Prop := Own g H S 0 d v [] ∨ (pr = true ∧ ∃ l a xs, d = .tup l ∧ v = .ref a ∧ SqT g.K H a xs ∧ OwnL g H S 0 l xs [])
theorem OwnI.keep {H H' : Hp} {S S' : Rg} {pr : Bool} {d : D} {v : V} (o : OwnI g H S pr d v) (k : Kp H H' S S' []) : OwnI g H' S' pr d v := by
  rcases o with o | ⟨hp, l, a, xs, rfl, rfl, t, ol⟩
  · exact .inl (o.keep k)
  · exact .inr ⟨hp, l, a, xs, rfl, rfl, k.seqT t, ol.keep k⟩
theorem OwnI.imm {H : Hp} {S R : Rg} {pr : Bool} {d : D} {v : V} (i : immB 0 d = true) (o : OwnI g H S pr d v) : OwnI g H R pr d v := by
  rcases o with o | ⟨hp, l, a, xs, rfl, rfl, t, ol⟩
  · exact .inl (Own.imm (Nat.le_refl 0) i o)
  · exact .inr ⟨hp, l, a, xs, rfl, rfl, t, OwnL.imm (Nat.le_refl 0) (by simpa only [immB] using i) ol⟩
theorem OwnI.tup {H : Hp} {S : Rg} {pr : Bool} {l : List D} {v : V} (o : OwnI g H S pr (.tup l) v) : ∃ a xs, v = .ref a ∧ SqT g.K H a xs ∧ OwnL g H S 0 l xs [] := by
  rcases o with o | ⟨_, _, a, xs, e, rfl, t, ol⟩
  · exact own_tup_v o
  · cases e
    exact ⟨a, xs, rfl, t, ol⟩
theorem inv_dTo {pins : List (Addr × Obj)} {σ : L2.St} {H : Hp} {s : Shared} {d : Addr} {kas : List KA} {o : Obj} (I : Inv X pins σ H s) (h : Rd H d (dTo X.prog X.w d kas o)) :
    (d == sysModules) = false ∧ s.heap.get? d = some o ∧ o.ExactDict ∧ ∃ es ep, o.data = .dict es ep ∧ es.size = kas.length ∧ ∀ (i : Nat) (p : KA), kas[i]? = some p → ∃ en : DictEntry, es[i]? = some en ∧ en.key = .ref p.2.1 ∧ RelV p.2.2 en.val := by
  have x := h.ok I.hok
  obtain ⟨z, sys, xs, o', es, ep, rel, D⟩ := dTo_ok x
  have e := dTo_at x
  have e2 := D.at_
  rw [e] at e2
  cases e2
  refine ⟨sys, e, D.ex, es, ep, D.data, by rw [size_of_entries D.ent, rel.len], fun i p hp => ?_⟩
  obtain ⟨q, hq, h1, h2, h3⟩ := paired_get rel hp
  have qe := entry_at D.ent i
  rw [hq] at qe
  exact ⟨_, qe, by rw [h2]; rfl, h3⟩
/-- the keys' own tuples -/
def Itko (P : Program) (w : World) (d : Addr) (kas : List KA) (o : Obj) : It :=
  ⟨fun i H => Rd H d (dTo P w d kas o) ∧ i < kas.length, fun i H x H' => H' = H ∧ ∃ p, kas[i]? = some p ∧ x = .ref p.2.1, fun i H => Rd H d (dTo P w d kas o) ∧ kas.length ≤ i⟩
/-- the pairs, each a new tuple -/
def Itio (P : Program) (w : World) (d : Addr) (kas : List KA) (o : Obj) : It :=
  ⟨fun i H => Rd H d (dTo P w d kas o) ∧ i < kas.length, fun i H x H' => ∃ T p, kas[i]? = some p ∧ x = .ref T ∧ H T = none ∧ H' = upd H T (.tup [.ref p.2.1, p.2.2]), fun i H => Rd H d (dTo P w d kas o) ∧ kas.length ≤ i⟩
theorem turn_ko {P : Program} {w : World} {K : PySem.W.Frag} {tg : Expr} {d : Addr} {o : Obj} {es : Array DictEntry} {ep : Nat} {kas : List KA} (it : Addr) (hod : o.data = .dict es ep) : Turn P w K tg (Itko P w d kas o) [it] it (fun i h => h.IsKeyIter it d i kas.length ep) where
  mem := by simp
  obj := fun i h st b hb => by
    have e : b = it := by simpa using hb
    subst e
    obtain ⟨oi, e, c, dd⟩ := st
    exact ⟨oi, e, fun v z => by rw [dd] at z; cases z⟩
  keep := fun i h h' st k => st.at fun oi e => k it (by simp) oi e
  item := by
    intro X hP hw hK hc i pins s σ H E I hf st hg
    subst hP hw hK
    obtain ⟨hd, hi⟩ := hg
    obtain ⟨f0, f1, f2, f3, f4, f5⟩ := hf it (by simp)
    obtain ⟨hs, hgd, hx, es', ep', hdt, hsz, ent⟩ := inv_dTo I hd
    obtain ⟨rfl, rfl⟩ := dict_ep hod hdt
    obtain ⟨p, hp⟩ : ∃ p, kas[i]? = some p := ⟨kas[i], List.getElem?_eq_getElem hi⟩
    obtain ⟨en, hen, hkey, _⟩ := ent i p hp
    refine next_key_item st hgd hdt hsz hen fun h' st' sb => ?_
    have I1 : Inv X pins σ H { s with heap := h' } := I.turned (t' := s.toks) (fun b ob hb e => (sb.2 b hb).trans e) f0 f1 f3 f4 f5
    obtain ⟨oi, e, c, dd⟩ := id st'
    exact ⟨en.key, rfl, go_of (s := { s with heap := h' }) e c dd (by decide) ⟨.ref p.2.1, H, I1, hkey, ⟨rfl, p, hp, rfl⟩, st', fun b hb => (hf b hb).1⟩⟩
  done := by
    intro X hP hw hK hc i pins s σ H E I hf st hg
    subst hP hw hK
    obtain ⟨hd, hi⟩ := hg
    obtain ⟨f0, f1, f2, f3, f4, f5⟩ := hf it (by simp)
    obtain ⟨hs, hgd, hx, es', ep', hdt, hsz, ent⟩ := inv_dTo I hd
    obtain ⟨rfl, rfl⟩ := dict_ep hod hdt
    exact next_key_end (I.ok.hd hc) st hgd hdt hsz hi fun h' eb => ⟨rfl, I.turned (t' := s.toks) (fun b ob hb e => eb b ob hb e) f0 f1 f3 f4 f5⟩
  self := fun A i s Q E st h => by
    refine wpAny_pyIter_slot st.typeIs F.slot_dict_keyiterator_iter (wpAny_call_entry F.slot_dict_keyiterator_iter st.typeIs F.entry_dict_keyiterator_iter ?_ (F.args_dict_keyiterator_iter_1 _))
    show wpAny _ _ (ret (.ref it)) _ _ s
    exact wpAny_pure ⟨_, rfl, "dict_keyiterator", _, st.typeIs, F.slot_dict_keyiterator_next.lookup, h⟩
theorem turn_io {P : Program} {w : World} {K : PySem.W.Frag} {d : Addr} {o : Obj} {es : Array DictEntry} {ep : Nat} {kas : List KA} {elts : List Expr} {kk : Nat} {tpos : Pos} (it : Addr) (hod : o.data = .dict es ep) :
    Turn P w K (.Tuple elts kk tpos) (Itio P w d kas o) [it] it (fun i h => ∃ ok ov, IsItemIter h it d i kas.length ep ok ov) where
  mem := by simp
  obj := fun i h st b hb => by
    have e : b = it := by simpa using hb
    subst e
    obtain ⟨ok, ov, e⟩ := st
    exact ⟨_, e, fun v z => nomatch z⟩
  keep := fun i h h' st k => let ⟨ok, ov, e⟩ := st; ⟨ok, ov, k it (by simp) _ e⟩
  item := by
    intro X hP hw hK hc i pins s σ H E I hf st hg
    subst hP hw hK
    obtain ⟨hd, hi⟩ := hg
    obtain ⟨hs, hgd, hx, es', ep', hdt, hsz, ent⟩ := inv_dTo I hd
    obtain ⟨rfl, rfl⟩ := dict_ep hod hdt
    obtain ⟨p, hp⟩ : ∃ p, kas[i]? = some p := ⟨kas[i], List.getElem?_eq_getElem hi⟩
    obtain ⟨en, hen, hkey, hval⟩ := ent i p hp
    obtain ⟨ok, ov, he⟩ := st
    rw [← hsz] at he
    have hlt : it < s.heap.objs.size := Heap.lt_size he
    have hi' : i < es'.size := by omega
    have een : es'[i] = en := by
      rw [Array.getElem?_eq_getElem hi'] at hen
      exact Option.some.inj hen
    refine wpAny_pyNext_items_item_raw he ⟨o, hgd, hx, hdt⟩ hi' fun h' ho hT hz hk => ?_
    rw [een] at ho hT
    refine ⟨_, rfl, wpAny_letOwnedTupleGo_items (s := { s with heap := h' }) ho fun h'' he' sb => ?_⟩
    have hT2 : h''.get? s.heap.objs.size = some { cls := .type "tuple", data := .seq #[en.key, en.val] } := (sb.2 _ (Nat.ne_of_gt hlt)).trans hT
    have new : ObjOk X.prog X.w (upd H s.heap.objs.size (.tup [.ref p.2.1, p.2.2])) h'' s.heap.objs.size (.tup [.ref p.2.1, p.2.2]) :=
      ⟨by show 2 ≤ sizeLine; decide, [en.key, en.val], .cons hkey (.cons hval .nil), ⟨_, hT2, rfl, _, rfl⟩⟩
    have I1 : Inv X pins σ (upd H s.heap.objs.size (.tup [.ref p.2.1, p.2.2])) { s with heap := h'' } :=
      I.turnedNew (t' := s.toks) (ch := [it]) (fun b ob hb e => (sb.2 b (by simpa using hb)).trans (hk b ob (by simpa using hb) e)) hf (Nat.le_refl _) new
    refine ⟨.ref s.heap.objs.size, _, I1, rfl, ⟨_, p, hp, rfl, I.hok.fresh (Nat.le_refl _), rfl⟩, ⟨en.key, en.val, ?_⟩, fun b hb => ?_⟩
    · rw [← hsz]; exact he'
    · have e : b = it := by simpa using hb
      rw [e, upd_ne (Nat.ne_of_lt hlt)]
      exact (hf it (by simp)).1
  done := by
    intro X hP hw hK hc i pins s σ H E I hf st hg
    subst hP hw hK
    obtain ⟨hd, hi⟩ := hg
    obtain ⟨f0, f1, f2, f3, f4, f5⟩ := hf it (by simp)
    obtain ⟨hs, hgd, hx, es', ep', hdt, hsz, ent⟩ := inv_dTo I hd
    obtain ⟨rfl, rfl⟩ := dict_ep hod hdt
    obtain ⟨ok, ov, he⟩ := st
    rw [← hsz] at he
    exact wpAny_pyNext_items_end_raw (I.ok.hd hc) he ⟨o, hgd, hx, hdt⟩ (by omega) fun h' eb => ⟨rfl, I.turned (t' := s.toks) (fun b ob hb e => eb b ob hb e) f0 f1 f3 f4 f5⟩
  self := fun A i s Q E st h => let ⟨_, _, e⟩ := st; PySem.W.kcp_self e h
def iKo (P : Program) (w : World) (td : TE) : TI := fun σ H R => td σ H fun x H1 => ∃ d kas o, x = .ref d ∧ Rd H1 d (dTo P w d kas o) ∧ R (Itko P w d kas o) H1
def iIo (P : Program) (w : World) (td : TE) : TI := fun σ H R => td σ H fun x H1 => ∃ d kas o, x = .ref d ∧ Rd H1 d (dTo P w d kas o) ∧ R (Itio P w d kas o) H1
theorem pi_ko {tg e : Expr} {td : TE} (he : PE X e td) : PI X tg e (iKo X.prog X.w td) := by
  refine ⟨fun pins s σ H R I h => ?_⟩
  refine thn (he.run pins s σ H _ I h) fun u s1 ⟨x, H1, I1, rx, d, kas, o, ex, hd, q⟩ => ?_
  subst ex
  obtain rfl : u = Value.ref d := rx
  obtain ⟨hs, hgd, hx, es, ep, hdt, hsz, ent⟩ := inv_dTo I1 hd
  refine iter_keys hs hgd hx hdt (pi_one (tk := s1.toks) I1 _ (turn_ko _ hdt) ⟨_, Heap.get?_push_size _ rfl, rfl, ?_⟩ q)
  rw [hsz] <;> rfl
theorem pi_io {e : Expr} {td : TE} {apos cpos : Pos} {elts : List Expr} {kk : Nat} {tpos : Pos} (he : PE X e td) (hbase : attributeBase e "items" X.env (eval e X.env) = eval e X.env) (hline : (apos.endLine == cpos.line) = true) :
    PI X (.Tuple elts kk tpos) (.Call (.Attribute e "items" apos) [] [] cpos) (iIo X.prog X.w td) := by
  refine ⟨fun pins s σ H R I h => ?_⟩
  refine wpAny_Call_method (T := "dict") (id := "dict.items") hbase rfl hline F.plainAttrs_dict F.slot_dict_items F.type_dict_items (thn (he.run pins s σ H _ I h) fun u s1 ⟨x, H1, I1, rx, d, kas, o, ex, hd, q⟩ => ?_)
  subst ex
  obtain rfl : u = Value.ref d := rx
  obtain ⟨hs, hgd, hx, es, ep, hdt, hsz, ent⟩ := inv_dTo I1 hd
  have raw : s1.heap.DictRaw d es ep := ⟨o, hgd, hx, hdt⟩
  refine ⟨raw.typeIs, fun a ea => by cases ea; exact ⟨o, hgd, hx.2.1⟩, ?_⟩
  have I2 : Inv X pins σ H1 { s1 with heap := s1.heap.push { cls := .type "dict_items", data := .fields #[.ref d] } } := I1.kept (t' := s1.toks) fun b ob q => Heap.get?_push_of_some _ q
  have fin : wpAny (model X.prog X.w) X.A (pyIter (.ref s1.heap.objs.size)) (PIE X pins σ (.Tuple elts kk tpos) R) X.xe { s1 with heap := s1.heap.push { cls := .type "dict_items", data := .fields #[.ref d] } } := by
    refine wpAny_pyIter_items_raw (d := d) ⟨_, Heap.get?_push_size _ rfl, rfl, rfl⟩ (raw.at fun o e => Heap.get?_push_of_some _ e) (pi_one (tk := s1.toks) I2 _ (turn_io _ hdt) ⟨.none, .none, ?_⟩ q)
    rw [← hsz]
    exact Heap.get?_push_size _ rfl
  show wpAny _ _ (callWith cpos (.builtin "dict.items") [.ref d] [] []) _ X.xe s1
  exact method_meetsIn F.slot_dict_items F.entry_dict_items rfl (PySem.evalArgs_none ⟨rfl, raw.typeIs, F.args_dict_items_1 _, _, meets_dict_items_raw d hs, ⟨es, ep, raw⟩, fin⟩)
theorem kas_xs : ∀ {kk : List (List Key)} {as : List Addr} {xs : List V}, kk.length = as.length → xs.length = as.length → ((kk.zip (as.zip xs)).map fun p => p.2.2) = xs
  | [], [], [], _, _ => rfl
  | [], [], _ :: _, _, h => by simp at h
  | [], _ :: _, _, h, _ => by simp at h
  | _ :: _, [], _, h, _ => by simp at h
  | _ :: _, _ :: _, [], _, h => by simp at h
  | k :: kk, a :: as, x :: xs, h1, h2 => by
    rw [List.zip_cons_cons, List.zip_cons_cons, List.map_cons, kas_xs (by simpa using h1) (by simpa using h2)]
/-- J walks the items xs -/
def Wk (g : G) (pr : Bool) (J : It) (S : Rg) (H1 : Hp) (xs : List D) : Prop := ∃ (Gd : Hp → Prop) (Y : Nat → Hp → V → Hp → Prop), Walk J xs.length Gd Y ∧ (∀ H', Kz H1 H' S → Gd H') ∧
  ∀ i x H' H'', i < xs.length → Kz H1 H' S → (∀ a, S a → (H' a).isSome = true) → Y i H' x H'' → ∃ d, xs[i]? = some d ∧ Ext g.TB H' H'' ∧ OwnI g H'' S pr d x
theorem wk_list {pr : Bool} {H : Hp} {S : Rg} {l : List D} {xs : List V} {r : Addr} (s : S r) (t : Rd H r (.lst xs)) (o : OwnL g H S 0 l xs []) : Wk g pr (Itl X.K r) S H l := by
  have e := o.length
  refine ⟨_, _, e ▸ walk_list (K := X.K) (a := r) (xs := xs), fun H' k => rdL (k.rd s t), fun i x H' H'' hi k _ ⟨e1, e2⟩ => ?_⟩
  subst e1
  obtain ⟨y, B, h1, h2, _⟩ := (k.ownL o).get (i := i) (d := l[i]) (List.getElem?_eq_getElem hi)
  have := h2.zero
  subst this
  rw [e2] at h1
  cases h1
  exact ⟨_, List.getElem?_eq_getElem hi, Ext.refl _, .inl h2⟩
theorem wk_tup {pr : Bool} {H : Hp} {S : Rg} {l : List D} {xs : List V} {r : Addr} (t : SqT X.K H r xs) (o : OwnL g H S 0 l xs []) : Wk g pr (Itt X.K r) S H l := by
  have e := o.length
  refine ⟨_, _, e ▸ walk_tup (K := X.K) (a := r) (xs := xs), fun H' k => t.elim (fun t => .inl (k.tup.rd t)) .inr, fun i x H' H'' hi k _ ⟨e1, e2⟩ => ?_⟩
  subst e1
  obtain ⟨y, B, h1, h2, _⟩ := (k.ownL o).get (i := i) (d := l[i]) (List.getElem?_eq_getElem hi)
  have := h2.zero
  subst this
  rw [e2] at h1
  cases h1
  exact ⟨_, List.getElem?_eq_getElem hi, Ext.refl _, .inl h2⟩
theorem wk_range {pr : Bool} {H : Hp} {S : Rg} {lo : Int} {n : Nat} : Wk g pr (Itr lo n) S H (rngD lo n) := by
  have e : (rngD lo n).length = n := by unfold rngD; rw [List.length_map, List.length_range]
  refine ⟨fun _ => True, YFn fun i => .int (lo + i), by rw [e]; exact walk_range, fun _ _ => trivial, fun i x H' H'' hi k _ ⟨e1, e2⟩ => ?_⟩
  subst e1
  subst e2
  rw [e] at hi
  refine ⟨.int (lo + i), ?_, Ext.refl _, .inl own_int⟩
  unfold rngD
  rw [List.getElem?_map, List.getElem?_range hi]
  rfl
theorem wk_enum {H : Hp} {S : Rg} {l : List D} {xs : List V} {r : Addr} (s : S r) (t : Rd H r (.lst xs)) (o : OwnL g H S 0 l xs []) : Wk g true (Ite X.K r) S H (l.zipIdx.map fun p => .tup [.int (p.2 : Nat), p.1]) := by
  have e := o.length
  have e0 : (l.zipIdx.map fun p => D.tup [.int (p.2 : Nat), p.1]).length = xs.length := by rw [List.length_map, List.length_zipIdx, e]
  refine ⟨_, _, e0.symm ▸ walk_enum (K := X.K) (a := r) (xs := xs), fun H' k => rdL (k.rd s t), fun i x H' H'' hi k sz ⟨T, y, z, e1, e2, e3, e4, e5⟩ => ?_⟩
  subst e1
  subst e3
  rw [e0] at hi
  obtain ⟨w, B, h1, h2, _⟩ := (k.ownL o).get (i := i) (d := l[i]'(by omega)) (List.getElem?_eq_getElem (by omega))
  have := h2.zero
  subst this
  have e5' : xs[i]? = some z := e5
  rw [e5'] at h1
  cases h1
  cases e4
  refine ⟨.tup [.int (i : Nat), l[i]'(by omega)], ?_, Ext.new e2, .inr ⟨rfl, _, T, _, rfl, rfl, .inl (.inl upd_same), OwnL.laid sz e2 (OwnL.cons (A := []) (B := []) own_int (OwnL.one h2))⟩⟩
  rw [List.getElem?_map, List.getElem?_zipIdx, List.getElem?_eq_getElem (by omega)]
  simp
theorem wk_zip {H : Hp} {S : Rg} {l l' : List D} {xs ys : List V} {r r' : Addr} (s : S r) (t : Rd H r (.lst xs)) (o : OwnL g H S 0 l xs []) (s' : S r') (t' : Rd H r' (.lst ys)) (o' : OwnL g H S 0 l' ys []) :
    Wk g true (Itz X.K r r') S H ((l.zip l').map fun p => .tup [p.1, p.2]) := by
  have e := o.length
  have e' := o'.length
  have e0 : ((l.zip l').map fun p => D.tup [p.1, p.2]).length = min xs.length ys.length := by rw [List.length_map, List.length_zip, e, e']
  refine ⟨_, _, e0.symm ▸ walk_zip (K := X.K) (a := r) (b := r') (xs := xs) (ys := ys) rfl, fun H' k => ⟨rdL (k.rd s t), rdL (k.rd s' t')⟩, fun i x H' H'' hi k sz ⟨T, y, z, e1, e2, e3, e4, e5⟩ => ?_⟩
  subst e1
  subst e3
  rw [e0] at hi
  obtain ⟨w, B, h1, h2, _⟩ := (k.ownL o).get (i := i) (d := l[i]'(by omega)) (List.getElem?_eq_getElem (by omega))
  have := h2.zero
  subst this
  obtain ⟨w', B', h3, h4, _⟩ := (k.ownL o').get (i := i) (d := l'[i]'(by omega)) (List.getElem?_eq_getElem (by omega))
  have := h4.zero
  subst this
  have e4' : xs[i]? = some y := e4
  have e5' : ys[i]? = some z := e5
  rw [e4'] at h1
  rw [e5'] at h3
  cases h1
  cases h3
  refine ⟨.tup [l[i]'(by omega), l'[i]'(by omega)], ?_, Ext.new e2, .inr ⟨rfl, _, T, _, rfl, rfl, .inl (.inl upd_same), OwnL.laid sz e2 (OwnL.cons (A := []) (B := []) h2 (OwnL.one h4))⟩⟩
  have ez : (l.zip l')[i]? = some (l[i]'(by omega), l'[i]'(by omega)) := List.getElem?_zip_eq_some.mpr ⟨List.getElem?_eq_getElem (by omega), List.getElem?_eq_getElem (by omega)⟩
  rw [List.getElem?_map, ez]
  rfl
theorem walk_zipT {K : PySem.W.Frag} {a b : Addr} {xs ys : List V} {n : Nat} (hn : n = min xs.length ys.length) : Walk (RZ.ItzT K a b) n (fun H => SqT K H a xs ∧ SqT K H b ys) (YPair (fun i => xs[i]?) (fun i => ys[i]?)) := by
  subst hn
  refine ⟨fun i _ hi q => ?_, fun _ q => ⟨xs, ys, q.1, q.2, by omega⟩, fun i H v H' _ q y => ?_⟩
  · have h1 : i < xs.length := by omega
    have h2 : i < ys.length := by omega
    exact ⟨xs, ys, xs[i], ys[i], q.1, q.2, by simp [h1], by simp [h2]⟩
  · obtain ⟨T, x, z, h1, h2, h3, h4, h5⟩ := y
    exact ⟨T, x, z, h1, h2, h3, h4 xs q.1, h5 ys q.2⟩
theorem wk_zipT {H : Hp} {S : Rg} {l l' : List D} {xs ys : List V} {r r' : Addr} (t : SqT X.K H r xs) (o : OwnL g H S 0 l xs []) (t' : SqT X.K H r' ys) (o' : OwnL g H S 0 l' ys []) :
    Wk g true (RZ.ItzT X.K r r') S H ((l.zip l').map fun p => .tup [p.1, p.2]) := by
  have e := o.length
  have e' := o'.length
  have e0 : ((l.zip l').map fun p => D.tup [p.1, p.2]).length = min xs.length ys.length := by rw [List.length_map, List.length_zip, e, e']
  refine ⟨_, _, e0.symm ▸ walk_zipT (K := X.K) (a := r) (b := r') (xs := xs) (ys := ys) rfl, fun H' k => ⟨t.elim (fun t => .inl (k.tup.rd t)) .inr, t'.elim (fun t => .inl (k.tup.rd t)) .inr⟩, fun i x H' H'' hi k sz ⟨T, y, z, e1, e2, e3, e4, e5⟩ => ?_⟩
  subst e1
  subst e3
  rw [e0] at hi
  obtain ⟨w, B, h1, h2, _⟩ := (k.ownL o).get (i := i) (d := l[i]'(by omega)) (List.getElem?_eq_getElem (by omega))
  have := h2.zero
  subst this
  obtain ⟨w', B', h3, h4, _⟩ := (k.ownL o').get (i := i) (d := l'[i]'(by omega)) (List.getElem?_eq_getElem (by omega))
  have := h4.zero
  subst this
  have e4' : xs[i]? = some y := e4
  have e5' : ys[i]? = some z := e5
  rw [e4'] at h1
  rw [e5'] at h3
  cases h1
  cases h3
  refine ⟨.tup [l[i]'(by omega), l'[i]'(by omega)], ?_, Ext.new e2, .inr ⟨rfl, _, T, _, rfl, rfl, .inl (.inl upd_same), OwnL.laid sz e2 (OwnL.cons (A := []) (B := []) h2 (OwnL.one h4))⟩⟩
  have ez : (l.zip l')[i]? = some (l[i]'(by omega), l'[i]'(by omega)) := List.getElem?_zip_eq_some.mpr ⟨List.getElem?_eq_getElem (by omega), List.getElem?_eq_getElem (by omega)⟩
  rw [List.getElem?_map, ez]
  rfl

theorem wk_ko {pr : Bool} {P : Program} {w : World} {H : Hp} {S : Rg} {ks : List D} {kk : List (List Key)} {as : List Addr} {xs : List V} {r : Addr} {oe : Obj} (s : S r) (t : Rd H r (dTo P w r (kk.zip (as.zip xs)) oe)) (o : OwnL g H S 0 ks (as.map V.ref) []) (l1 : kk.length = as.length) (l2 : xs.length = as.length) : Wk g pr (Itko P w r (kk.zip (as.zip xs)) oe) S H ks := by
  have e := o.length
  rw [List.length_map] at e
  have lz : (kk.zip (as.zip xs)).length = ks.length := by simp; omega
  refine ⟨fun H => Rd H r (dTo P w r (kk.zip (as.zip xs)) oe), fun i H x H' => H' = H ∧ ∃ p, (kk.zip (as.zip xs))[i]? = some p ∧ x = .ref p.2.1, ⟨fun i H hi h => ⟨h, by omega⟩, fun H h => ⟨h, by omega⟩, fun i H x H' _ _ y => y⟩, fun H' k => k.rd s t, fun i x H' H'' hi k _ ⟨e1, p, e2, e3⟩ => ?_⟩
  subst e1
  obtain ⟨y, B, h1, h2, _⟩ := (k.ownL o).get (i := i) (d := ks[i]) (List.getElem?_eq_getElem hi)
  have := h2.zero
  subst this
  have ea : as[i]? = some p.2.1 := by
    have := congrArg (fun l => l[i]?) (kas_as l1 l2)
    simp only [List.getElem?_map, e2] at this
    exact this.symm
  rw [List.getElem?_map, ea] at h1
  cases h1
  exact ⟨_, List.getElem?_eq_getElem hi, Ext.refl _, .inl (by rw [e3]; exact h2)⟩
theorem wk_io {P : Program} {w : World} {H : Hp} {S : Rg} {ks vs : List D} {kk : List (List Key)} {as : List Addr} {xs : List V} {r : Addr} {oe : Obj} (s : S r) (t : Rd H r (dTo P w r (kk.zip (as.zip xs)) oe)) (o : OwnL g H S 0 ks (as.map V.ref) []) (o2 : OwnL g H S 0 vs xs []) (l1 : kk.length = as.length) (l2 : xs.length = as.length) : Wk g true (Itio P w r (kk.zip (as.zip xs)) oe) S H ((ks.zip vs).map fun p => .tup [p.1, p.2]) := by
  have e := o.length
  rw [List.length_map] at e
  have e' := o2.length
  have lz : (kk.zip (as.zip xs)).length = ks.length := by simp; omega
  have e0 : ((ks.zip vs).map fun p => D.tup [p.1, p.2]).length = ks.length := by simp; omega
  refine ⟨fun H => Rd H r (dTo P w r (kk.zip (as.zip xs)) oe), fun i H x H' => ∃ T p, (kk.zip (as.zip xs))[i]? = some p ∧ x = .ref T ∧ H T = none ∧ H' = upd H T (.tup [.ref p.2.1, p.2.2]), ⟨fun i H hi h => ⟨h, by omega⟩, fun H h => ⟨h, by omega⟩, fun i H x H' _ _ y => y⟩, fun H' k => k.rd s t, fun i x H' H'' hi k sz ⟨T, p, e2, e3, e4, e5⟩ => ?_⟩
  subst e5
  rw [e0] at hi
  have hi2 : i < vs.length := by omega
  obtain ⟨y, B, h1, h2, _⟩ := (k.ownL o).get (i := i) (d := ks[i]) (List.getElem?_eq_getElem hi)
  have := h2.zero
  subst this
  obtain ⟨z, B', h3, h4, _⟩ := (k.ownL o2).get (i := i) (d := vs[i]) (List.getElem?_eq_getElem hi2)
  have := h4.zero
  subst this
  have ea : as[i]? = some p.2.1 := by
    have := congrArg (fun l => l[i]?) (kas_as l1 l2)
    simp only [List.getElem?_map, e2] at this
    exact this.symm
  have ex : xs[i]? = some p.2.2 := by
    have := congrArg (fun l => l[i]?) (kas_xs l1 l2)
    simp only [List.getElem?_map, e2] at this
    exact this.symm
  rw [List.getElem?_map, ea] at h1
  cases h1
  rw [ex] at h3
  cases h3
  refine ⟨.tup [ks[i], vs[i]], ?_, Ext.new e4, .inr ⟨rfl, _, T, _, rfl, e3, .inl (.inl upd_same), OwnL.laid sz e4 (OwnL.cons (A := []) (B := []) h2 (OwnL.one h4))⟩⟩
  have ez : (ks.zip vs)[i]? = some (ks[i], vs[i]) := List.getElem?_zip_eq_some.mpr ⟨List.getElem?_eq_getElem hi, List.getElem?_eq_getElem hi2⟩
  rw [List.getElem?_map, ez]
  rfl
/-- a dict whose keys are tuples -/
theorem own_dctT {H : Hp} {S : Rg} {ks vs : List D} {v : V} (o : Own g H S 0 (.dct ks vs) v []) (z : (!ks.isEmpty && (ks.mapM D.keyT).isSome) = true) : ∃ (a : Addr) (kk : List (List Key)) (as : List Addr) (xs : List V) (oe : Obj), v = .ref a ∧ S a ∧ Rd H a (dTo g.P g.w a (kk.zip (as.zip xs)) oe) ∧ OwnL g H S 0 ks (as.map V.ref) [] ∧ OwnL g H S 0 vs xs [] ∧ kk.length = as.length ∧ xs.length = as.length := by
  rw [Bool.and_eq_true] at z
  obtain ⟨a, xs, rfl, s, t, hl, ol⟩ := own_dct_v o
  obtain ⟨kks, hks⟩ := Option.isSome_iff_exists.mp z.2
  rcases t with ⟨kk, e1, t⟩ | ⟨kk, as, e0, e1, el, ok, t⟩ | ⟨kk, e0, e1, t⟩
  · cases ks with
    | nil => cases z.1
    | cons q ks =>
      obtain ⟨_, _, _, z1, _⟩ := mapM_cons_some hks
      obtain ⟨_, _, _, z2, _⟩ := mapM_cons_some e1
      rw [key_not_T z2] at z1
      cases z1
  · obtain ⟨oe, t⟩ := t
    exact ⟨a, kk, as, xs, oe, rfl, s, t, ok, ol, by rw [mapM_len e1, el], by rw [ol.length, el, hl]⟩
  · cases ks with
    | nil => exact absurd rfl e0
    | cons q ks =>
      obtain ⟨_, _, _, z1, _⟩ := mapM_cons_some hks
      obtain ⟨_, _, _, z2, _⟩ := mapM_cons_some e1
      rw [keyL_not_T z2] at z1
      cases z1

theorem Wk.any {pr : Bool} {J : It} {H : Hp} {S : Rg} {xs : List D} {k : SK} (w : Wk g pr J (if k.isRng then fun _ => False else S) H xs) : Wk g pr J S H xs := by
  cases e : k.isRng with
  | false => rw [e] at w; exact w
  | true =>
    rw [e] at w
    obtain ⟨Gd, Y, wk, hG, hY⟩ := w
    refine ⟨Gd, Y, wk, fun H' k => hG H' ⟨fun a q => q.elim, k.tup⟩, fun i x H' H'' hi k sz y => ?_⟩
    obtain ⟨d, e1, e2, o⟩ := hY i x H' H'' hi ⟨fun a q => q.elim, k.tup⟩ (fun a q => q.elim) y
    exact ⟨d, e1, e2, o.keep (Kp.eq (fun a h => nomatch h) (fun a q => q.elim) .refl)⟩

mutual
/-- nothing is owned of what is immutable -/
theorem imm_nil : ∀ {n : Nat} {d : D} {v : V} {A : Fp}, immB 0 d = true → Own g H S n d v A → A = []
  | _, .non, _, _, _, h => by unfold Own at h; exact h.2
  | _, .bl _, _, _, _, h => by unfold Own at h; exact h.2
  | _, .int _, _, _, _, h => by unfold Own at h; exact h.2
  | _, .str _, _, _, _, h => by unfold Own at h; exact h.2
  | _, .tup l, _, _, i, h => by
    unfold Own at h
    obtain ⟨a, xs, _, _, _, hl⟩ := h
    unfold immB at i
    exact imm_nilL i hl
  | _, .lst _, _, _, i, _ => by unfold immB at i; cases i
  | _, .dct _ _, _, _, i, _ => by unfold immB at i; cases i
  | _, .obj _ _ _, _, _, i, _ => by unfold immB at i; cases i
  | _, .exc _ _, _, _, i, _ => by unfold immB at i; cases i
theorem imm_nilL : ∀ {n : Nat} {l : List D} {vs : List V} {A : Fp}, immBL 0 l = true → OwnL g H S n l vs A → A = []
  | _, [], _, _, _, h => by unfold OwnL at h; exact h.2
  | _, d :: l, _, _, i, h => by
    unfold OwnL at h
    obtain ⟨x, ys, B, C, _, rfl, h1, h2⟩ := h
    unfold immBL at i
    simp only [Bool.and_eq_true] at i
    rw [imm_nil i.1 h1, imm_nilL i.2 h2]
    rfl
end
theorem imm_any {n : Nat} {d : D} {v : V} {A : Fp} (i : immB 0 d = true) (h : Own g H S n d v A) : ∀ (R : Rg) (k : Nat), Own g H R k d v [] := by
  intro R k
  have := imm_nil i h
  subst this
  obtain ⟨B, C, k1, sp⟩ := Own.weak (Nat.zero_le n) h
  have h0 := k1 (fun a => S a ∨ a ∈ C) (fun a q => .inl q) (fun a q => .inr q)
  have := h0.zero
  subst this
  exact h0.imm (Nat.zero_le k) i
theorem imm_anyL {n : Nat} : ∀ {l : List D} {vs : List V} {A : Fp}, immBL 0 l = true → OwnL g H S n l vs A → ∀ (R : Rg) (k : Nat), OwnL g H R k l vs []
  | [], _, _, _, h, R, k => by unfold OwnL at h ⊢; exact ⟨h.1, rfl⟩
  | d :: l, _, _, i, h, R, k => by
    unfold OwnL at h
    obtain ⟨x, ys, B, C, rfl, rfl, h1, h2⟩ := h
    unfold immBL at i
    simp only [Bool.and_eq_true] at i
    exact OwnL.cons (A := []) (B := []) (imm_any i.1 h1 R k) (imm_anyL i.2 h2 R k)
def RdI (g : G) (xg : XG) (Γ : Fe) (W : WX) (k : SK) (args : List Ex) : TI := fun σ H R => ∃ S δ, Rep0 g H S δ σ ∧
  match evL Γ args δ with
  | .ok l => ∃ xs, items k (l.map (·.1)) = some xs ∧ ∀ J H1 S1, Fw g.TB H H1 S S1 → Wk g k.isPr J (if k.isRng then fun _ => False else S1) H1 xs → R J H1
  | .exn e => ∀ cls dd H', Ext g.TB H H' → ExnN xg e cls dd H H' → W cls dd σ H'
  | .bad => False
theorem PI.pick {tg iter : Expr} {t' : TI} (k : ∀ σ H R, t' σ H R → ∃ t, PI X tg iter t ∧ t σ H R) : PI X tg iter t' := ⟨fun pins s σ H R I q => let ⟨_, h, z⟩ := k σ H R q; h.run pins s σ H R I z⟩
/-- arguments of an iterator, frozen -/
theorem RdI.args {k : SK} {xs : List Ex} {σ : L2.St} {H : Hp} {R : It → Hp → Prop} {Q' : List V → Hp → Prop} (h : RdI g xg Γ W k xs σ H R)
    (q : ∀ ds vs its H1 S1, (∀ a, S1 a → (H1 a).isSome = true) → OwnL g H1 S1 0 ds vs [] → items k ds = some its → (∀ J, Wk g k.isPr J (if k.isRng then fun _ => False else S1) H1 its → R J H1) → Q' vs H1) : RdA g xg Γ W xs σ H Q' := by
  obtain ⟨S, δ, rep, h⟩ := h
  refine ⟨S, δ, rep, ?_⟩
  cases e : evL Γ xs δ with
  | ok l =>
    rw [e] at h
    obtain ⟨its, e1, h⟩ := h
    intro vs H' S' A f1 ow nd fr
    have f2 : Fw g.TB H H' S (fun a => S' a ∨ a ∈ A) := ⟨f1.ext, fun a q => .inl (f1.sub a q), fun a q => q.elim (f1.new a) fun q => .inr (fr a q).1, fun a q => q.elim (f1.sz a) fun q => ow.there a q⟩
    exact q _ vs its H' _ f2.sz ow.frz e1 fun J w => h J H' _ f2 w
  | exn x => rw [e] at h; exact h
  | bad => rw [e] at h; exact h
/-- the one argument -/
theorem RdI.one {k : SK} {σ : L2.St} {H : Hp} {R : It → Hp → Prop} {Q' : VK} (h : RdI g xg Γ W k [xa] σ H R)
    (q : ∀ d v its H1 S1, (∀ a, S1 a → (H1 a).isSome = true) → Own g H1 S1 0 d v [] → items k [d] = some its → (∀ J, Wk g k.isPr J (if k.isRng then fun _ => False else S1) H1 its → R J H1) → Q' v H1) : RdE g xg Γ W xa σ H Q' := by
  obtain ⟨S, δ, rep, h⟩ := h
  refine ⟨S, δ, rep, ?_⟩
  unfold evL evL at h
  cases e : evE Γ xa δ with
  | ok d n =>
    rw [e] at h
    obtain ⟨its, e1, h⟩ := h
    intro v H' S' T o
    obtain ⟨S2, f2, o2⟩ := o.frz rep.sz
    exact q d v its H' S2 f2.sz o2 e1 fun J w => h J H' S2 f2 w
  | exn x => rw [e] at h; exact h
  | bad => rw [e] at h; exact h
theorem i_seq {tg : Expr} (hK : g.K = X.K) (hP : g.P = X.prog ∧ g.w = X.w) (ha : PE X a (RdE g xg Γ W xa)) : PI X tg a (RdI g xg Γ W .seq [xa]) := by
  refine PI.pick fun σ H R h => ?_
  obtain ⟨S, δ, rep, h0⟩ := id h
  unfold evL evL at h0
  cases e : evE Γ xa δ with
  | ok d n =>
    rw [e] at h0
    obtain ⟨its, e1, h0⟩ := h0
    have go : ∀ (F : VK), (∀ v H1 S2, Fw g.TB H H1 S S2 → Own g H1 S2 0 d v [] → F v H1) → RdE g xg Γ W xa σ H F := fun F k => ⟨S, δ, rep, by
      rw [e]
      intro v H' S' T o
      obtain ⟨S2, f2, o2⟩ := o.frz rep.sz
      exact k v H' S2 f2 o2⟩
    cases d with
    | lst l =>
      obtain rfl : l = its := Option.some.inj e1
      refine ⟨_, pi_list ha, go _ fun v H1 S2 f2 o2 => ?_⟩
      obtain ⟨r, xs, rfl, s, t, l1⟩ := own_lst_v o2
      exact ⟨r, rfl, ⟨xs, rdL t⟩, h0 _ H1 S2 f2 (wk_list s t l1)⟩
    | tup l =>
      obtain rfl : l = its := Option.some.inj e1
      refine ⟨_, pi_tup ha, go _ fun v H1 S2 f2 o2 => ?_⟩
      obtain ⟨r, xs, rfl, t, l1⟩ := own_tup_v o2
      rw [hK] at t
      exact ⟨r, rfl, ⟨xs, t⟩, h0 _ H1 S2 f2 (wk_tup t l1)⟩
    | dct ks vs =>
      have e1' : (if (!ks.isEmpty && (ks.mapM D.keyT).isSome) = true then some ks else none) = some its := e1
      split at e1'
      · rename_i z
        obtain rfl : ks = its := Option.some.inj e1'
        refine ⟨_, pi_ko ha, go _ fun v H1 S2 f2 o2 => ?_⟩
        obtain ⟨r, kk, as, xs, oe, rfl, s, t, ok, ol, l1, l2⟩ := own_dctT o2 z
        rw [hP.1, hP.2] at t
        exact ⟨r, _, oe, rfl, t, h0 _ H1 S2 f2 (wk_ko s t ok l1 l2)⟩
      · cases e1'
    | _ => cases e1
  | exn x => rw [e] at h0; exact ⟨_, pi_list ha, ⟨S, δ, rep, by rw [e]; exact h0⟩⟩
  | bad => rw [e] at h0; exact h0.elim
theorem i_rng1 {tg : Expr} {p : Pos} (hg : Gl X "range") (hm : X.mg "range" = none) (hs : noStar a = true) (ha : PE X a (RdE g xg Γ W xa)) : PI X tg (.Call (.Name "range" p) [a] [] pos) (RdI g xg Γ W .rng1 [xa]) := by
  refine ⟨fun pins s σ H R I h => (pi_range1 hg hm (pa_cons ha pa_nil (star_cons hs)) (star_cons hs)).run pins s σ H R I ?_⟩
  refine RdI.one h fun d v its H1 S1 sz o e q => ?_
  cases d <;> simp only [items] at e <;> first | (cases e; done) | skip
  split at e
  · rename_i j z
    obtain rfl := Option.some.inj e
    rw [own_int_v o]
    have z := small_bd z
    exact ⟨_, rfl, by omega, by omega, q _ wk_range⟩
  · cases e
theorem i_rng2 {tg : Expr} {p : Pos} (hg : Gl X "range") (hm : X.mg "range" = none) (hs : noStar a = true) (hs2 : noStar b = true) (ha : PA X [a, b] (RdA g xg Γ W [xa, xb])) : PI X tg (.Call (.Name "range" p) [a, b] [] pos) (RdI g xg Γ W .rng2 [xa, xb]) := by
  refine ⟨fun pins s σ H R I h => (pi_range2 hg hm ha (by rw [star_cons hs, star_cons hs2]; rfl) (star_cons hs2)).run pins s σ H R I ?_⟩
  refine RdI.args h fun ds vs its H1 S1 sz o e q => ?_
  unfold items at e
  split at e <;> first | (cases e; done) | skip
  all_goals first | (rename_i h1; cases h1; done) | skip
  split at e
  · rename_i z
    obtain rfl := Option.some.inj e
    obtain ⟨v, w, rfl, o1, o2⟩ := own2 o
    rw [own_int_v o1, own_int_v o2]
    simp only [Bool.and_eq_true] at z
    have z1 := small_bd z.1
    have z2 := small_bd z.2
    exact ⟨_, _, rfl, ⟨by omega, by omega, by omega, by omega⟩, q _ wk_range⟩
  · cases e
theorem i_items {elts : List Expr} {kk : Nat} {apos cpos tp : Pos} (hP : g.P = X.prog ∧ g.w = X.w) (h1 : noSuper a = true) (hl : (apos.endLine == cpos.line) = true) (ha : PE X a (RdE g xg Γ W xa)) : PI X (.Tuple elts kk tp) (.Call (.Attribute a "items" apos) [] [] cpos) (RdI g xg Γ W .items [xa]) := by
  refine ⟨fun pins s σ H R I h => (pi_io ha (attrBase h1) hl).run pins s σ H R I ?_⟩
  refine RdI.one h fun d v its H1 S1 sz o e q => ?_
  cases d with
  | dct ks vs =>
    have e1' : (if (!ks.isEmpty && (ks.mapM D.keyT).isSome) = true then some ((ks.zip vs).map fun p => D.tup [p.1, p.2]) else none) = some its := e
    split at e1'
    · rename_i z
      obtain rfl := Option.some.inj e1'
      obtain ⟨r, kk, as, xs, oe, rfl, s, t, ok, ol, l1, l2⟩ := own_dctT o z
      rw [hP.1, hP.2] at t
      exact ⟨r, _, oe, rfl, t, q _ (wk_io s t ok ol l1 l2)⟩
    · cases e1'
  | _ => cases e
theorem i_enum {elts : List Expr} {kk : Nat} {p tp : Pos} (hg : Gl X "enumerate") (hm : X.mg "enumerate" = none) (hs : noStar a = true) (ha : PE X a (RdE g xg Γ W xa)) : PI X (.Tuple elts kk tp) (.Call (.Name "enumerate" p) [a] [] pos) (RdI g xg Γ W .enum [xa]) := by
  refine ⟨fun pins s σ H R I h => (pi_enum hg hm (pa_cons ha pa_nil (star_cons hs)) (star_cons hs)).run pins s σ H R I ?_⟩
  refine RdI.one h fun d v its H1 S1 sz o e q => ?_
  cases d <;> simp only [items] at e <;> first | (cases e; done) | skip
  obtain rfl := Option.some.inj e
  obtain ⟨r, xs, rfl, s, t, l1⟩ := own_lst_v o
  exact ⟨r, xs, rfl, rdL t, q _ (wk_enum s t l1)⟩
theorem i_zip {elts : List Expr} {kk : Nat} {p tp : Pos} (hK : g.K = X.K) (hg : Gl X "zip") (hm : X.mg "zip" = none) (hs : noStar a = true) (hs2 : noStar b = true) (ha : PA X [a, b] (RdA g xg Γ W [xa, xb])) : PI X (.Tuple elts kk tp) (.Call (.Name "zip" p) [a, b] [] pos) (RdI g xg Γ W .zip [xa, xb]) := by
  refine ⟨fun pins s σ H R I h => (RZ.pi_zipA hg hm ha (star_cons hs) (by rw [star_cons hs2]; rfl)).run pins s σ H R I ?_⟩
  refine RdI.args h fun ds vs its H1 S1 sz o e q => ?_
  unfold items at e
  split at e <;> first | (cases e; done) | skip
  all_goals first | (rename_i h1; cases h1; done) | skip
  · obtain rfl := Option.some.inj e
    obtain ⟨v, w, rfl, o1, o2⟩ := own2 o
    obtain ⟨r, xs, rfl, s, t, l1⟩ := own_lst_v o1
    obtain ⟨r', ys, rfl, s', t', l1'⟩ := own_lst_v o2
    exact ⟨r, r', xs, ys, rfl, .inl ⟨rdL t, rdL t', q _ (wk_zip s t l1 s' t' l1')⟩⟩
  · obtain rfl := Option.some.inj e
    obtain ⟨v, w, rfl, o1, o2⟩ := own2 o
    obtain ⟨r, xs, rfl, t, l1⟩ := own_tup_v o1
    obtain ⟨r', ys, rfl, t', l1'⟩ := own_tup_v o2
    rw [hK] at t t'
    exact ⟨r, r', xs, ys, rfl, .inr ⟨t, t', q _ (wk_zipT t l1 t' l1')⟩⟩

/-- the lists at a and b as they stand at each turn, the items in new pairs, these with their numbers in new pairs -/
def Itez (K : PySem.W.Frag) (a b : Addr) : It :=
  ⟨fun i H => ∃ (xs ys : List V) (x y : V), SqL K H a xs ∧ SqL K H b ys ∧ xs[i]? = some x ∧ ys[i]? = some y,
    fun i H v H' => ∃ T p x y, ∃ ob : Obj, v = .ref T ∧ H p = none ∧ ob.dict = none ∧ upd H p (.frz ob (.tup [x, y])) T = none ∧ H' = upd (upd H p (.frz ob (.tup [x, y]))) T (.tup [.int (i : Nat), .ref p]) ∧ (∀ xs, SqL K H a xs → xs[i]? = some x) ∧ ∀ ys, SqL K H b ys → ys[i]? = some y,
    fun i H => ∃ xs ys : List V, SqL K H a xs ∧ SqL K H b ys ∧ (xs.length ≤ i ∨ ys.length ≤ i)⟩
theorem turn_ez {P : Program} {w : World} {K : PySem.W.Frag} {elts : List Expr} {kk : Nat} {tpos : Pos} {a b e z TI TO i1 i2 : Addr} (D : ZipApart z TI TO i1 i2 a b) (hn : e ∉ [z, TI, TO, i1, i2]) :
    Turn P w K (.Tuple elts kk tpos) (Itez K a b) [e, z, TI, TO, i1, i2] e (fun i h => (∃ old, IsEnum h e z ((i : Nat) : Int) old) ∧ ZipAt h z TI TO i1 i2 a b i) where
  mem := by simp
  obj := fun i h st c hc => by
    obtain ⟨⟨old, he⟩, Z⟩ := st
    rcases List.mem_cons.mp hc with rfl | hc
    · exact ⟨_, he, fun v q => nomatch q⟩
    · exact Z.there c hc
  keep := fun i h h' st k => by
    obtain ⟨⟨old, he⟩, Z⟩ := st
    exact ⟨⟨old, k e (by simp) _ he⟩, Z.of fun c hc o q => k c (List.mem_cons_of_mem _ hc) o q⟩
  item := by
    intro X hP hw hK hc i pins s σ H E I hf st hg
    subst hP hw hK
    obtain ⟨⟨old, he⟩, Z⟩ := st
    obtain ⟨xs, ys, x, y, hqx, hqy, hx, hy⟩ := hg
    obtain ⟨its, rv, p, _⟩ := I.list hqx
    obtain ⟨its2, rv2, p2, _⟩ := I.list hqy
    obtain ⟨u, hu, ru⟩ := rv.get hx
    obtain ⟨u2, hu2, ru2⟩ := rv2.get hy
    have elt : e < s.heap.objs.size := Heap.lt_size he
    have flt : ∀ c ∈ [e, z, TI, TO, i1, i2], c < s.heap.objs.size := fun c hc => by
      rcases List.mem_cons.mp hc with rfl | hc
      · exact elt
      · obtain ⟨o, q, _⟩ := Z.there c hc
        exact Heap.lt_size q
    refine ez_item D he hn Z p.isList p2.isList (I.ok.hd hc) (x := u) (y := u2) (by simpa using hu) (by simpa using hu2) fun h' tk ho Z' p' pT sz kp => ?_
    refine ⟨_, rfl, wpAny_letOwnedTupleGo_enum (s := { s with heap := h', toks := tk + 1 }) ho fun h'' he' sb => ?_⟩
    have pT2 : h''.get? (s.heap.objs.size + 1) = some { cls := .type "tuple", data := .seq #[.int i tk, .ref s.heap.objs.size] } := (sb.2 _ (Nat.ne_of_gt (Nat.lt_succ_of_lt elt))).trans pT
    have p2' : h''.get? s.heap.objs.size = some { cls := .type "tuple", data := .seq #[u, u2] } := (sb.2 _ (Nat.ne_of_gt elt)).trans p'
    -- the inner pair, laid at the old heap's end
    have new0 : ObjOk X.prog X.w (upd H s.heap.objs.size (.frz { cls := .type "tuple", data := .seq #[u, u2] } (.tup [x, y]))) (s.heap.push { cls := .type "tuple", data := .seq #[u, u2] }) s.heap.objs.size (.frz { cls := .type "tuple", data := .seq #[u, u2] } (.tup [x, y])) :=
      ⟨Heap.get?_push_size _ rfl, by show 2 ≤ sizeLine; decide, [u, u2], .cons ru (.cons ru2 .nil), ⟨_, Heap.get?_push_size _ rfl, rfl, _, rfl⟩⟩
    have I0 : Inv X pins σ (upd H s.heap.objs.size (.frz { cls := .type "tuple", data := .seq #[u, u2] } (.tup [x, y]))) { s with heap := s.heap.push { cls := .type "tuple", data := .seq #[u, u2] }, toks := s.toks } := I.laid (fun _ _ q => Heap.get?_push_of_some _ q) (Nat.le_refl _) new0
    have hp0 : H s.heap.objs.size = none := I.hok.fresh (Nat.le_refl _)
    have szp : (s.heap.push { cls := .type "tuple", data := .seq #[u, u2] }).objs.size = s.heap.objs.size + 1 := Heap.size_push ..
    have hp1 : upd H s.heap.objs.size (.frz { cls := .type "tuple", data := .seq #[u, u2] } (.tup [x, y])) (s.heap.objs.size + 1) = none := I0.hok.fresh (by show (s.heap.push { cls := .type "tuple", data := .seq #[u, u2] }).objs.size ≤ _; rw [szp]; exact Nat.le_refl _)
    have hf0 : ∀ c ∈ [e, z, TI, TO, i1, i2], FpOk X pins (upd H s.heap.objs.size (.frz { cls := .type "tuple", data := .seq #[u, u2] } (.tup [x, y]))) c := fun c hc => by
      obtain ⟨q1, q2⟩ := hf c hc
      exact ⟨by rw [upd_ne (Nat.ne_of_lt (flt c hc))]; exact q1, q2⟩
    have new1 : ObjOk X.prog X.w (upd (upd H s.heap.objs.size (.frz { cls := .type "tuple", data := .seq #[u, u2] } (.tup [x, y]))) (s.heap.objs.size + 1) (.tup [.int (i : Nat), .ref s.heap.objs.size])) h'' (s.heap.objs.size + 1) (.tup [.int (i : Nat), .ref s.heap.objs.size]) :=
      ⟨by show 2 ≤ sizeLine; decide, [.int i tk, .ref s.heap.objs.size], .cons ⟨_, rfl⟩ (.cons rfl .nil), ⟨_, pT2, rfl, _, rfl⟩⟩
    have I1 : Inv X pins σ (upd (upd H s.heap.objs.size (.frz { cls := .type "tuple", data := .seq #[u, u2] } (.tup [x, y]))) (s.heap.objs.size + 1) (.tup [.int (i : Nat), .ref s.heap.objs.size])) { s with heap := h'', toks := tk + 1 } := by
      refine I0.turnedNew (t' := tk + 1) (ch := [e, z, TI, TO, i1, i2]) (fun c o hb q => ?_) hf0 (by show (s.heap.push { cls := .type "tuple", data := .seq #[u, u2] }).objs.size ≤ _; rw [szp]; exact Nat.le_refl _) new1
      rcases Heap.get?_push_cases q with ⟨rfl, rfl⟩ | q0
      · exact p2'
      · exact (sb.2 c (fun q' => hb (by simp [q']))).trans (kp c o (fun q' => hb (by simp [q'])) (fun q' => hb (by simp [q'])) (fun q' => hb (by simp [q'])) (fun q' => hb (by simp [q'])) (fun q' => hb (by simp [q'])) q0)
    refine ⟨.ref (s.heap.objs.size + 1), _, I1, rfl, ⟨_, s.heap.objs.size, x, y, _, rfl, hp0, rfl, hp1, rfl, fun l hl => by rw [I.list_inj hl hqx]; exact hx, fun l hl => by rw [I.list_inj hl hqy]; exact hy⟩, ⟨⟨.ref s.heap.objs.size, ?_⟩, ?_⟩, fun c hcm => ?_⟩
    · have e1 : ((i + 1 : Nat) : Int) = (i : Int) + 1 := by omega
      rw [e1]; exact he'
    · refine Z'.of fun c hc o q => (sb.2 c fun q' => hn (by rw [← q']; exact hc)).trans q
    · rw [upd_ne (Nat.ne_of_lt (Nat.lt_succ_of_lt (flt c hcm))), upd_ne (Nat.ne_of_lt (flt c hcm))]
      exact (hf c hcm).1
  done := by
    intro X hP hw hK hc i pins s σ H E I hf st hg
    subst hP hw hK
    obtain ⟨⟨old, he⟩, Z⟩ := st
    obtain ⟨xs, ys, hqx, hqy, hend⟩ := hg
    obtain ⟨its, rv, p, _⟩ := I.list hqx
    obtain ⟨its2, rv2, p2, _⟩ := I.list hqy
    have l1 := rv.length
    have l2 := rv2.length
    have hend' : its.toArray[i]? = none ∨ its2.toArray[i]? = none := by
      rcases hend with q | q
      · exact .inl (by simp; omega)
      · exact .inr (by simp; omega)
    exact ez_end D he Z p.isList p2.isList (I.ok.hd hc) hend' fun h' hk => ⟨rfl, I.turnedL (t' := s.toks) (ch := [e, z, TI, TO, i1, i2]) (fun c o hb q =>
      hk c o (fun q' => hb (by simp [q'])) (fun q' => hb (by simp [q'])) (fun q' => hb (by simp [q'])) (fun q' => hb (by simp [q'])) q) hf⟩
  self := fun A i s Q E st h => let ⟨⟨_, he⟩, _⟩ := st; wpAny_pyIter_enum he h
def iEz (K : PySem.W.Frag) (ta : TA) : TI := fun σ H R => ta σ H fun vs H1 => ∃ a b xs ys, vs = [.ref a, .ref b] ∧ SqL K H1 a xs ∧ SqL K H1 b ys ∧ R (Itez K a b) H1
theorem pi_ez {X : Cx} {e1 e2 : Expr} {ta : TA} {p pos p2 pos2 tpos : Pos} {elts : List Expr} {kk : Nat} (hg : Gl X "enumerate") (hm : X.mg "enumerate" = none) (hg2 : Gl X "zip") (hm2 : X.mg "zip" = none) (ha : PA X [e1, e2] ta)
    (hs : starEach [e1, e2] X.env = (false, eval e1 X.env) :: starEach [e2] X.env) (hpl : (backTo pos2 (starEach [e2] X.env)).any (·.1) = false) :
    PI X (.Tuple elts kk tpos) (.Call (.Name "enumerate" p) [.Call (.Name "zip" p2) [e1, e2] [] pos2] [] pos) (iEz X.K ta) := by
  refine ⟨fun pins s σ H R I h => ?_⟩
  refine Call_ (ld_blt I hg hm boot_enumerate (PyProof.Rows.callWith_type1 (PyProof.Rows.args_cons ?_ rfl) rfl rfl))
  refine Call_ (ld_blt I hg2 hm2 PyProof.Rows.boot_zip (PyProof.Rows.callWith_type1 (thn (ha.run pos2 pins s σ H _ I h) fun us s1 ⟨vs, H1, I1, r1, q1⟩ => ?_) hs hpl))
  obtain ⟨a, b, xs, ys, ex, hqx, hqy, q⟩ := q1
  subst ex
  cases r1 with
  | cons r rr =>
    cases rr with
    | cons r' rr =>
      cases rr
      cases r
      cases r'
      obtain ⟨its, rv, pp1, _⟩ := I1.list hqx
      obtain ⟨its2, rv2, pp2, _⟩ := I1.list hqy
      refine call_zip_2 pp1.isList pp2.isList fun h' hz hTI hTO h1 h2 hsz hk => PyProof.Rows.args_nil ?_
      refine call_enum_zip (s := { s1 with heap := h' }) hz fun h3 he hsz3 hk3 => wpAny_pyIter_enum (s := { s1 with heap := h3 }) he ?_
      have hle : h'.objs.size = s1.heap.objs.size + 5 := hsz
      have I2 : Inv X pins σ H1 { s1 with heap := h3 } := I1.kept (t' := s1.toks) fun c o y => hk3 c o (hk c o y)
      refine ⟨h'.objs.size, [h'.objs.size, s1.heap.objs.size + 4, s1.heap.objs.size + 2, s1.heap.objs.size + 3, s1.heap.objs.size, s1.heap.objs.size + 1], _, _, H1, rfl, I2, turn_ez (PySem.W.ktu_apart s1.heap.objs.size a b pp1.lt pp2.lt) (fun q => ?_), ⟨⟨.none, he⟩, ZipAt.of (h := h') ⟨hTI, ⟨_, _, hTO⟩, h1, h2, .inl hz⟩ fun c _ o y => hk3 c o y⟩, fun c hcm => ?_, q⟩
      · have q : h'.objs.size ∈ [s1.heap.objs.size + 4, s1.heap.objs.size + 2, s1.heap.objs.size + 3, s1.heap.objs.size, s1.heap.objs.size + 1] := q
        rw [hle] at q
        simp only [List.mem_cons, List.not_mem_nil, or_false] at q
        omega
      · have hge : s1.heap.objs.size ≤ c := by
          have hcm2 : c ∈ [h'.objs.size, s1.heap.objs.size + 4, s1.heap.objs.size + 2, s1.heap.objs.size + 3, s1.heap.objs.size, s1.heap.objs.size + 1] := hcm
          rw [hle] at hcm2
          clear hcm
          rcases List.mem_cons.mp hcm2 with rfl | hcm2
          · omega
          simp only [List.mem_cons, List.not_mem_nil, or_false] at hcm2
          rcases hcm2 with z | z | z | z | z
          · rw [z]; exact Nat.le_add_right _ _
          · rw [z]; exact Nat.le_add_right _ _
          · rw [z]; exact Nat.le_add_right _ _
          · rw [z]; exact Nat.le_refl _
          · rw [z]; exact Nat.le_add_right _ _
        exact I1.fpOk hge (I1.hok.fresh hge)
theorem wk_ez {H : Hp} {S : Rg} {l l' : List D} {xs ys : List V} {r r' : Addr} (s : S r) (t : Rd H r (.lst xs)) (o : OwnL g H S 0 l xs []) (s' : S r') (t' : Rd H r' (.lst ys)) (o' : OwnL g H S 0 l' ys []) :
    Wk g true (Itez X.K r r') S H ((l.zip l').zipIdx.map fun p => .tup [.int (p.2 : Nat), .tup [p.1.1, p.1.2]]) := by
  have e := o.length
  have e' := o'.length
  have e0 : ((l.zip l').zipIdx.map fun p => D.tup [.int (p.2 : Nat), .tup [p.1.1, p.1.2]]).length = min xs.length ys.length := by rw [List.length_map, List.length_zipIdx, List.length_zip, e, e']
  refine ⟨fun H' => SqL X.K H' r xs ∧ SqL X.K H' r' ys, fun i H v H' => ∃ T p x y, ∃ ob : Obj, v = .ref T ∧ H p = none ∧ ob.dict = none ∧ upd H p (.frz ob (.tup [x, y])) T = none ∧ H' = upd (upd H p (.frz ob (.tup [x, y]))) T (.tup [.int (i : Nat), .ref p]) ∧ xs[i]? = some x ∧ ys[i]? = some y, ?_, fun H' k => ⟨rdL (k.rd s t), rdL (k.rd s' t')⟩, fun i x H' H'' hi k sz ⟨T, p, y, z, ob, e1, e2, eob, e3, e4, e5, e6⟩ => ?_⟩
  · rw [e0]
    refine ⟨fun i _ hi q => ?_, fun _ q => ⟨xs, ys, q.1, q.2, by omega⟩, fun i H v H' _ q y => ?_⟩
    · have h1 : i < xs.length := by omega
      have h2 : i < ys.length := by omega
      exact ⟨xs, ys, xs[i], ys[i], q.1, q.2, by simp [h1], by simp [h2]⟩
    · obtain ⟨T, p, x, z, ob, h1, h2, h3, h4, h5, h6, h7⟩ := y
      exact ⟨T, p, x, z, ob, h1, h2, h3, h4, h5, h6 xs q.1, h7 ys q.2⟩
  · subst e1
    subst e4
    rw [e0] at hi
    obtain ⟨w, B, h1, h2, _⟩ := (k.ownL o).get (i := i) (d := l[i]'(by omega)) (List.getElem?_eq_getElem (by omega))
    have := h2.zero
    subst this
    obtain ⟨w', B', h3, h4, _⟩ := (k.ownL o').get (i := i) (d := l'[i]'(by omega)) (List.getElem?_eq_getElem (by omega))
    have := h4.zero
    subst this
    rw [e5] at h1
    rw [e6] at h3
    cases h1
    cases h3
    have sz1 : ∀ a, S a → (upd H' p (.frz ob (.tup [y, z])) a).isSome = true := fun a q => by
      by_cases e : a = p
      · rw [e, upd_same]; rfl
      · rw [upd_ne e]; exact sz a q
    have inner : Own g (upd H' p (.frz ob (.tup [y, z]))) S 0 (.tup [l[i]'(by omega), l'[i]'(by omega)]) (.ref p) [] := own_tup (sqN_new eob) (OwnL.laid sz e2 (OwnL.cons (A := []) (B := []) h2 (OwnL.one h4)))
    refine ⟨.tup [.int (i : Nat), .tup [l[i]'(by omega), l'[i]'(by omega)]], ?_, (Ext.new e2).trans (Ext.new e3), .inr ⟨rfl, _, T, _, rfl, rfl, .inl (.inl upd_same), OwnL.laid sz1 e3 (OwnL.cons (A := []) (B := []) own_int (OwnL.one inner))⟩⟩
    have ez : (l.zip l')[i]? = some (l[i]'(by omega), l'[i]'(by omega)) := List.getElem?_zip_eq_some.mpr ⟨List.getElem?_eq_getElem (by omega), List.getElem?_eq_getElem (by omega)⟩
    rw [List.getElem?_map, List.getElem?_zipIdx, ez]
    simp
theorem i_ez {elts : List Expr} {kk : Nat} {p tp p2 pos2 : Pos} (hg : Gl X "enumerate") (hm : X.mg "enumerate" = none) (hg2 : Gl X "zip") (hm2 : X.mg "zip" = none) (hs : noStar a = true) (hs2 : noStar b = true) (ha : PA X [a, b] (RdA g xg Γ W [xa, xb])) :
    PI X (.Tuple elts kk tp) (.Call (.Name "enumerate" p) [.Call (.Name "zip" p2) [a, b] [] pos2] [] pos) (RdI g xg Γ W .ezip [xa, xb]) := by
  refine ⟨fun pins s σ H R I h => (pi_ez hg hm hg2 hm2 ha (star_cons hs) (by rw [star_cons hs2]; rfl)).run pins s σ H R I ?_⟩
  refine RdI.args h fun ds vs its H1 S1 sz o e q => ?_
  unfold items at e
  split at e <;> first | (cases e; done) | skip
  all_goals first | (rename_i h1; cases h1; done) | skip
  obtain rfl := Option.some.inj e
  obtain ⟨v, w, rfl, o1, o2⟩ := own2 o
  obtain ⟨r, xs, rfl, s, t, l1⟩ := own_lst_v o1
  obtain ⟨r', ys, rfl, s', t', l1'⟩ := own_lst_v o2
  exact ⟨r, r', xs, ys, rfl, rdL t, rdL t', q _ (wk_ez s t l1 s' t' l1')⟩

def gNames : List Nat → TGs
  | [] => gNil
  | i :: is => gCons (gName i) (gNames is)
def gT (K : PySem.W.Frag) (tg : List Nat) : TG := match tg with
  | [i] => gName i
  | tg => gTup K tg.length (gNames tg)
theorem wipe_set0 (i : Nat) (x : Option V) : ∀ (vs : List Nat) (σ : L2.St), (L2.wipe (σ.set i x) vs).set i none = (L2.wipe σ vs).set i none
  | [], σ => by show (σ.set i x).set i none = σ.set i none; rw [List.set_set]
  | v :: vs, σ => by
    show ((L2.wipe (σ.set i x) vs).set v none).set i none = ((L2.wipe σ vs).set v none).set i none
    by_cases h : v = i
    · subst h
      rw [List.set_set, List.set_set, wipe_set0 v x vs σ]
    · rw [List.set_comm _ _ h, List.set_comm _ _ h, wipe_set0 i x vs σ]
theorem wipe_set {i : Nat} {x : Option V} : ∀ {vs : List Nat} {σ : L2.St}, i ∈ vs → L2.wipe (σ.set i x) vs = L2.wipe σ vs
  | v :: vs, σ, h => by
    show (L2.wipe (σ.set i x) vs).set v none = (L2.wipe σ vs).set v none
    by_cases e : i = v
    · subst e; exact wipe_set0 i x vs σ
    · rcases List.mem_cons.mp h with h | h
      · exact absurd h e
      · rw [wipe_set h]
theorem wipe_wipe : ∀ (us vs : List Nat) (σ : L2.St), (∀ u ∈ us, u ∈ vs) → L2.wipe (L2.wipe σ us) vs = L2.wipe σ vs
  | [], vs, σ, _ => rfl
  | u :: us, vs, σ, h => by
    show L2.wipe ((L2.wipe σ us).set u none) vs = L2.wipe σ vs
    rw [wipe_set (h u List.mem_cons_self), wipe_wipe us vs σ fun w hw => h w (List.mem_cons_of_mem _ hw)]
theorem bindE_ok {H : Hp} {S : Rg} {all : List Nat} {Q : L2.St → Hp → Prop} : ∀ {is : List Nat} {ds : List D} {xs : List V} {δ δ1 : Ev} {σ : L2.St}, bindE is ds δ = some δ1 → OwnL g H S 0 ds xs [] → Rep0 g H S δ σ → (∀ i ∈ is, i ∈ all) →
    (∀ σ1, Rep0 g H S δ1 σ1 → L2.wipe σ1 all = L2.wipe σ all → Q σ1 H) → xs.length = is.length ∧ gNames is xs σ H Q
  | [], [], xs, δ, δ1, σ, h, o, rep, hi, k => by
    cases h
    unfold OwnL at o
    rw [o.1]
    exact ⟨rfl, rfl, k σ rep rfl⟩
  | i :: is, [], _, _, _, _, h, _, _, _, _ => by cases h
  | [], d :: ds, _, _, _, _, h, _, _, _, _ => by cases h
  | i :: is, d :: ds, xs, δ, δ1, σ, h, o, rep, hi, k => by
    unfold OwnL at o
    obtain ⟨x, ys, B, C, rfl, e, h1, h2⟩ := o
    have e1 := h1.zero
    have e2 := h2.zero
    subst e1
    subst e2
    obtain ⟨a1, a2⟩ := bindE_ok (all := all) (Q := Q) (σ := σ.set i (some x)) (show bindE is ds (δ.set i (some d)) = some δ1 from h) h2 (rep.set h1) (fun j hj => hi j (List.mem_cons_of_mem _ hj)) fun σ1 r1 e => k σ1 r1 (by rw [e, wipe_set (hi i List.mem_cons_self)])
    exact ⟨by rw [List.length_cons, List.length_cons, a1], x, ys, rfl, a2⟩
theorem takeE_ok (hK : g.K = X.K) {H : Hp} {S : Rg} {tg : List Nat} {d : D} {v : V} {δ δ1 : Ev} {σ : L2.St} {Q : L2.St → Hp → Prop} {pr : Bool} (hpr : pr = true → 2 ≤ tg.length) (h : takeE tg d δ = some δ1) (o : OwnI g H S pr d v) (rep : Rep0 g H S δ σ)
    (k : ∀ σ1, Rep0 g H S δ1 σ1 → L2.wipe σ1 tg = L2.wipe σ tg → Q σ1 H) : gT X.K tg v σ H Q := by
  unfold takeE at h
  split at h
  · rename_i i
    cases h
    rcases o with o | ⟨hp, _⟩
    · exact k _ (rep.set o) (wipe_set List.mem_cons_self)
    · exact absurd (hpr hp) (by simp)
  · rename_i l hne
    obtain ⟨a, xs, rfl, t, l1⟩ := o.tup
    obtain ⟨e1, e2⟩ := bindE_ok (all := tg) h l1 rep (fun _ q => q) k
    have : gT X.K tg = gTup X.K tg.length (gNames tg) := by
      unfold gT
      split
      · exact (hne _ rfl).elim
      · rfl
    rw [this]
    exact ⟨a, xs, rfl, by rw [← hK]; exact t, e1, e2⟩
  · cases h

theorem compL_ok {tg : List Nat} {elt : Ev → Res} {cnd : Ev → RT} : ∀ {xs : List D} {δ : Ev}, (∃ l, compL tg elt cnd xs δ = .ok l) ∨ compL tg elt cnd xs δ = .bad
  | [], _ => .inl ⟨[], rfl⟩
  | x :: xs, δ => by
    unfold compL
    cases takeE tg x δ with
    | none => exact .inr rfl
    | some δ1 =>
      dsimp only
      cases cnd δ1 with
      | ok b =>
        cases b with
        | true =>
          dsimp only
          cases elt δ1 with
          | ok d n =>
            dsimp only
            rcases compL_ok (tg := tg) (elt := elt) (cnd := cnd) (xs := xs) (δ := δ) with ⟨l, e⟩ | e
            · rw [e]; exact .inl ⟨_, rfl⟩
            · rw [e]; exact .inr rfl
          | exn e => exact .inr rfl
          | bad => exact .inr rfl
        | false => exact compL_ok
      | exn e => exact .inr rfl
      | bad => exact .inr rfl
/-- the list under construction -/
structure CS (g : G) (H1 H' : Hp) (S1 S2 : Rg) (Dl : Addr) (acc : List (D × Nat)) (vs : List V) (A : Fp) : Prop where
  ext : Ext g.TB H1 H'
  sub : ∀ a, S1 a → S2 a
  new : ∀ a, S2 a → S1 a ∨ H1 a = none
  sz : ∀ a, S2 a → (H' a).isSome = true
  at_ : H' Dl = some (.lst vs)
  nS : ¬ S2 Dl
  own : OwnN g H' S2 acc vs A
  nd : A.Nodup
  fr : ∀ a ∈ A, H1 a = none ∧ ¬ S2 a ∧ a ≠ Dl
theorem OwnN.keep {H H' : Hp} {S S' : Rg} : ∀ {l : List (D × Nat)} {vs : List V} {A : Fp}, OwnN g H S l vs A → Kp H H' S S' A → OwnN g H' S' l vs A
  | [], _, _, h, _ => by unfold OwnN at h ⊢; exact h
  | p :: l, _, _, h, k => by
    unfold OwnN at h ⊢
    obtain ⟨x, ys, B, C, rfl, rfl, h1, h2⟩ := h
    exact ⟨x, ys, B, C, rfl, rfl, h1.keep (k.sub fun _ q => List.mem_append_left _ q), OwnN.keep h2 (k.sub fun _ q => List.mem_append_right _ q)⟩
theorem OwnN.snoc {H : Hp} {S : Rg} {d : D} {n : Nat} {v : V} {T : Fp} (o : Own g H S n d v T) : ∀ {l : List (D × Nat)} {vs : List V} {A : Fp}, OwnN g H S l vs A → OwnN g H S (l ++ [(d, n)]) (vs ++ [v]) (A ++ T)
  | [], _, _, h => by
    unfold OwnN at h
    rw [h.1, h.2]
    show OwnN g H S [(d, n)] [v] T
    unfold OwnN
    exact ⟨v, [], T, [], rfl, (List.append_nil _).symm, o, by unfold OwnN; exact ⟨rfl, rfl⟩⟩
  | p :: l, _, _, h => by
    unfold OwnN at h
    obtain ⟨x, ys, B, C, rfl, rfl, h1, h2⟩ := h
    show OwnN g H S (p :: (l ++ [(d, n)])) (x :: (ys ++ [v])) (B ++ C ++ T)
    unfold OwnN
    exact ⟨x, ys ++ [v], B, C ++ T, rfl, List.append_assoc _ _ _, h1, OwnN.snoc o h2⟩
/-- one more item -/
theorem CS.snoc {H1 H' H4 : Hp} {S1 S2 S4 : Rg} {Dl : Addr} {acc : List (D × Nat)} {vs : List V} {A T : Fp} {d : D} {n : Nat} {v : V} (hD : H1 Dl = none) (c : CS g H1 H' S1 S2 Dl acc vs A) (o : OkV g H' H4 S2 S4 n d v T) :
    CS g H1 (upd H4 Dl (.lst (vs ++ [v]))) S1 S4 Dl (acc ++ [(d, n)]) (vs ++ [v]) (A ++ T) := by
  have dn : Dl ∉ T := fun q => by have := (o.fr Dl q).1; rw [c.at_] at this; cases this
  have da : Dl ∉ A := fun q => (c.fr Dl q).2.2 rfl
  have nS4 : ¬ S4 Dl := fun q => by
    rcases o.new Dl q with z | z
    · exact c.nS z
    · rw [c.at_] at z; cases z
  have kp : ∀ B : Fp, Dl ∉ B → Kp H4 (upd H4 Dl (.lst (vs ++ [v]))) S4 S4 B := fun B hB => Kp.eq (fun a q => upd_ne fun e => hB (e ▸ q)) (fun a q => ⟨q, upd_ne fun e => nS4 (e ▸ q)⟩) (TupS.poke (o.ext.st _ _ c.at_ nTb_lst) (fun _ z => HO.noConfusion z) fun _ _ z => HO.noConfusion z)
  have h4 := o.ext.st _ _ c.at_ nTb_lst
  refine ⟨⟨fun a u q n => ?_, fun a q => ?_, fun h => pok_lst.tab h4 ((c.ext.trans o.ext).tab h)⟩, fun a q => o.sub a (c.sub a q), fun a q => ?_, fun a q => ?_, upd_same, nS4, ?_, ?_, fun a q => ?_⟩
  · rw [upd_ne (ne_of_none q hD)]
    exact o.ext.st a u (c.ext.st a u q n) n
  · by_cases e : a = Dl
    · rw [e, upd_same]; rfl
    · rw [upd_ne e]; exact o.ext.dom a (c.ext.dom a q)
  · rcases o.new a q with z | z
    · exact c.new a z
    · exact .inr (c.ext.back z)
  · have ne : a ≠ Dl := fun e => nS4 (by rw [e] at q; exact q)
    rw [upd_ne ne]
    exact o.sz a q
  · refine OwnN.snoc (o.own.keep (kp T dn)) ((c.own.keep (S' := S4) (H' := H4) (o.ext.kp o.sub)).keep (kp A da))
  · refine List.nodup_append.mpr ⟨c.nd, o.nd, fun x hx y hy e => ?_⟩
    have h1 := c.own.there x hx
    rw [e, (o.fr y hy).1] at h1
    cases h1
  · rcases List.mem_append.mp q with q | q
    · refine ⟨(c.fr a q).1, fun z => ?_, (c.fr a q).2.2⟩
      rcases o.new a z with z | z
      · exact (c.fr a q).2.1 z
      · have h1 := c.own.there a q
        rw [z] at h1
        cases h1
    · exact ⟨c.ext.back (o.fr a q).1, (o.fr a q).2, fun e => dn (e ▸ q)⟩
/-- no item -/
theorem CS.fw {H1 H' H4 : Hp} {S1 S2 S4 : Rg} {Dl : Addr} {acc : List (D × Nat)} {vs : List V} {A : Fp} (c : CS g H1 H' S1 S2 Dl acc vs A) (f : Fw g.TB H' H4 S2 S4) : CS g H1 H4 S1 S4 Dl acc vs A := by
  refine ⟨c.ext.trans f.ext, fun a q => f.sub a (c.sub a q), fun a q => ?_, f.sz, f.ext.st _ _ c.at_ nTb_lst, fun q => ?_, c.own.keep (f.ext.kp f.sub), c.nd, fun a q => ⟨(c.fr a q).1, fun z => ?_, (c.fr a q).2.2⟩⟩
  · rcases f.new a q with z | z
    · exact c.new a z
    · exact .inr (c.ext.back z)
  · rcases f.new Dl q with z | z
    · exact c.nS z
    · rw [c.at_] at z; cases z
  · rcases f.new a z with z | z
    · exact (c.fr a q).2.1 z
    · have h1 := c.own.there a q
      rw [z] at h1
      cases h1
/-- the list is whole -/
theorem CS.done {H H1 H' : Hp} {S S1 S2 : Rg} {Dl : Addr} {l : List (D × Nat)} {vs : List V} {A : Fp} (f : Fw g.TB H H1 S S1) (hD : H1 Dl = none) (c : CS g H1 H' S1 S2 Dl l vs A) :
    ∃ S3 T, OkV g H H' S S3 (dep l + 1) (.lst (l.map (·.1))) (.ref Dl) T := by
  obtain ⟨B, C, k1, k2⟩ := OwnN.at_ (m := dep l) (dep_le l) c.own
  have k3 := k1 (fun a => S2 a ∨ a ∈ C) (fun a q => .inl q) (fun a q => .inr q)
  have hB : ∀ a ∈ B, a ∈ A := fun a q => (k2.1 a).mpr (.inl q)
  have hC : ∀ a ∈ C, a ∈ A := fun a q => (k2.1 a).mpr (.inr q)
  obtain ⟨n1, n2, n3⟩ := List.nodup_append.mp (k2.2 c.nd)
  refine ⟨fun a => S2 a ∨ a ∈ C, Dl :: B, f.ext.trans c.ext, fun a q => .inl (c.sub a (f.sub a q)), fun a q => ?_, fun a q => ?_, own_lst c.at_ k3, List.nodup_cons.mpr ⟨fun q => (c.fr Dl (hB Dl q)).2.2 rfl, n1⟩, fun a q => ?_⟩
  · rcases q with q | q
    · rcases c.new a q with z | z
      · exact f.new a z
      · exact .inr (f.ext.back z)
    · exact .inr (f.ext.back (c.fr a (hC a q)).1)
  · rcases q with q | q
    · exact c.sz a q
    · exact c.own.there a (hC a q)
  · rcases List.mem_cons.mp q with rfl | q
    · refine ⟨f.ext.back hD, fun z => ?_⟩
      rcases z with z | z
      · exact c.nS z
      · exact (c.fr a (hC a z)).2.2 rfl
    · refine ⟨f.ext.back (c.fr a (hB a q)).1, fun z => ?_⟩
      rcases z with z | z
      · exact (c.fr a (hB a q)).2.1 z
      · exact n3 a q a z rfl
abbrev W0 : WX := fun _ _ _ _ => False
theorem comp_core (hK : g.K = X.K) {k : SK} {args : List Ex} {tg : List Nat} (hpr : k.isPr = true → 2 ≤ tg.length) {xelt : Ex} {cnd : Ev → RT} {tt : TT} (htt : ∀ σ H Q S δ, Rep0 g H S δ σ → RFT g xg H S (cnd δ) (fun _ _ _ => False) Q → tt σ H Q)
    {σ : L2.St} {H : Hp} {Q : VK} {S : Rg} {δ : Ev} (rep : Rep0 g H S δ σ)
    (h : RF g xg H S ((evL Γ args δ).bind fun l => match items k l with
      | none => .bad
      | some xs => (compL tg (evE Γ xelt) cnd xs (wipeE δ tg)).bindN newL) (fun c d H' => W c d σ H') Q) :
    tLc (RdI g xg Γ W k args) (gT X.K tg) tt (RdE g xg Γ W0 xelt) tg σ H Q := by
  refine ⟨S, δ, rep, ?_⟩
  cases e0 : evL Γ args δ with
  | exn x => rw [e0] at h; exact h
  | bad => rw [e0] at h; exact h
  | ok l0 =>
    rw [e0] at h
    simp only [RL.bind_ok] at h
    cases e1 : items k (l0.map (·.1)) with
    | none => rw [e1] at h; exact h.elim
    | some xs =>
      rw [e1] at h
      refine ⟨xs, e1, fun J H1 S1 f1 w0 Dl hD => ?_⟩
      obtain ⟨Gd, Y, wk, hG, hY⟩ := Wk.any w0
      rcases compL_ok (tg := tg) (elt := evE Γ xelt) (cnd := cnd) (xs := xs) (δ := wipeE δ tg) with ⟨L, eL⟩ | eL
      · dsimp only at h
        rw [eL] at h
        simp only [RL.bindN_ok, newL] at h
        split at h
        · rename_i zL
          replace zL := of_decide_eq_true zL
          have kz : ∀ {H' : Hp}, Ext g.TB H1 H' → Kz H1 H' S1 := fun {H'} e => ⟨fun a q o h n => e.st a o h n, .ext e⟩
          refine lc_it wk (fun i H' => ∃ (acc L' : List (D × Nat)) (vs : List V) (A : Fp) (S2 : Rg), compL tg (evE Γ xelt) cnd (xs.drop i) (wipeE δ tg) = .ok L' ∧ acc ++ L' = L ∧ CS g H1 H' S1 S2 Dl acc vs A)
            ⟨[], L, [], [], S1, eL, rfl, ⟨Ext.new hD, fun _ q => q, fun _ q => .inl q, fun a q => ?_, upd_same, fun q => ?_, by unfold OwnN; exact ⟨rfl, rfl⟩, List.nodup_nil, fun a q => nomatch q⟩⟩ (fun i H' _ ⟨acc, L', vs, A, S2, _, _, c⟩ => hG H' (kz c.ext)) (fun i x Ha Hb hi ⟨acc, L', vs, A, S2, q1, q2, c⟩ hy => ?_) (fun H' ⟨acc, L', vs, A, S2, q1, q2, c⟩ => ?_)
          · have : a ≠ Dl := fun e => by have := f1.sz a q; rw [e, hD] at this; cases this
            rw [upd_ne this]
            exact f1.sz a q
          · have := f1.sz Dl q
            rw [hD] at this
            cases this
          · -- a turn
            obtain ⟨d, ed, eh, od⟩ := hY i x Ha Hb hi (kz c.ext) (fun a q => c.sz a (c.sub a q)) hy
            have fab : Fw g.TB Ha Hb S2 S2 := by
              exact ⟨eh, fun _ q => q, fun _ q => .inl q, fun a q => eh.dom a (c.sz a q)⟩
            have cb := c.fw fab
            have dr : xs.drop i = d :: xs.drop (i + 1) := by
              have := (List.getElem?_eq_some_iff.mp ed)
              obtain ⟨hl, he⟩ := this
              rw [← he]
              exact List.drop_eq_getElem_cons hl
            rw [dr] at q1
            unfold compL at q1
            have repb : Rep0 g Hb S2 (wipeE δ tg) (L2.wipe σ tg) := (rep.fw (⟨f1.ext.trans cb.ext, fun a q => cb.sub a (f1.sub a q), fun a q => (cb.new a q).elim (f1.new a) fun z => .inr (f1.ext.back z), cb.sz⟩ : Fw g.TB H Hb S S2)).wipe tg
            have odb : OwnI g Hb S2 k.isPr d x := od.keep (Kp.eq (fun a h => nomatch h) (fun a q => ⟨cb.sub a q, rfl⟩) .refl)
            cases eT : takeE tg d (wipeE δ tg) with
            | none => rw [eT] at q1; cases q1
            | some δ1 =>
              rw [eT] at q1
              dsimp only at q1
              refine takeE_ok hK hpr eT odb repb fun σ1 rep1 hw => ⟨by rw [hw]; exact wipe_wipe tg tg σ fun _ q => q, ?_⟩
              refine htt σ1 Hb _ S2 δ1 rep1 ?_
              cases eC : cnd δ1 with
              | exn x => rw [eC] at q1; cases q1
              | bad => rw [eC] at q1; cases q1
              | ok bv =>
                rw [eC] at q1
                intro H3 S3 f3
                have c3 := cb.fw f3
                cases bv with
                | false =>
                  dsimp only at q1
                  exact iteF ⟨acc, L', vs, A, S3, q1, q2, c3⟩
                | true =>
                  dsimp only at q1
                  refine iteT ⟨S3, δ1, rep1.fw f3, ?_⟩
                  cases eE : evE Γ xelt δ1 with
                  | exn x => rw [eE] at q1; cases q1
                  | bad => rw [eE] at q1; cases q1
                  | ok d2 n2 =>
                    rw [eE] at q1
                    dsimp only at q1
                    intro v H4 S4 T o
                    cases eR : compL tg (evE Γ xelt) cnd (xs.drop (i + 1)) (wipeE δ tg) with
                    | exn x => rw [eR] at q1; cases q1
                    | bad => rw [eR] at q1; cases q1
                    | ok L2 =>
                      rw [eR] at q1
                      cases q1
                      refine ⟨vs, o.ext.st _ _ c3.at_ nTb_lst, ?_, acc ++ [(d2, n2)], L2, vs ++ [v], A ++ T, S4, rfl, by rw [← q2]; simp, CS.snoc hD c3 o⟩
                      have e5 := c3.own.len
                      have : acc.length < L.length := by rw [← q2]; simp
                      show vs.length < sizeLine
                      rw [e5]
                      exact Nat.lt_of_lt_of_le this zL
          · -- the end
            rw [List.drop_length] at q1
            cases q1
            rw [List.append_nil] at q2
            subst q2
            obtain ⟨S3, T, o⟩ := CS.done f1 hD c
            exact h _ _ _ _ o
        · exact h.elim
      · dsimp only at h
        rw [eL] at h
        exact h.elim
end

section
variable {g : G} {xg : XG} {Γ : Fe} {X : Cx} {W : WX}
/-- X is an except suite that holds the exception at a -/
def SuiteOf (X : Cx) (a : Addr) (cls : Value) (dd : Option Addr) : Prop := ∃ oe : Obj, (a, oe) ∈ X.pn ∧ L2N.Zn cls dd oe ∧ (∃ vs, oe.data = .fields vs) ∧ X.A.handled = some (.ref a)
def isCl : Value → Bool
  | .ref _ => true
  | .type _ => true
  | _ => false
/-- an own class of exceptions -/
structure ExK (K : PySem.W.Frag) (C : Addr) : Prop where
  ex : ExcC K C
  noat : PySem.W.findIn K (.ref C) "at" = some none
/-- what is known of the exceptions' classes, where the text stands -/
structure XOk (g : G) (xg : XG) (Γ : Fe) (X : Cx) : Prop where
  st : ∀ a c dd, g.exa = some (a, c, dd) → (∃ C, xg.XV c = .ref C) → SuiteOf X a (xg.XV c) dd
  sb : ∀ i j b, Γ.sub i j = some b → (∃ C, xg.XV i = .ref C ∧ ExK X.K C) ∧ isCl (xg.XV j) = true ∧ PySem.W.kitOne X.K (xg.XV i) (xg.XV j) = some b
end
section
variable {g : G} {xg : XG} {Γ : Fe} {X : Cx} {W : WX} {a : Expr} {xa : Ex} {pos : Pos}
end
end PL
namespace PL
open PySem L2 PyProof.Rows

/-- a slot: its value, how deep its mutable nodes are the slot's own, whether it is locked (walked by a loop around) -/
structure Sl where
  d : D
  n : Nat
  lk : Bool
abbrev En := List (Option Sl)
/-- a step of a path to what is changed -/
inductive Pa | ix (e : Ex) | fld (f : Nat)
/-- what becomes of what a stored value is made of: imm: nothing of it hangs on slots; fz: those slots are given up -/
inductive Fz | imm | fz (l : List Nat)

/-- what changes a slot's object: a call of a method of it; [.. for v in range(a)] of such calls -/
inductive MX | call (j i : Nat) (es : List Ex) (f : Bool) | cmp (v : Nat) (a : Ex) (j i : Nat)
  /-- d.pop(k): tuple keys, immutable values; d.update(e), e another slot's -/
  | pop (j : Nat) (k : Ex) | upd (j i : Nat)

inductive St where
  | asg (i : Nat) (e : Ex) (f : Fz)
  | asgs (tg : List Nat) (e : Ex) (f : Fz)
  | par (i j : Nat) (a b : Ex)
  | setp (j : Nat) (ps : List Pa) (i : Ex) (e : Ex) (f : Fz)
  /-- .. where the path ends at a dict -/
  | setd (j : Nat) (ps : List Pa) (i : Ex) (e : Ex) (f : Fz)
  | setf (j : Nat) (a : Nat) (e : Ex) (f : Fz)
  | app (j : Nat) (ps : List Pa) (e : Ex) (f : Fz)
  | ext (j : Nat) (ps : List Pa) (e : Ex)
  | aug (i : Nat) (e : Ex)
  | chi (i j : Nat) (e : Ex)
  /-- a slot's tuple taken apart, its nodes kept; the slot is let go -/
  | mv (tg : List Nat) (j : Nat)
  | setg (j : Nat) (a : Nat) (e : Ex)
  | clr (j : Nat) (ps : List Pa)
  /-- i = path.pop() -/
  | pop (i j : Nat) (ps : List Pa)
  | ret (e : Ex) | retv (i : Nat) | rett (l : List Nat) | retN
  | ife (c : Ex) (a b : List St)
  | whl (c : Ex) (b : List St)
  | fo (k : SK) (args : List Ex) (tg : List Nat) (lk : List Nat) (f : Fz) (b : List St)
  /-- a for over a slot's dict.get(k, []): the dict locked, its keys tuples, its items immutable -/
  | fog (j : Nat) (tg : List Nat) (k : Ex) (b : List St)
  /-- a for over a list of its own, of immutable things -/
  | fos (e : Ex) (tg : List Nat) (b : List St)
  | ex (e : Ex)
  | raise (c : Nat) (a : Option Ex)
  | tr (p : Nat) (e : Ex) (c : Nat) (b : List St)
  /-- .. a step ahead of it within the try -/
  | tra (pre : St) (p : Nat) (e : Ex) (c : Nat) (b : List St)
  /-- .. except c1: b1, except c as the slot p: b -/
  | tr2 (e : Ex) (c1 : Nat) (b1 : List St) (p c : Nat) (b : List St)
  /-- an expression that changes a slot's object: its value dropped, stored, put behind a list -/
  | exm (m : MX) | asm (t : Nat) (m : MX) | apm (t : Nat) (m : MX)
  /-- a tuple's parts -/
  | ams (tg : List Nat) (m : MX)
  /-- x.f.append(e) -/
  | appf (j a : Nat) (e : Ex) (f : Fz)
  /-- the slot's dict.setdefault(k, []).append(e) -/
  | sda (j : Nat) (k e : Ex)
  /-- .. += the items of a tuple, its nodes kept (path.extend(e)) -/
  | exf (j : Nat) (ps : List Pa) (e : Ex) (f : Fz)
  /-- .. += the items of a list, kept as they are; the slots q are given up -/
  | exl (j : Nat) (ps : List Pa) (e : Ex) (q : List Nat)
  | pass | brk | cont | dead
  deriving Inhabited

inductive OS where
  | nx (ρ : En) | rt (d : D) (n : Nat) | bk (ρ : En) | ct (ρ : En) | exn (e : Exn) | bad
  deriving Inhabited

/-- the frozen view of all slots; of those alone that are frozen or given up -/
def viewA (ρ : En) : Ev := ρ.map (Option.map Sl.d)
def viewF (l : List Nat) : Nat → En → Ev
  | _, [] => []
  | k, s :: ρ => (match s with
    | some s => if s.n = 0 ∨ l.contains k then some s.d else none
    | none => none) :: viewF l (k + 1) ρ
def frzs (l : List Nat) : Nat → En → En
  | _, [] => []
  | k, s :: ρ => (match s with
    | some s => if l.contains k then some { s with n := 0 } else some s
    | none => none) :: frzs l (k + 1) ρ
def locks (l : List Nat) (b : Bool) : Nat → En → En
  | _, [] => []
  | k, s :: ρ => (match s with
    | some s => if l.contains k then some { s with lk := b } else some s
    | none => none) :: locks l b (k + 1) ρ
def lockedAt (i : Nat) (ρ : En) : Bool := match ρ[i]? with
  | some (some s) => s.lk
  | _ => false
inductive OP where
  | ok (d : D) (n : Nat) (ρ : En) | exn (e : Exn) | bad
/-- an expression whose value is stored -/
def evP (Γ : Fe) (e : Ex) (f : Fz) (ρ : En) : OP := match f with
  | .imm => match evE Γ e (viewA ρ) with
    | .ok d n => if immB n d then .ok d n ρ else .bad
    | .exn x => .exn x
    | .bad => .bad
  | .fz l => match evE Γ e (viewF l 0 ρ) with
    | .ok d n => .ok d n (frzs l 0 ρ)
    | .exn x => .exn x
    | .bad => .bad
def OP.bind (r : OP) (f : D → Nat → En → OS) : OS := match r with
  | .ok d n ρ => f d n ρ
  | .exn x => .exn x
  | .bad => .bad
@[simp] theorem OP.bind_ok (d : D) (n : Nat) (ρ : En) (f : D → Nat → En → OS) : (OP.ok d n ρ).bind f = f d n ρ := rfl
/-- .. where nothing is raised -/
def OP.bindM (r : OP) (f : D → Nat → En → OS) : OS := match r with
  | .ok d n ρ => f d n ρ
  | _ => .bad
@[simp] theorem OP.bindM_ok (d : D) (n : Nat) (ρ : En) (f : D → Nat → En → OS) : (OP.ok d n ρ).bindM f = f d n ρ := rfl
def putS (i : Nat) (d : D) (n : Nat) (ρ : En) : OS := if lockedAt i ρ then .bad else .nx (ρ.set i (some ⟨d, n, false⟩))
def bindS : List Nat → List D → En → Option En
  | [], [], ρ => some ρ
  | i :: is, d :: ds, ρ => if lockedAt i ρ then none else bindS is ds (ρ.set i (some ⟨d, 0, false⟩))
  | _, _, _ => none
def takeS (tg : List Nat) (d : D) (ρ : En) : Option En :=
  match tg, d with
  | [i], d => if lockedAt i ρ then none else some (ρ.set i (some ⟨d, 0, false⟩))
  | tg, .tup l => bindS tg l ρ
  | _, _ => none
/-- a path's steps, evaluated -/
inductive PS1 | ix (k : Int) | fld (f : Nat)
def evPs (Γ : Fe) (δ : Ev) : List Pa → Option (List PS1)
  | [] => some []
  | .ix e :: ps => match evE Γ e δ with
    | .ok (.int k) _ => (evPs Γ δ ps).map (.ix k :: ·)
    | _ => none
  | .fld f :: ps => (evPs Γ δ ps).map (.fld f :: ·)
/-- the change: at the end of the path, at a node that is owned, f makes of the node a new one and says how deep it may be owned; the depth at the root -/
def putF1 (f : Nat) (e : D) : List Nat → List D → List D
  | k :: ks, v :: vs => if k = f then e :: vs else v :: putF1 f e ks vs
  | _, vs => vs
/-- the thing at the end of a path; how many owned nodes stand above it -/
def getP : D → List PS1 → Option (D × Nat)
  | d, [] => some (d, 0)
  | .lst l, .ix k :: ps => match ixN l.length k with
    | some j => match l[j]? with
      | some d => (getP d ps).map fun p => (p.1, p.2 + 1)
      | none => none
    | none => none
  | .tup l, .ix k :: ps => match ixN l.length k with
    | some j => match l[j]? with
      | some d => getP d ps
      | none => none
    | none => none
  | .obj c ks vs, .fld f :: ps => match fldL f ks vs with
    | some d => (getP d ps).map fun p => (p.1, p.2 + 1)
    | none => none
  | _, _ => none
/-- another thing put there -/
def putP (e : D) : D → List PS1 → D
  | _, [] => e
  | .lst l, .ix k :: ps => match ixN l.length k with
    | some j => match l[j]? with
      | some d => .lst (l.set j (putP e d ps))
      | none => .lst l
    | none => .lst l
  | .tup l, .ix k :: ps => match ixN l.length k with
    | some j => match l[j]? with
      | some d => .tup (l.set j (putP e d ps))
      | none => .tup l
    | none => .tup l
  | .obj c ks vs, .fld f :: ps => match fldL f ks vs with
    | some d => .obj c ks (putF1 f (putP e d ps) ks vs)
    | none => .obj c ks vs
  | d, _ => d
/-- the list at the end of a path of slot j becomes another one, into which a value owned to depth n (imm: with nothing mutable deeper) went -/
def mutS (j : Nat) (ps : List PS1) (v : D) (n : Nat) (f : List D → Option (List D)) (ρ : En) : OS :=
  match ρ[j]? with
  | some (some s) => if s.lk then .bad else match getP s.d ps with
    | some (.lst l, u) => match f l with
      | some l' => if u < s.n then
          .nx (ρ.set j (some ⟨putP (.lst l') s.d ps, if immB n v ∨ s.n ≤ u + 1 + n then s.n else u + 1 + n, false⟩))
        else .bad
      | none => .bad
    | _ => .bad
  | _ => .bad
/-- the dict at the end of a path of slot j takes an immutable value at a key -/
def mutD (j : Nat) (qs : List PS1) (k v : D) (ρ : En) : OS :=
  match ρ[j]? with
  | some (some s) => if s.lk then .bad else match getP s.d qs with
    | some (.dct ks vs, u) => if keyOk k ks && immB 0 v && immBL 0 vs && decide (u < s.n) && decide (ks.length < szLine) then
        .nx (ρ.set j (some ⟨putP (.dct (putDk k v ks vs).1 (putDk k v ks vs).2) s.d qs, s.n, false⟩))
      else .bad
    | _ => .bad
  | _ => .bad
/-- the path stands in the slot, its end a dict of the slot's own -/
def pathD (j : Nat) (qs : List PS1) (ρ : En) : Bool := match ρ[j]? with
  | some (some s) => (match getP s.d qs with | some (.dct _ _, u) => decide (u < s.n) | _ => false)
  | _ => false
/-- the path stands in the slot, its end a list of the slot's own -/
def pathOk (j : Nat) (qs : List PS1) (ρ : En) : Bool := match ρ[j]? with
  | some (some s) => (match getP s.d qs with | some (.lst _, u) => decide (u < s.n) | _ => false)
  | _ => false
/-- the last thing of the list at a path's end -/
def lastP (j : Nat) (qs : List PS1) (ρ : En) : Option D := match ρ[j]? with
  | some (some s) => (match getP s.d qs with | some (.lst l, _) => l.getLast? | _ => none)
  | _ => none
/-- slots, as they stand -/
def slotsN (ρ : En) : List Nat → Option (List (D × Nat))
  | [] => some []
  | i :: is => match ρ[i]? with
    | some (some s) => (slotsN ρ is).map ((s.d, s.n) :: ·)
    | _ => none
mutual
/-- no object within, no dict -/
def nObj : D → Bool
  | .lst l => nObjL l
  | .tup l => nObjL l
  | .obj _ _ _ => false
  | .dct _ _ => false
  | .exc _ _ => false
  | _ => true
def nObjL : List D → Bool
  | [] => true
  | d :: l => nObj d && nObjL l
end
def nExO : Option Sl → Bool
  | none => true
  | some s => nEx s.d
/-- behind an except suite -/
def outS (p : Nat) : OS → OS
  | .nx ρ => if (ρ.set p none).all nExO && !lockedAt p ρ then .nx (ρ.set p none) else .bad
  | .rt d n => if nEx d then .rt d n else .bad
  | _ => .bad
/-- behind an except suite that names nothing -/
def outQ : OS → OS
  | .nx ρ => if ρ.all nExO then .nx ρ else .bad
  | .rt d n => if nEx d then .rt d n else .bad
  | _ => .bad
/-- an attribute of slot j -/
def setA (fo : Nat → Nat → Bool) (j a : Nat) (v : D) (n : Nat) (ρ : En) : OS :=
  match ρ[j]? with
  | some (some s) => if s.lk then .bad else match s.d with
    | .obj c ks vs => if fo c a && decide (0 < s.n) && decide (ks.length < 1000) then
        .nx (ρ.set j (some ⟨if ks.contains a then .obj c ks (putF1 a v ks vs) else .obj c (ks ++ [a]) (vs ++ [v]), if immB n v ∨ s.n ≤ 1 + n then s.n else 1 + n, false⟩))
      else .bad
    | _ => .bad
  | _ => .bad

/-- a for: over the items, one behind another -/
def forS (tg : List Nat) (b : En → OS) : List D → En → OS
  | [], ρ => .nx ρ
  | x :: xs, ρ => match takeS tg x ρ with
    | none => .bad
    | some ρ1 => match b ρ1 with
      | .nx ρ2 => forS tg b xs ρ2
      | .ct ρ2 => forS tg b xs ρ2
      | .bk ρ2 => .nx ρ2
      | .rt d n => .rt d n
      | .exn e => .exn e
      | .bad => .bad
/-- a while, at most so many turns -/
def whlN (c : En → RT) (b : En → OS) : Nat → En → Option OS
  | 0, _ => none
  | k + 1, ρ => match c ρ with
    | .ok true => match b ρ with
      | .nx ρ2 => whlN c b k ρ2
      | .ct ρ2 => whlN c b k ρ2
      | .bk ρ2 => some (.nx ρ2)
      | .rt d n => some (.rt d n)
      | .exn e => some (.exn e)
      | .bad => some .bad
    | .ok false => some (.nx ρ)
    | .exn e => some (.exn e)
    | .bad => some .bad
open Classical in
/-- a while, to its end -/
noncomputable def whlC (c : En → RT) (b : En → OS) (ρ : En) : OS := if h : ∃ k, (whlN c b k ρ).isSome then (whlN c b (Classical.choose h) ρ).getD .bad else .bad
theorem whlN_mono {c : En → RT} {b : En → OS} : ∀ {k : Nat} {ρ : En} {o : OS}, whlN c b k ρ = some o → whlN c b (k + 1) ρ = some o
  | 0, _, _, h => by cases h
  | k + 1, ρ, o, h => by
    unfold whlN at h ⊢
    split at h
    · rename_i e
      split at h
      · exact whlN_mono h
      · exact whlN_mono h
      all_goals exact h
    all_goals exact h
theorem whlN_le {c : En → RT} {b : En → OS} {k m : Nat} {ρ : En} {o : OS} (h : whlN c b k ρ = some o) (hm : k ≤ m) : whlN c b m ρ = some o := by
  induction hm with
  | refl => exact h
  | step _ ih => exact whlN_mono ih
theorem whlC_of {c : En → RT} {b : En → OS} {k : Nat} {ρ : En} {o : OS} (h : whlN c b k ρ = some o) : whlC c b ρ = o := by
  unfold whlC
  have hx : ∃ k, (whlN c b k ρ).isSome := ⟨k, by rw [h]; rfl⟩
  rw [dif_pos hx]
  have hs := Classical.choose_spec hx
  generalize Classical.choose hx = m at hs
  cases e : whlN c b m ρ with
  | none => rw [e] at hs; cases hs
  | some o' =>
    have h1 := whlN_le h (Nat.le_max_left k m)
    have h2 := whlN_le e (Nat.le_max_right k m)
    rw [h1] at h2
    cases h2
    rfl
theorem whlC_some {c : En → RT} {b : En → OS} {ρ : En} (h : whlC c b ρ ≠ .bad) : ∃ k, whlN c b k ρ = some (whlC c b ρ) := by
  by_cases hx : ∃ k, (whlN c b k ρ).isSome
  · obtain ⟨k, hk⟩ := hx
    cases e : whlN c b k ρ with
    | none => rw [e] at hk; cases hk
    | some o => exact ⟨k, by rw [whlC_of e]; exact e⟩
  · exfalso
    apply h
    unfold whlC
    rw [dif_neg hx]
/-- one turn of a while -/
theorem whlC_eq (c : En → RT) (b : En → OS) (ρ : En) : whlC c b ρ = match c ρ with
    | .ok true => match b ρ with
      | .nx ρ2 => whlC c b ρ2
      | .ct ρ2 => whlC c b ρ2
      | .bk ρ2 => .nx ρ2
      | .rt d n => .rt d n
      | .exn e => .exn e
      | .bad => .bad
    | .ok false => .nx ρ
    | .exn e => .exn e
    | .bad => .bad := by
  have one : ∀ o, whlN c b 1 ρ = some o → whlC c b ρ = o := fun o h => whlC_of h
  have two : ∀ ρ2, (∀ k, whlN c b (k + 1) ρ = whlN c b k ρ2) → whlC c b ρ = whlC c b ρ2 := fun ρ2 h => by
    by_cases hb : whlC c b ρ2 = .bad
    · by_cases hx : ∃ k, (whlN c b k ρ2).isSome
      · obtain ⟨k, hk⟩ := hx
        cases e : whlN c b k ρ2 with
        | none => rw [e] at hk; cases hk
        | some o => rw [whlC_of e, whlC_of (k := k + 1) (by rw [h]; exact e)]
      · rw [hb]
        unfold whlC
        rw [dif_neg]
        rintro ⟨k, hk⟩
        cases k with
        | zero => cases hk
        | succ k => rw [h] at hk; exact hx ⟨k, hk⟩
    · obtain ⟨k, e⟩ := whlC_some hb
      exact whlC_of (k := k + 1) (by rw [h]; exact e)
  split
  · rename_i ec
    split
    · rename_i ρ2 eb; exact two ρ2 fun k => by show (match c ρ with | .ok true => _ | .ok false => _ | .exn e => _ | .bad => _) = _; rw [ec]; dsimp only; rw [eb]
    · rename_i ρ2 eb; exact two ρ2 fun k => by show (match c ρ with | .ok true => _ | .ok false => _ | .exn e => _ | .bad => _) = _; rw [ec]; dsimp only; rw [eb]
    · rename_i ρ2 eb; exact one _ (by show (match c ρ with | .ok true => _ | .ok false => _ | .exn e => _ | .bad => _) = _; rw [ec]; dsimp only; rw [eb])
    · rename_i d n eb; exact one _ (by show (match c ρ with | .ok true => _ | .ok false => _ | .exn e => _ | .bad => _) = _; rw [ec]; dsimp only; rw [eb])
    · rename_i x eb; exact one _ (by show (match c ρ with | .ok true => _ | .ok false => _ | .exn e => _ | .bad => _) = _; rw [ec]; dsimp only; rw [eb])
    · rename_i eb; exact one _ (by show (match c ρ with | .ok true => _ | .ok false => _ | .exn e => _ | .bad => _) = _; rw [ec]; dsimp only; rw [eb])
  · rename_i ec; exact one _ (by show (match c ρ with | .ok true => _ | .ok false => _ | .exn e => _ | .bad => _) = _; rw [ec])
  · rename_i x ec; exact one _ (by show (match c ρ with | .ok true => _ | .ok false => _ | .exn e => _ | .bad => _) = _; rw [ec])
  · rename_i ec; exact one _ (by show (match c ρ with | .ok true => _ | .ok false => _ | .exn e => _ | .bad => _) = _; rw [ec])

def OS.seq (o : OS) (f : En → OS) : OS := match o with
  | .nx ρ => f ρ
  | o => o
@[simp] theorem OS.seq_nx (ρ : En) (f : En → OS) : (OS.nx ρ).seq f = f ρ := rfl
@[simp] theorem OS.seq_rt (d : D) (n : Nat) (f : En → OS) : (OS.rt d n).seq f = .rt d n := rfl
@[simp] theorem OS.seq_bk (ρ : En) (f : En → OS) : (OS.bk ρ).seq f = .bk ρ := rfl
@[simp] theorem OS.seq_ct (ρ : En) (f : En → OS) : (OS.ct ρ).seq f = .ct ρ := rfl
@[simp] theorem OS.seq_exn (e : Exn) (f : En → OS) : (OS.exn e).seq f = .exn e := rfl
@[simp] theorem OS.seq_bad (f : En → OS) : OS.bad.seq f = .bad := rfl
/-- behind a for its locks go -/
def OS.unlock (l : List Nat) (o : OS) : OS := match o with
  | .nx ρ => .nx (locks l false 0 ρ)
  | .bk ρ => .bad
  | .ct ρ => .bad
  | o => o
def anyLocked (l : List Nat) (ρ : En) : Bool := l.any fun i => lockedAt i ρ

def bindN (n : Nat) : List Nat → List D → En → Option En
  | [], [], ρ => some ρ
  | i :: is, d :: ds, ρ => if lockedAt i ρ then none else bindN n is ds (ρ.set i (some ⟨d, n, false⟩))
  | _, _, _ => none
def mvS (tg : List Nat) (j : Nat) (ρ : En) : OS := match ρ[j]? with
  | some (some ⟨.tup l, n, false⟩) => (match bindN n tg l (ρ.set j none) with | some ρ2 => .nx ρ2 | none => .bad)
  | _ => .bad
/-- a method's call -/
noncomputable def evMC (Γ : Fe) (j i : Nat) (es : List Ex) (f : Bool) (ρ : En) : OP := match ρ[j]? with
  | some (some ⟨.obj c ks vs, n + 1, false⟩) => if Γ.muh i c then (match evL Γ es (viewA (if f then ρ else ρ.set j none)) with
      | .ok l => if !f || l.all (fun p => immB p.2 p.1) then (match Γ.mu i c (.obj c ks vs) (n + 1) (l.map (·.1)) with
          | some (d, s', n') => if immB 0 d && immB n' s' then .ok d 0 (ρ.set j (some ⟨s', n', false⟩)) else .bad
          | none => .bad) else .bad
      | _ => .bad) else .bad
  | _ => .bad
def foAt (fo : Nat → Nat → Bool) (j a : Nat) (ρ : En) : Bool := match ρ[j]? with
  | some (some s) => (match s.d with | .obj c _ _ => fo c a | _ => false)
  | _ => false
def repM (f : En → OP) : Nat → En → Option (List D × En)
  | 0, ρ => some ([], ρ)
  | k + 1, ρ => match f ρ with
    | .ok d _ ρ1 => (repM f k ρ1).map fun p => (d :: p.1, p.2)
    | _ => none
/-- without a key -/
def dpK (k : D) : List D → List D → List D × List D
  | q :: ks, v :: vs => if keyD q k then dpK k ks vs else (q :: (dpK k ks vs).1, v :: (dpK k ks vs).2)
  | _, _ => ([], [])
noncomputable def evPop (Γ : Fe) (j : Nat) (xk : Ex) (ρ : En) : OP := match ρ[j]? with
  | some (some ⟨.dct ks vs, n + 1, false⟩) => (match evE Γ xk (viewA ρ) with
    | .ok kd _ => if (ks.mapM D.keyT).isSome && kd.keyT.isSome && immBL 0 vs then (match lookD kd ks vs with
        | some d => .ok d 0 (ρ.set j (some ⟨.dct (dpK kd ks vs).1 (dpK kd ks vs).2, n + 1, false⟩))
        | none => .bad) else .bad
    | _ => .bad)
  | _ => .bad
def evUpd (j i : Nat) (ρ : En) : OP := match ρ[j]?, ρ[i]? with
  | some (some ⟨.dct ks vs, n + 1, false⟩), some (some ⟨.dct ks2 vs2, n2 + 1, false⟩) =>
    if (decide (i ≠ j) && (ks.mapM D.keyT).isSome && (ks2.mapM D.keyT).isSome && immBL 0 vs && immBL 0 vs2) && (!ks.isEmpty || (!ks2.isEmpty && ks2.all stdK)) && decide (ks.length + ks2.length ≤ szLine) then
      .ok .non 0 (ρ.set j (some ⟨.dct (putAll (ks2.zip vs2) (ks, vs)).1 (putAll (ks2.zip vs2) (ks, vs)).2, n + 1, false⟩)) else .bad
  | _, _ => .bad
def amsS (tg : List Nat) (o : OP) : OS := match o with
  | .ok (.tup l) _ ρ => (match bindS tg l ρ with | some ρ2 => .nx ρ2 | none => .bad)
  | _ => .bad
noncomputable def evM (Γ : Fe) : MX → En → OP
  | .call j i es f, ρ => evMC Γ j i es f ρ
  | .cmp v a j i, ρ => match ρ[v]?, evE Γ a (viewA ρ) with
    | some none, .ok (.int k) _ => if smallI k && decide (k.toNat ≤ 1000000) then (match repM (evMC Γ j i [] true) k.toNat ρ with
        | some (ds, ρ') => .ok (.lst ds) 10 ρ'
        | none => .bad) else .bad
    | _, _ => .bad
  | .pop j k, ρ => evPop Γ j k ρ
  | .upd j i, ρ => evUpd j i ρ
/-- where a key stands first -/
def ixK (k : D) : List D → Option Nat
  | [] => none
  | q :: ks => if keyD q k then some 0 else (ixK k ks).map (· + 1)
def sdS (kd : D) (j : Nat) (ρ : En) : Option (Nat × En) := match ρ[j]? with
  | some (some ⟨.dct ks vs, n + 2, false⟩) => if (ks.mapM D.keyT).isSome && decide (ks.length < szLine) && kd.keyT.isSome then
      (match ixK kd ks with
      | some i => some (i, ρ)
      | none => some (ks.length, ρ.set j (some ⟨.dct (ks ++ [kd]) (vs ++ [.lst []]), n + 2, false⟩))) else none
  | _ => none
def sdA (i j : Nat) (d : D) (ρ : En) : OS := match ρ[j]? with
  | some (some ⟨.dct ks vs, n + 2, false⟩) => (match vs[i]? with
    | some (.lst l) => if immB 0 d && (ks.mapM D.keyT).isSome && decide (l.length < szLine) then .nx (ρ.set j (some ⟨.dct ks (vs.set i (.lst (l ++ [d]))), n + 2, false⟩)) else .bad
    | _ => .bad)
  | _ => .bad
def sdaS (Γ : Fe) (j : Nat) (xk xe : Ex) (ρ : En) : OS := match evE Γ xk (viewA ρ) with
  | .ok kd _ => (match sdS kd j ρ with
    | some (i, ρ1) => (match evE Γ xe (viewA ρ1) with
      | .ok d _ => sdA i j d ρ1
      | _ => .bad)
    | none => .bad)
  | _ => .bad
/-- a tuple's items put behind a list -/
def exfF (d : D) (l : List D) : Option (List D) := match d with
  | .tup l2 => if decide (l.length + l2.length ≤ szLine) then some (l ++ l2) else none
  | _ => none
/-- a list that owns no item -/
def pop1 (j : Nat) (qs : List PS1) (ρ : En) : Bool := match qs, ρ[j]? with
  | [], some (some s) => decide (s.n = 1)
  | _, _ => false
noncomputable def fogS (Γ : Fe) (j : Nat) (tg : List Nat) (xk : Ex) (b : En → OS) (ρ : En) : OS := match ρ[j]? with
  | some (some ⟨.dct ks vs, n, false⟩) => (match evE Γ xk (viewA ρ) with
    | .ok kd _ => if keyOk kd ks && kd.keyT.isSome then (match lookD kd ks vs with
        | some (.lst l) => if immBL 0 l then (forS tg b l (locks [j] true 0 ρ)).unlock [j] else .bad
        | none => .nx ρ
        | _ => .bad) else .bad
    | _ => .bad)
  | _ => .bad
mutual
noncomputable def exS (Γ : Fe) : St → En → OS
  | .mv tg j, ρ => mvS tg j ρ
  | .asg i e f, ρ => (evP Γ e f ρ).bind fun d n ρ1 => putS i d n ρ1
  | .asgs tg e f, ρ => (evP Γ e f ρ).bind fun d n ρ1 => match d with
    | .tup l => (match bindS tg l ρ1 with | some ρ2 => .nx ρ2 | none => .bad)
    | .lst l => (match bindS tg l ρ1 with | some ρ2 => .nx ρ2 | none => .bad)
    | _ => .bad
  | .par i j a b, ρ => match evL Γ [a, b] (viewA ρ) with
    | .ok [(d1, n1), (d2, n2)] => if immB n1 d1 && immB n2 d2 && decide (i ≠ j) then (putS i d1 n1 ρ).seq (putS j d2 n2) else .bad
    | .exn x => .exn x
    | _ => .bad
  | .setd j ps i e f, ρ => (evP Γ e f ρ).bind fun d n ρ1 => match evPs Γ (viewA ρ1) ps with
    | some qs => if immB 0 d && pathD j qs ρ1 then (match evE Γ i (viewA ρ1) with
      | .ok k _ => mutD j qs k d ρ1
      | .exn x => .exn x
      | .bad => .bad) else .bad
    | none => .bad
  | .setp j ps i e f, ρ => (evP Γ e f ρ).bind fun d n ρ1 => match evPs Γ (viewA ρ1) (ps ++ [.ix i]) with
    | some qs => match qs.getLast? with
      | some (.ix k) => mutS j qs.dropLast d n (fun l => match ixN l.length k with | some m => some (l.set m d) | none => none) ρ1
      | _ => .bad
    | none => .bad
  | .setf j a e f, ρ => (evP Γ e f ρ).bind fun d n ρ1 => setA Γ.fo j a d n ρ1
  | .app j ps e f, ρ => match evPs Γ (viewA ρ) ps with
    | some qs => if pathOk j qs ρ then (evP Γ e f ρ).bind fun d n ρ1 => mutS j qs d n (fun l => if decide (l.length < szLine) then some (l ++ [d]) else none) ρ1 else .bad
    | none => .bad
  | .ext j ps e, ρ => match evPs Γ (viewA ρ) ps with
    | some qs => if pathOk j qs ρ then (match evE Γ e (viewA ρ) with
      | .ok (.lst l2) _ => if l2.all flatD || immBL 0 l2 then mutS j qs .non 0 (fun l => if decide (l.length + l2.length ≤ szLine) then some (l ++ l2) else none) ρ else .bad
      | .ok (.tup l2) _ => if immBL 0 l2 then mutS j qs .non 0 (fun l => if decide (l.length + l2.length ≤ szLine) then some (l ++ l2) else none) ρ else .bad
      | .exn x => .exn x
      | _ => .bad) else .bad
    | none => .bad
  | .clr j ps, ρ => match evPs Γ (viewA ρ) ps with
    | some qs => if pathOk j qs ρ then mutS j qs .non 0 (fun _ => some []) ρ else .bad
    | none => .bad
  | .pop i j ps, ρ => match evPs Γ (viewA ρ) ps with
    | some qs => if pathOk j qs ρ then (match lastP j qs ρ with
        | some d => if (immB 0 d || pop1 j qs ρ) && decide (i ≠ j) then (mutS j qs .non 0 (fun l => some l.dropLast) ρ).seq (putS i d 0) else .bad
        | none => .bad) else .bad
    | none => .bad
  | .setg j a e, ρ => match ρ[j]? with
    | some (some ⟨.obj c ks vs, n + 1, lk⟩) => (match evE Γ e (viewF [j] 0 ρ) with
      | .ok d _ => if !lk && nObj d && Γ.fo c a && decide (ks.length < 1000) then
          .nx (ρ.set j (some ⟨if ks.contains a then .obj c ks (putF1 a d ks vs) else .obj c (ks ++ [a]) (vs ++ [d]), 1, false⟩)) else .bad
      | .exn x => .exn x
      | .bad => .bad)
    | _ => .bad
  | .chi i j e, ρ => match ρ[j]? with
    | some (some ⟨.lst l, n + 1, lk⟩) => (match evE Γ e (viewA ρ) with
      | .ok (.int k) _ => (match atI l k with
        | some d => if lk || decide (i = j) then .bad else putS i d 0 (ρ.set j (some ⟨.lst l, 1, false⟩))
        | none => .bad)
      | _ => .bad)
    | _ => .bad
  | .aug i e, ρ => match ρ[i]? with
    | some (some s) => (match s.d with
      | .int a => (match evE Γ e (viewA ρ) with
        | .ok (.int b) _ => putS i (.int (a + b)) 0 ρ
        | .exn x => .exn x
        | _ => .bad)
      | _ => .bad)
    | _ => .bad
  | .ret e, ρ => match evE Γ e (viewA ρ) with
    | .ok d n => .rt d n
    | .exn x => .exn x
    | .bad => .bad
  | .retv i, ρ => match ρ[i]? with
    | some (some s) => .rt s.d s.n
    | _ => .bad
  | .rett l, ρ => if decide l.Nodup && decide (l.length ≤ szLine) then (match slotsN ρ l with
      | some ds => .rt (.tup (ds.map (·.1))) (dep ds)
      | none => .bad) else .bad
  | .retN, _ => .rt .non 0
  | .ife c a b, ρ => match evT Γ c (viewA ρ) with
    | .ok true => exB Γ a ρ
    | .ok false => exB Γ b ρ
    | .exn x => .exn x
    | .bad => .bad
  | .whl c b, ρ => whlC (fun ρ => evT Γ c (viewA ρ)) (exB Γ b) ρ
  | .fo k args tg lk f b, ρ => if k.isRng then (match evL Γ args (viewA ρ) with
      | .ok l => (match items k (l.map (·.1)) with
        | some xs => forS tg (exB Γ b) xs ρ
        | none => .bad)
      | .exn x => .exn x
      | .bad => .bad)
    else match f with
    | .imm => (match evL Γ args (viewF lk 0 ρ) with
      | .ok l => (match items k (l.map (·.1)) with
        | some xs => if immBL 0 xs && !anyLocked lk ρ then (forS tg (exB Γ b) xs (locks lk true 0 ρ)).unlock lk else .bad
        | none => .bad)
      | .exn x => .exn x
      | .bad => .bad)
    | .fz q => (match evL Γ args (viewF q 0 ρ) with
      | .ok l => (match items k (l.map (·.1)) with
        | some xs => forS tg (exB Γ b) xs (frzs q 0 ρ)
        | none => .bad)
      | .exn x => .exn x
      | .bad => .bad)
  | .fog j tg k b, ρ => fogS Γ j tg k (exB Γ b) ρ
  | .fos e tg b, ρ => match evE Γ e (viewA ρ) with
    | .ok (.lst l) n => if decide (0 < n) && immBL 0 l then forS tg (exB Γ b) l ρ else .bad
    | .exn x => .exn x
    | _ => .bad
  | .ex e, ρ => match evE Γ e (viewA ρ) with
    | .ok _ _ => .nx ρ
    | .exn x => .exn x
    | .bad => .bad
  | .raise c a, ρ => match a with
    | none => if Γ.rz c then .exn ⟨c, none⟩ else .bad
    | some e => if Γ.ra c then (match evE Γ e (viewA ρ) with
      | .ok d _ => if flatD d then .exn ⟨c, some d⟩ else .bad
      | .exn x => .exn x
      | .bad => .bad) else .bad
  | .tr p e c b, ρ => match evE Γ e (viewA ρ) with
    | .ok _ _ => .nx ρ
    | .exn x => match Γ.sub x.c c with
      | some true => if lockedAt p ρ || !decide (p < ρ.length) then .bad else outS p (exB Γ b (ρ.set p (some ⟨.exc x.c x.a.toList, 0, false⟩)))
      | some false => .exn x
      | none => .bad
    | .bad => .bad
  | .tr2 e c1 b1 p c b, ρ => match evE Γ e (viewA ρ) with
    | .ok _ _ => .nx ρ
    | .exn x => match Γ.sub x.c c1 with
      | some true => outQ (exB Γ b1 ρ)
      | some false => (match Γ.sub x.c c with
        | some true => if lockedAt p ρ || !decide (p < ρ.length) then .bad else outS p (exB Γ b (ρ.set p (some ⟨.exc x.c x.a.toList, 0, false⟩)))
        | some false => .exn x
        | none => .bad)
      | none => .bad
    | .bad => .bad
  | .tra pre p e c b, ρ0 => match exS Γ pre ρ0 with
    | .nx ρ => (match evE Γ e (viewA ρ) with
        | .ok _ _ => .nx ρ
        | .exn x => match Γ.sub x.c c with
          | some true => if lockedAt p ρ || !decide (p < ρ.length) then .bad else outS p (exB Γ b (ρ.set p (some ⟨.exc x.c x.a.toList, 0, false⟩)))
          | some false => .exn x
          | none => .bad
        | .bad => .bad)
    | _ => .bad
  | .sda j k e, ρ => sdaS Γ j k e ρ
  | .exf j ps e f, ρ => match evPs Γ (viewA ρ) ps with
    | some qs => if pathOk j qs ρ then (evP Γ e f ρ).bind fun d n ρ1 => mutS j qs d n (exfF d) ρ1 else .bad
    | none => .bad
  | .exl j ps e q, ρ => match evPs Γ (viewA ρ) ps with
    | some qs => if pathOk j qs ρ then (match evE Γ e (viewF q 0 ρ) with
      | .ok (.lst l2) _ => mutS j qs (.lst l2) 0 (fun l => if decide (l.length + l2.length ≤ szLine) then some (l ++ l2) else none) (frzs q 0 ρ)
      | .exn x => .exn x
      | _ => .bad) else .bad
    | none => .bad
  | .appf j a e f, ρ => if foAt Γ.fo j a ρ && pathOk j [.fld a] ρ then (evP Γ e f ρ).bind fun d n ρ1 => mutS j [.fld a] d n (fun l => if decide (l.length < szLine) then some (l ++ [d]) else none) ρ1 else .bad
  | .exm m, ρ => (evM Γ m ρ).bindM fun _ _ ρ1 => .nx ρ1
  | .asm t m, ρ => (evM Γ m ρ).bindM fun d n ρ1 => putS t d n ρ1
  | .ams tg m, ρ => amsS tg (evM Γ m ρ)
  | .apm t m, ρ => if pathOk t [] ρ then (evM Γ m ρ).bindM fun d n ρ1 => mutS t [] d n (fun l => if decide (l.length < szLine) then some (l ++ [d]) else none) ρ1 else .bad
  | .pass, ρ => .nx ρ
  | .brk, ρ => .bk ρ
  | .cont, ρ => .ct ρ
  | .dead, ρ => .bad
noncomputable def exB (Γ : Fe) : List St → En → OS
  | [], ρ => .nx ρ
  | s :: ss, ρ => (exS Γ s ρ).seq (exB Γ ss)
end
/-- a def: its slots, its parameters first -/
noncomputable def runF (Γ : Fe) (slots np : Nat) (b : List St) (ds : List D) : Res :=
  if ds.length = np then match exB Γ b (ds.map (fun d => some ⟨d, 0, false⟩) ++ List.replicate (slots - np) none) with
    | .nx _ => .ok .non 0
    | .rt d n => .ok d n
    | .exn e => .exn e
    | _ => .bad
  else .bad
end PL
namespace PL
open PySem L2 PyProof.Rows
section
variable {g : G} {xg : XG} {Γ : Fe} {X : Cx} {W : WX}

/-- the state of a body: each slot's tree stands, its own nodes are at its place in As, the rest in S -/
structure Rep (g : G) (H : Hp) (S : Rg) (As : List Fp) (ρ : En) (σ : L2.St) : Prop where
  tab : TabG g H
  sz : ∀ a, S a → (H a).isSome = true
  len : ρ.length = σ.length
  lenA : As.length = ρ.length
  at_ : ∀ (i : Nat) (s : Sl), ρ[i]? = some (some s) → ∃ (v : V) (A : Fp), σ[i]? = some (some v) ∧ As[i]? = some A ∧ Own g H S s.n s.d v A
  no : ∀ i : Nat, ρ[i]? = some none → As[i]? = some []
  nd : As.flatten.Nodup
  dis : ∀ a ∈ As.flatten, ¬ S a
  slf : ∀ w, g.self = some w → σ[0]? = some (some w)
/-- slot i may be stored to -/
def Fre (g : G) (i : Nat) : Prop := ∀ w, g.self = some w → i ≠ 0
theorem mem_flat {As : List Fp} {i : Nat} {A : Fp} {a : Addr} (h : As[i]? = some A) (q : a ∈ A) : a ∈ As.flatten := List.mem_flatten.mpr ⟨A, List.mem_of_getElem? h, q⟩
theorem of_flat {As : List Fp} {a : Addr} (h : a ∈ As.flatten) : ∃ (i : Nat) (A : Fp), As[i]? = some A ∧ a ∈ A := by
  obtain ⟨A, h1, h2⟩ := List.mem_flatten.mp h
  obtain ⟨i, h3⟩ := List.mem_iff_getElem?.mp h1
  exact ⟨i, A, h3, h2⟩
theorem Rep.slot {H : Hp} {S : Rg} {As : List Fp} {ρ : En} {σ : L2.St} (r : Rep g H S As ρ σ) {i : Nat} {A : Fp} {a : Addr} (h : As[i]? = some A) (q : a ∈ A) : ∃ s v, ρ[i]? = some (some s) ∧ σ[i]? = some (some v) ∧ Own g H S s.n s.d v A := by
  have hi : i < ρ.length := by rw [← r.lenA]; exact (List.getElem?_eq_some_iff.mp h).1
  cases e : ρ[i] with
  | none =>
    have := r.no i (by rw [List.getElem?_eq_getElem hi, e])
    rw [h] at this
    cases this
    cases q
  | some s =>
    have e1 : ρ[i]? = some (some s) := by rw [List.getElem?_eq_getElem hi, e]
    obtain ⟨v, A', h1, h2, h3⟩ := r.at_ i s e1
    rw [h] at h2
    cases h2
    exact ⟨s, v, e1, h1, h3⟩
theorem Rep.there {H : Hp} {S : Rg} {As : List Fp} {ρ : En} {σ : L2.St} (r : Rep g H S As ρ σ) {a : Addr} (h : a ∈ As.flatten) : (H a).isSome = true := by
  obtain ⟨i, A, h1, h2⟩ := of_flat h
  obtain ⟨s, v, _, _, o⟩ := r.slot h1 h2
  exact o.there a h2
/-- two slots own nothing together -/
theorem nd_slots {As : List Fp} (nd : As.flatten.Nodup) {i j : Nat} {A B : Fp} {a : Addr} (hi : As[i]? = some A) (hj : As[j]? = some B) (ha : a ∈ A) (hb : a ∈ B) : i = j := by
  induction As generalizing i j with
  | nil => simp at hi
  | cons C As ih =>
    rw [List.flatten_cons] at nd
    obtain ⟨n1, n2, n3⟩ := List.nodup_append.mp nd
    cases i with
    | zero =>
      cases j with
      | zero => rfl
      | succ j =>
        simp at hi hj
        subst hi
        exact absurd rfl (n3 a ha a (mem_flat hj hb))
    | succ i =>
      cases j with
      | zero =>
        simp at hi hj
        subst hj
        exact absurd rfl (n3 a hb a (mem_flat hi ha))
      | succ j =>
        simp at hi hj
        rw [ih n2 hi hj]
theorem nd_one {As : List Fp} (nd : As.flatten.Nodup) {i : Nat} {A : Fp} (hi : As[i]? = some A) : A.Nodup := by
  induction As generalizing i with
  | nil => simp at hi
  | cons C As ih =>
    rw [List.flatten_cons] at nd
    obtain ⟨n1, n2, n3⟩ := List.nodup_append.mp nd
    cases i with
    | zero => simp at hi; subst hi; exact n1
    | succ i => simp at hi; exact ih n2 hi
theorem nd_set {As : List Fp} (nd : As.flatten.Nodup) {i : Nat} {T : Fp} (nT : T.Nodup) (h : ∀ a ∈ T, ∀ j A, As[j]? = some A → j ≠ i → a ∉ A) : (As.set i T).flatten.Nodup := by
  induction As generalizing i with
  | nil => simp
  | cons C As ih =>
    rw [List.flatten_cons] at nd
    obtain ⟨n1, n2, n3⟩ := List.nodup_append.mp nd
    cases i with
    | zero =>
      show (T :: As).flatten.Nodup
      rw [List.flatten_cons]
      refine List.nodup_append.mpr ⟨nT, n2, fun a ha b hb e => ?_⟩
      subst e
      obtain ⟨j, A, h1, h2⟩ := of_flat hb
      exact h a ha (j + 1) A (by simpa using h1) (by omega) h2
    | succ i =>
      show (C :: As.set i T).flatten.Nodup
      rw [List.flatten_cons]
      refine List.nodup_append.mpr ⟨n1, ih n2 fun a ha j A hj hne => h a ha (j + 1) A (by simpa using hj) (by omega), fun a ha b hb e => ?_⟩
      subst e
      obtain ⟨j, A, h1, h2⟩ := of_flat hb
      by_cases hj : i = j
      · subst hj
        have hl : i < As.length := by have := (List.getElem?_eq_some_iff.mp h1).1; rwa [List.length_set] at this
        rw [List.getElem?_set_self hl] at h1
        cases h1
        exact h a h2 0 C (by simp) (by omega) ha
      · rw [List.getElem?_set_ne hj] at h1
        exact n3 a ha a (mem_flat h1 h2) rfl
theorem set_at {α : Type} {l : List α} {i j : Nat} {x y : α} (h : (l.set i x)[j]? = some y) : (i = j ∧ y = x) ∨ (i ≠ j ∧ l[j]? = some y) := by
  by_cases e : i = j
  · subst e
    have hl : i < l.length := by have := (List.getElem?_eq_some_iff.mp h).1; rwa [List.length_set] at this
    rw [List.getElem?_set_self hl] at h
    exact .inl ⟨rfl, (Option.some.inj h).symm⟩
  · rw [List.getElem?_set_ne e] at h
    exact .inr ⟨e, h⟩

/-- what of slot i is locked -/
def Lk (ρ : En) (As : List Fp) (i : Nat) (a : Addr) : Prop := ∃ s A, ρ[i]? = some (some s) ∧ s.lk = true ∧ As[i]? = some A ∧ a ∈ A
/-- what stands stays, but what unlocked slots own; tables grow -/
structure FrX (T : List (Addr × Str)) (H : Hp) (As : List Fp) (ρ : En) (H' : Hp) : Prop where
  st : ∀ a o, H a = some o → nTb o → (a ∉ As.flatten ∨ ∃ i, Lk ρ As i a) → H' a = some o
  dom : ∀ a, (H a).isSome = true → (H' a).isSome = true
  tab : LamX.Tabs T H → LamX.Tabs T H'
  cod : ∀ c q, H c = some (LamX.CodeO c q) → H' c = some (LamX.CodeO c q)
theorem FrX.ofExt {H H' : Hp} {As : List Fp} {ρ : En} (e : Ext g.TB H H') : FrX g.TB H As ρ H' := ⟨fun a o h n _ => e.st a o h n, e.dom, e.tab, fun c q h => e.st _ _ h nTb_cod⟩
theorem FrX.refl {H : Hp} {As : List Fp} {ρ : En} : FrX g.TB H As ρ H := .ofExt (Ext.refl H)
/-- from one state to a later one -/
structure Stp (T : List (Addr × Str)) (H : Hp) (S : Rg) (As : List Fp) (ρ : En) (H' : Hp) (S' : Rg) (As' : List Fp) (ρ' : En) : Prop where
  fr : FrX T H As ρ H'
  dom : ∀ a, (H a).isSome = true → (H' a).isSome = true
  sub : ∀ a, S a → S' a
  new : ∀ a, S' a → S a ∨ a ∈ As.flatten ∨ H a = none
  ow : ∀ a, a ∈ As'.flatten → a ∈ As.flatten ∨ H a = none
  lk : ∀ i a, Lk ρ As i a → Lk ρ' As' i a ∨ S' a
theorem Stp.refl {H : Hp} {S : Rg} {As : List Fp} {ρ : En} : Stp g.TB H S As ρ H S As ρ := ⟨FrX.refl, fun _ h => h, fun _ h => h, fun _ h => .inl h, fun _ h => .inl h, fun _ _ h => .inl h⟩
theorem Stp.trans {H H1 H2 : Hp} {S S1 S2 : Rg} {As As1 As2 : List Fp} {ρ ρ1 ρ2 : En} {σ : L2.St} (a : Stp g.TB H S As ρ H1 S1 As1 ρ1) (r : Rep g H1 S1 As1 ρ1 σ) (b : Stp g.TB H1 S1 As1 ρ1 H2 S2 As2 ρ2) : Stp g.TB H S As ρ H2 S2 As2 ρ2 := by
  have no : ∀ x, H1 x = none → H x = none := fun x q => by
    cases e : H x with
    | none => rfl
    | some o => have := a.dom x (by rw [e]; rfl); rw [q] at this; cases this
  refine ⟨⟨fun x o e n h => ?_, fun x h => b.dom x (a.dom x h), fun h => b.fr.tab (a.fr.tab h), fun c q h => b.fr.cod c q (a.fr.cod c q h)⟩, fun x h => b.dom x (a.dom x h), fun x h => b.sub x (a.sub x h), fun x h => ?_, fun x h => ?_, fun i x h => ?_⟩
  · refine b.fr.st x o (a.fr.st x o e n h) n ?_
    rcases h with h | ⟨i, h⟩
    · refine .inl fun q => ?_
      rcases a.ow x q with z | z
      · exact h z
      · rw [e] at z; cases z
    · rcases a.lk i x h with z | z
      · exact .inr ⟨i, z⟩
      · exact .inl fun q => r.dis x q z
  · rcases b.new x h with z | z | z
    · exact a.new x z
    · rcases a.ow x z with y | y
      · exact .inr (.inl y)
      · exact .inr (.inr y)
    · exact .inr (.inr (no x z))
  · rcases b.ow x h with z | z
    · exact a.ow x z
    · exact .inr (no x z)
  · rcases a.lk i x h with z | z
    · exact b.lk i x z
    · exact .inr (b.sub x z)

/-- what is wanted behind a statement -/
def RFS (g : G) (xg : XG) (H : Hp) (S : Rg) (As : List Fp) (ρ : En) (o : OS) (W : WX) (D : Ends) : Prop :=
  match o with
  | .nx ρ' => ∀ σ' H' S' As', Rep g H' S' As' ρ' σ' → Stp g.TB H S As ρ H' S' As' ρ' → D.nx σ' H'
  | .bk ρ' => ∀ σ' H' S' As', Rep g H' S' As' ρ' σ' → Stp g.TB H S As ρ H' S' As' ρ' → D.bk σ' H'
  | .ct ρ' => ∀ σ' H' S' As', Rep g H' S' As' ρ' σ' → Stp g.TB H S As ρ H' S' As' ρ' → D.ct σ' H'
  | .rt d n => ∀ v H' S' T, FrX g.TB H As ρ H' → (∀ a, (H a).isSome = true → (H' a).isSome = true) → (∀ a, S a → S' a) → (∀ a, S' a → S a ∨ a ∈ As.flatten ∨ H a = none) → (∀ a, S' a → (H' a).isSome = true) →
      Own g H' S' n d v T → T.Nodup → (∀ a ∈ T, ¬ S' a ∧ (a ∈ As.flatten ∨ H a = none)) → D.rt v H'
  | .exn e => ∀ cls dd σ' H', FrX g.TB H As ρ H' → ExnN xg e cls dd H H' → W cls dd σ' H'
  | .bad => False
theorem RFS.fw {H H1 : Hp} {S S1 : Rg} {As As1 : List Fp} {ρ ρ1 : En} {σ : L2.St} {o : OS} {D : Ends} (st : Stp g.TB H S As ρ H1 S1 As1 ρ1) (r : Rep g H1 S1 As1 ρ1 σ) (h : RFS g xg H S As ρ o W D) : RFS g xg H1 S1 As1 ρ1 o W D := by
  have no : ∀ x, H1 x = none → H x = none := fun x q => by
    cases e : H x with
    | none => rfl
    | some o => have := st.dom x (by rw [e]; rfl); rw [q] at this; cases this
  have fr : ∀ {H' : Hp}, FrX g.TB H1 As1 ρ1 H' → FrX g.TB H As ρ H' := fun {H'} k => ⟨fun x o e n q => by
    refine k.st x o (st.fr.st x o e n q) n ?_
    rcases q with q | ⟨i, q⟩
    · refine .inl fun z => ?_
      rcases st.ow x z with y | y
      · exact q y
      · rw [e] at y; cases y
    · rcases st.lk i x q with z | z
      · exact .inr ⟨i, z⟩
      · exact .inl fun y => r.dis x y z, fun x h => k.dom x (st.dom x h), fun h => k.tab (st.fr.tab h), fun c q h => k.cod c q (st.fr.cod c q h)⟩
  cases o with
  | nx ρ' => exact fun σ' H' S' As' r' s' => h σ' H' S' As' r' (st.trans r s')
  | bk ρ' => exact fun σ' H' S' As' r' s' => h σ' H' S' As' r' (st.trans r s')
  | ct ρ' => exact fun σ' H' S' As' r' s' => h σ' H' S' As' r' (st.trans r s')
  | rt d n =>
    refine fun v H' S' T k1 k2 k3 k4 k5 k6 k7 k8 => h v H' S' T (fr k1) (fun a q => k2 a (st.dom a q)) (fun a q => k3 a (st.sub a q)) (fun a q => ?_) k5 k6 k7 fun a q => ⟨(k8 a q).1, ?_⟩
    · rcases k4 a q with z | z | z
      · exact st.new a z
      · rcases st.ow a z with y | y
        · exact .inr (.inl y)
        · exact .inr (.inr y)
      · exact .inr (.inr (no a z))
    · rcases (k8 a q).2 with z | z
      · exact st.ow a z
      · exact .inr (no a z)
  | exn e => exact fun cls dd σ' H' k1 k2 => h cls dd σ' H' (fr k1) (k2.back no)
  | bad => exact h

/-- a statement's, a block's reading -/
def RdS (g : G) (xg : XG) (Γ : Fe) (W : WX) (s : St) : TS := fun D σ H => ∃ ρ S As, Rep g H S As ρ σ ∧ RFS g xg H S As ρ (exS Γ s ρ) W D
def RdB (g : G) (xg : XG) (Γ : Fe) (W : WX) (s : List St) : TS := fun D σ H => ∃ ρ S As, Rep g H S As ρ σ ∧ RFS g xg H S As ρ (exB Γ s ρ) W D

theorem viewA_at {ρ : En} {i : Nat} {d : D} (h : (viewA ρ)[i]? = some (some d)) : ∃ s, ρ[i]? = some (some s) ∧ s.d = d := by
  unfold viewA at h
  rw [List.getElem?_map] at h
  cases e : ρ[i]? with
  | none => rw [e] at h; cases h
  | some o =>
    rw [e] at h
    cases o with
    | none => cases h
    | some s => cases h; exact ⟨s, rfl, rfl⟩
theorem Rep.viewA {H : Hp} {S : Rg} {As : List Fp} {ρ : En} {σ : L2.St} (r : Rep g H S As ρ σ) : Rep0 g H (fun a => S a ∨ a ∈ As.flatten) (viewA ρ) σ := by
  refine ⟨r.tab, fun a q => q.elim (r.sz a) (r.there), by unfold PL.viewA; rw [List.length_map, r.len], fun i d h => ?_⟩
  obtain ⟨s, e1, rfl⟩ := viewA_at h
  obtain ⟨v, A, h1, h2, h3⟩ := r.at_ i s e1
  obtain ⟨B, C, k1, k2⟩ := Own.weak (m := 0) (Nat.zero_le _) h3
  have k3 := k1 (fun a => S a ∨ a ∈ As.flatten) (fun a q => .inl q) (fun a q => .inr (mem_flat h2 ((k2.1 a).mpr (.inr q))))
  have := k3.zero
  subst this
  exact ⟨v, h1, k3⟩
theorem viewF_at {l : List Nat} : ∀ {ρ : En} {k i : Nat} {d : D}, (viewF l k ρ)[i]? = some (some d) → ∃ s, ρ[i]? = some (some s) ∧ s.d = d ∧ (s.n = 0 ∨ l.contains (k + i) = true)
  | [], k, i, d, h => by simp [viewF] at h
  | o :: ρ, k, 0, d, h => by
    simp only [viewF, List.getElem?_cons_zero] at h
    cases o with
    | none => cases h
    | some s =>
      dsimp only at h
      split at h
      · rename_i q
        cases h
        exact ⟨s, rfl, rfl, q⟩
      · cases h
  | o :: ρ, k, i + 1, d, h => by
    simp only [viewF, List.getElem?_cons_succ] at h
    obtain ⟨s, h1, h2, h3⟩ := viewF_at h
    exact ⟨s, by simpa using h1, h2, by rw [show k + (i + 1) = k + 1 + i by omega]; exact h3⟩
theorem viewF_len {l : List Nat} : ∀ {ρ : En} {k : Nat}, (viewF l k ρ).length = ρ.length
  | [], _ => rfl
  | o :: ρ, k => by simp only [viewF, List.length_cons, viewF_len]
theorem frzs_len {l : List Nat} : ∀ {ρ : En} {k : Nat}, (frzs l k ρ).length = ρ.length
  | [], _ => rfl
  | o :: ρ, k => by simp only [frzs, List.length_cons, frzs_len]
theorem frzs_at {l : List Nat} : ∀ {ρ : En} {k i : Nat}, (frzs l k ρ)[i]? = (ρ[i]?).map fun o => o.map fun s => if l.contains (k + i) then { s with n := 0 } else s
  | [], _, _ => by simp [frzs]
  | o :: ρ, k, 0 => by
    simp only [frzs, List.getElem?_cons_zero, Option.map_some, Nat.add_zero]
    cases o with
    | none => rfl
    | some s =>
      dsimp only [Option.map_some]
      split <;> rfl
  | o :: ρ, k, i + 1 => by
    simp only [frzs, List.getElem?_cons_succ]
    rw [frzs_at, show k + 1 + i = k + (i + 1) by omega]
/-- what given up slots own -/
def AsIn (As : List Fp) (l : List Nat) (a : Addr) : Prop := ∃ i A, l.contains i = true ∧ As[i]? = some A ∧ a ∈ A
def frzA (l : List Nat) : Nat → List Fp → List Fp
  | _, [] => []
  | k, A :: As => (if l.contains k then [] else A) :: frzA l (k + 1) As
theorem frzA_len {l : List Nat} : ∀ {As : List Fp} {k : Nat}, (frzA l k As).length = As.length
  | [], _ => rfl
  | o :: ρ, k => by simp only [frzA, List.length_cons, frzA_len]
theorem frzA_at {l : List Nat} : ∀ {As : List Fp} {k i : Nat}, (frzA l k As)[i]? = (As[i]?).map fun A => if l.contains (k + i) then [] else A
  | [], _, _ => by simp [frzA]
  | A :: As, k, 0 => by simp only [frzA, List.getElem?_cons_zero, Option.map_some, Nat.add_zero]
  | A :: As, k, i + 1 => by
    simp only [frzA, List.getElem?_cons_succ]
    rw [frzA_at, show k + 1 + i = k + (i + 1) by omega]
theorem frzA_sub {l : List Nat} {As : List Fp} {a : Addr} (h : a ∈ (frzA l 0 As).flatten) : ∃ (i : Nat) (A : Fp), As[i]? = some A ∧ a ∈ A ∧ l.contains i = false := by
  obtain ⟨i, A, h1, h2⟩ := of_flat h
  rw [frzA_at] at h1
  cases e : As[i]? with
  | none => rw [e] at h1; cases h1
  | some B =>
    rw [e] at h1
    simp only [Option.map_some, Option.some.injEq, Nat.zero_add] at h1
    cases hc : l.contains i with
    | true => rw [hc] at h1; simp at h1; subst h1; cases h2
    | false => rw [hc] at h1; simp at h1; subst h1; exact ⟨i, B, e, h2, hc⟩
theorem frzA_nd {l : List Nat} : ∀ {As : List Fp} {k : Nat}, As.flatten.Nodup → (frzA l k As).flatten.Nodup ∧ ∀ a ∈ (frzA l k As).flatten, a ∈ As.flatten
  | [], _, h => ⟨h, fun _ q => q⟩
  | A :: As, k, h => by
    rw [List.flatten_cons] at h
    obtain ⟨n1, n2, n3⟩ := List.nodup_append.mp h
    obtain ⟨m1, m2⟩ := frzA_nd (l := l) (k := k + 1) n2
    simp only [frzA, List.flatten_cons]
    refine ⟨?_, fun a q => ?_⟩
    · split
      · simpa using m1
      · exact List.nodup_append.mpr ⟨n1, m1, fun a ha b hb => n3 a ha b (m2 b hb)⟩
    · rcases List.mem_append.mp q with q | q
      · split at q
        · cases q
        · exact List.mem_append_left _ q
      · exact List.mem_append_right _ (m2 a q)
theorem Rep.viewF {H : Hp} {S : Rg} {As : List Fp} {ρ : En} {σ : L2.St} (r : Rep g H S As ρ σ) (l : List Nat) : Rep0 g H (fun a => S a ∨ AsIn As l a) (viewF l 0 ρ) σ := by
  refine ⟨r.tab, fun a q => q.elim (r.sz a) fun ⟨i, A, _, h1, h2⟩ => r.there (mem_flat h1 h2), by rw [viewF_len, r.len], fun i d h => ?_⟩
  obtain ⟨s, e1, rfl, e2⟩ := viewF_at h
  rw [Nat.zero_add] at e2
  obtain ⟨v, A, h1, h2, h3⟩ := r.at_ i s e1
  obtain ⟨B, C, k1, k2⟩ := Own.weak (m := 0) (Nat.zero_le _) h3
  have k3 := k1 (fun a => S a ∨ AsIn As l a) (fun a q => .inl q) (fun a q => ?_)
  · have := k3.zero
    subst this
    exact ⟨v, h1, k3⟩
  · have ha : a ∈ A := (k2.1 a).mpr (.inr q)
    rcases e2 with e2 | e2
    · rw [e2] at h3
      have := h3.zero
      rw [this] at ha
      cases ha
    · exact .inr ⟨i, A, e2, h2, ha⟩
/-- behind a pure run seen with all slots -/
theorem Rep.pure {H H' : Hp} {S S' : Rg} {As : List Fp} {ρ : En} {σ : L2.St} (r : Rep g H S As ρ σ) (f : Fw g.TB H H' (fun a => S a ∨ a ∈ As.flatten) S') :
    Rep g H' (fun a => S a ∨ (S' a ∧ H a = none)) As ρ σ ∧ Stp g.TB H S As ρ H' (fun a => S a ∨ (S' a ∧ H a = none)) As ρ := by
  refine ⟨⟨f.ext.tabG r.tab, fun a q => ?_, r.len, r.lenA, fun i s h => ?_, r.no, r.nd, fun a q z => ?_, r.slf⟩, ⟨FrX.ofExt f.ext, f.ext.dom, fun a q => .inl q, fun a q => q.imp id fun q => .inr q.2, fun a q => .inl q, fun i a q => .inl q⟩⟩
  · rcases q with q | q
    · exact f.ext.dom a (r.sz a q)
    · exact f.sz a q.1
  · obtain ⟨v, A, h1, h2, h3⟩ := r.at_ i s h
    exact ⟨v, A, h1, h2, h3.keep (f.ext.kp fun _ q => .inl q)⟩
  · rcases z with z | z
    · exact r.dis a q z
    · have := r.there q
      rw [z.2] at this
      cases this
/-- behind a pure run with slots given up -/
theorem Rep.given {H H' : Hp} {S S' : Rg} {As : List Fp} {ρ : En} {σ : L2.St} {l : List Nat} (r : Rep g H S As ρ σ) (f : Fw g.TB H H' (fun a => S a ∨ AsIn As l a) S') :
    Rep g H' S' (frzA l 0 As) (frzs l 0 ρ) σ ∧ Stp g.TB H S As ρ H' S' (frzA l 0 As) (frzs l 0 ρ) := by
  refine ⟨⟨f.ext.tabG r.tab, f.sz, by rw [frzs_len]; exact r.len, by rw [frzA_len, frzs_len]; exact r.lenA, fun i s h => ?_, fun i h => ?_, (frzA_nd r.nd).1, fun a q z => ?_, r.slf⟩, ⟨FrX.ofExt f.ext, f.ext.dom, fun a q => f.sub a (.inl q), fun a q => ?_, fun a q => .inl ((frzA_nd r.nd).2 a q), fun i a ⟨s, A, h1, h2, h3, h4⟩ => ?_⟩⟩
  · rw [frzs_at] at h
    cases e : ρ[i]? with
    | none => rw [e] at h; cases h
    | some o =>
      rw [e] at h
      cases o with
      | none => cases h
      | some s0 =>
        simp only [Option.map_some, Option.some.injEq, Nat.zero_add] at h
        obtain ⟨v, A, h1, h2, h3⟩ := r.at_ i s0 e
        cases hc : l.contains i with
        | true =>
          rw [hc] at h
          simp at h
          subst h
          obtain ⟨B, C, k1, k2⟩ := Own.weak (m := 0) (Nat.zero_le _) h3
          have k3 := k1 (fun a => S a ∨ AsIn As l a) (fun a q => .inl q) (fun a q => .inr ⟨i, A, hc, h2, (k2.1 a).mpr (.inr q)⟩)
          have := k3.zero
          subst this
          refine ⟨v, [], h1, by rw [frzA_at, h2]; simp only [Option.map_some, Nat.zero_add, hc, if_true], k3.keep (f.ext.kp f.sub)⟩
        | false =>
          rw [hc] at h
          simp at h
          subst h
          refine ⟨v, A, h1, by rw [frzA_at, h2]; simp only [Option.map_some, Nat.zero_add, hc, Bool.false_eq_true, if_false], h3.keep (f.ext.kp fun a q => f.sub a (.inl q))⟩
  · rw [frzs_at] at h
    cases e : ρ[i]? with
    | none => rw [e] at h; cases h
    | some o =>
      rw [e] at h
      cases o with
      | some s0 => cases h
      | none =>
        rw [frzA_at, r.no i e]
        simp
  · obtain ⟨i, A, h1, h2, h3⟩ := frzA_sub q
    rcases f.new a z with (y | ⟨j, B, h4, h5, h6⟩) | y
    · exact r.dis a (mem_flat h1 h2) y
    · have := nd_slots r.nd h1 h5 h2 h6
      subst this
      rw [h3] at h4
      cases h4
    · have := r.there (mem_flat h1 h2)
      rw [y] at this
      cases this
  · rcases f.new a q with (y | ⟨j, B, h4, h5, h6⟩) | y
    · exact .inl y
    · exact .inr (.inl (mem_flat h5 h6))
    · exact .inr (.inr y)
  · cases hc : l.contains i with
    | true => exact .inr (f.sub a (.inr ⟨i, A, hc, h3, h4⟩))
    | false => exact .inl ⟨s, A, by rw [frzs_at, h1]; simp only [Option.map_some, Nat.zero_add, hc, Bool.false_eq_true, if_false], h2, by rw [frzA_at, h3]; simp only [Option.map_some, Nat.zero_add, hc, Bool.false_eq_true, if_false], h4⟩
end
end PL
namespace PL
open PySem L2 PyProof.Rows
theorem _root_.L2.PS.imp {X : Cx} {e : Stmt} {t t' : TS} (h : PS X e t) (k : ∀ D σ H, t' D σ H → t D σ H) : PS X e t' := ⟨fun pins s σ H D I q => h.run pins s σ H D I (k D σ H q)⟩
theorem _root_.L2.PS.pick {X : Cx} {e : Stmt} {t' : TS} (k : ∀ D σ H, t' D σ H → ∃ t, PS X e t ∧ t D σ H) : PS X e t' := ⟨fun pins s σ H D I q => let ⟨_, h, z⟩ := k D σ H q; h.run pins s σ H D I z⟩
theorem _root_.L2.PSs.imp {X : Cx} {e : List Stmt} {t t' : TS} (h : PSs X e t) (k : ∀ D σ H, t' D σ H → t D σ H) : PSs X e t' := ⟨fun pins s σ H D I q => h.run pins s σ H D I (k D σ H q)⟩
section
variable {g : G} {xg : XG} {Γ : Fe} {X : Cx} {W : WX} {H H1 : Hp} {S S1 : Rg} {As As1 : List Fp} {ρ ρ1 : En} {σ : L2.St} {D : Ends} {a b c : Expr} {xa xb xc : Ex} {pos : Pos}

theorem exn_fr (h : ∀ cls dd σ' H', FrX g.TB H As ρ H' → ExnN xg e cls dd H H' → W cls dd σ' H') : ∀ cls dd H', Ext g.TB H H' → ExnN xg e cls dd H H' → W cls dd σ H' :=
  fun cls dd H' q k => h cls dd σ H' (FrX.ofExt q) k
/-- an expression whose value is stored -/
theorem evP_rf {f : Fz} {F : PL.D → Nat → En → OS} {Q' : VK} (rep : Rep g H S As ρ σ) (h : RFS g xg H S As ρ ((evP Γ xa f ρ).bind F) W D)
    (k : ∀ d n v ρ1 H1 S1 As1 T, evP Γ xa f ρ = .ok d n ρ1 → Rep g H1 S1 As1 ρ1 σ → Stp g.TB H S As ρ H1 S1 As1 ρ1 → Own g H1 S1 n d v T → T.Nodup → (∀ a ∈ T, H a = none ∧ ¬ S1 a ∧ a ∉ As1.flatten) → RFS g xg H S As ρ (F d n ρ1) W D → Q' v H1) : RdE g xg Γ W xa σ H Q' := by
  unfold evP at h k
  cases f with
  | imm =>
    refine ⟨_, _, rep.viewA, ?_⟩
    dsimp only at h k
    cases e : evE Γ xa (viewA ρ) with
    | ok d n =>
      rw [e] at h k
      dsimp only at h k
      intro v H' S' T o
      split at h
      · rename_i hi
        obtain ⟨r1, s1⟩ := rep.pure o.fw
        refine k d n v ρ H' _ As T (by rw [if_pos hi]) r1 s1 (o.own.imm (Nat.le_refl _) hi) o.nd (fun a q => ⟨(o.fr a q).1, fun z => ?_, fun z => ?_⟩) h
        · rcases z with z | z
          · have := rep.sz a z
            rw [(o.fr a q).1] at this
            cases this
          · exact (o.fr a q).2 z.1
        · have := rep.there z
          rw [(o.fr a q).1] at this
          cases this
      · exact h.elim
    | exn x => rw [e] at h; exact exn_fr h
    | bad => rw [e] at h; exact h.elim
  | fz l =>
    refine ⟨_, _, rep.viewF l, ?_⟩
    dsimp only at h k
    cases e : evE Γ xa (viewF l 0 ρ) with
    | ok d n =>
      rw [e] at h k
      dsimp only at h k
      intro v H' S' T o
      obtain ⟨r1, s1⟩ := rep.given (l := l) o.fw
      refine k d n v _ H' S' _ T rfl r1 s1 o.own o.nd (fun a q => ⟨(o.fr a q).1, (o.fr a q).2, fun z => ?_⟩) h
      have := rep.there ((frzA_nd rep.nd).2 a z)
      rw [(o.fr a q).1] at this
      cases this
    | exn x => rw [e] at h; exact exn_fr h
    | bad => rw [e] at h; exact h.elim
theorem not_locked {i : Nat} {a : Addr} (h : lockedAt i ρ = false) : ¬ Lk ρ As i a := fun ⟨s, A, h1, h2, _⟩ => by
  unfold lockedAt at h
  rw [h1] at h
  dsimp only at h
  rw [h2] at h
  cases h
/-- a value is stored at a slot -/
theorem put_ok {i n : Nat} {d : PL.D} {v : V} {T : Fp} (r1 : Rep g H1 S1 As1 ρ1 σ) (st : Stp g.TB H S As ρ H1 S1 As1 ρ1) (o : Own g H1 S1 n d v T) (nd : T.Nodup) (fr : ∀ a ∈ T, (a ∈ As.flatten ∨ H a = none) ∧ ¬ S1 a ∧ ∀ j A, As1[j]? = some A → j ≠ i → a ∉ A) (hl : lockedAt i ρ1 = false) (hz : ∀ w, g.self = some w → i = 0 → v = w) :
    Rep g H1 S1 (As1.set i T) (ρ1.set i (some ⟨d, n, false⟩)) (σ.set i (some v)) ∧ Stp g.TB H S As ρ H1 S1 (As1.set i T) (ρ1.set i (some ⟨d, n, false⟩)) := by
  have len1 := r1.len
  have len2 := r1.lenA
  refine ⟨⟨r1.tab, r1.sz, by rw [List.length_set, List.length_set, r1.len], by rw [List.length_set, List.length_set, r1.lenA], fun j s h => ?_, fun j h => ?_, nd_set r1.nd nd fun a q => (fr a q).2.2, fun a q z => ?_, fun w hw => ?_⟩, ⟨st.fr, st.dom, st.sub, st.new, fun a q => ?_, fun j a q => ?_⟩⟩
  · rcases set_at h with ⟨rfl, e⟩ | ⟨hne, e⟩
    · cases e
      have hj : i < ρ1.length := by have := (List.getElem?_eq_some_iff.mp h).1; rwa [List.length_set] at this
      exact ⟨v, T, List.getElem?_set_self (by omega), List.getElem?_set_self (by omega), o⟩
    · rw [List.getElem?_set_ne hne, List.getElem?_set_ne hne]
      exact r1.at_ j s e
  · rcases set_at h with ⟨rfl, e⟩ | ⟨hne, e⟩
    · cases e
    · rw [List.getElem?_set_ne hne]
      exact r1.no j e
  · obtain ⟨j, A, h1, h2⟩ := of_flat q
    rcases set_at h1 with ⟨rfl, e⟩ | ⟨hne, e⟩
    · subst e; exact (fr a h2).2.1 z
    · exact r1.dis a (mem_flat e h2) z
  · have h0 := r1.slf w hw
    by_cases hi : i = 0
    · subst hi
      rw [hz w hw rfl]
      exact List.getElem?_set_self (List.getElem?_eq_some_iff.mp h0).1
    · rw [List.getElem?_set_ne hi]
      exact h0
  · obtain ⟨j, A, h1, h2⟩ := of_flat q
    rcases set_at h1 with ⟨rfl, e⟩ | ⟨hne, e⟩
    · subst e; exact (fr a h2).1
    · exact st.ow a (mem_flat e h2)
  · rcases st.lk j a q with z | z
    · by_cases hj : i = j
      · subst hj; exact absurd z (not_locked hl)
      · obtain ⟨s, A, h1, h2, h3, h4⟩ := z
        exact .inl ⟨s, A, by rw [List.getElem?_set_ne hj]; exact h1, h2, by rw [List.getElem?_set_ne hj]; exact h3, h4⟩
    · exact .inr z
theorem putS_rf {i n : Nat} {d : PL.D} {v : V} {T : Fp} (r1 : Rep g H1 S1 As1 ρ1 σ) (st : Stp g.TB H S As ρ H1 S1 As1 ρ1) (o : Own g H1 S1 n d v T) (nd : T.Nodup) (fr : ∀ a ∈ T, H a = none ∧ ¬ S1 a ∧ a ∉ As1.flatten)
    (hz : Fre g i) (h : RFS g xg H S As ρ (putS i d n ρ1) W D) : D.nx (σ.set i (some v)) H1 := by
  unfold putS at h
  split at h
  · exact h.elim
  · rename_i hl
    obtain ⟨r2, s2⟩ := put_ok r1 st o nd (fun a q => ⟨.inr (fr a q).1, (fr a q).2.1, fun j A h1 _ h2 => (fr a q).2.2 (mem_flat h1 h2)⟩) (Bool.eq_false_iff.mpr hl) (fun w hw e => absurd e (hz w hw))
    exact h _ _ _ _ r2 s2
/-- frozen items into slots -/
theorem bindS_ok {Q : L2.St → Hp → Prop} : ∀ {is : List Nat} {ds : List PL.D} {xs : List V} {ρ1 ρ2 : En} {σ : L2.St} {As1 : List Fp}, (∀ i ∈ is, Fre g i) → bindS is ds ρ1 = some ρ2 → OwnL g H1 S1 0 ds xs [] → Rep g H1 S1 As1 ρ1 σ → Stp g.TB H S As ρ H1 S1 As1 ρ1 →
    (∀ σ2 As2, Rep g H1 S1 As2 ρ2 σ2 → Stp g.TB H S As ρ H1 S1 As2 ρ2 → Q σ2 H1) → xs.length = is.length ∧ gNames is xs σ H1 Q
  | [], [], xs, _, _, σ, As1, _, h, o, r1, st, k => by
    cases h
    unfold OwnL at o
    rw [o.1]
    exact ⟨rfl, rfl, k σ As1 r1 st⟩
  | i :: is, [], _, _, _, _, _, _, h, _, _, _, _ => by cases h
  | [], d :: ds, _, _, _, _, _, _, h, _, _, _, _ => by cases h
  | i :: is, d :: ds, xs, ρ1, ρ2, σ, As1, hf, h, o, r1, st, k => by
    unfold OwnL at o
    obtain ⟨x, ys, B, C, rfl, e, h1, h2⟩ := o
    have e1 := h1.zero
    have e2 := h2.zero
    subst e1
    subst e2
    unfold bindS at h
    split at h
    · cases h
    · rename_i hl
      obtain ⟨r2, s2⟩ := put_ok r1 st h1 List.nodup_nil (fun a q => nomatch q) (Bool.eq_false_iff.mpr hl) (fun w hw e => absurd e (hf i List.mem_cons_self w hw))
      obtain ⟨a1, a2⟩ := bindS_ok (Q := Q) (fun i hi => hf i (List.mem_cons_of_mem _ hi)) h h2 r2 s2 k
      exact ⟨by rw [List.length_cons, List.length_cons, a1], x, ys, rfl, a2⟩
theorem takeS_ok (hK : g.K = X.K) {tg : List Nat} {d : PL.D} {v : V} {ρ2 : En} {Q : L2.St → Hp → Prop} {pr : Bool} (hpr : pr = true → 2 ≤ tg.length) (hf : ∀ i ∈ tg, Fre g i) (h : takeS tg d ρ1 = some ρ2) (o : OwnI g H1 S1 pr d v) (r1 : Rep g H1 S1 As1 ρ1 σ) (st : Stp g.TB H S As ρ H1 S1 As1 ρ1)
    (k : ∀ σ2 As2, Rep g H1 S1 As2 ρ2 σ2 → Stp g.TB H S As ρ H1 S1 As2 ρ2 → Q σ2 H1) : gT X.K tg v σ H1 Q := by
  unfold takeS at h
  split at h
  · rename_i i
    split at h
    · cases h
    · rename_i hl
      cases h
      rcases o with o | ⟨hp, _⟩
      · obtain ⟨r2, s2⟩ := put_ok r1 st o List.nodup_nil (fun a q => nomatch q) (Bool.eq_false_iff.mpr hl) (fun w hw e => absurd e (hf i List.mem_cons_self w hw))
        exact k _ _ r2 s2
      · exact absurd (hpr hp) (by simp)
  · rename_i l hne
    obtain ⟨a, xs, rfl, t, l1⟩ := o.tup
    obtain ⟨e1, e2⟩ := bindS_ok (Q := Q) hf h l1 r1 st k
    have : gT X.K tg = gTup X.K tg.length (gNames tg) := by
      unfold gT
      split
      · exact (hne _ rfl).elim
      · rfl
    rw [this]
    exact ⟨a, xs, rfl, by rw [← hK]; exact t, e1, e2⟩
  · cases h

theorem b_nil : PSs X [] (RdB g xg Γ W []) := pss_nil.imp fun D σ H ⟨ρ, S, As, rep, h⟩ => by
  unfold exB at h
  exact h σ H S As rep Stp.refl
theorem b_cons {st : Stmt} {rest : List Stmt} {s : PL.St} {ss : List PL.St} (h1 : PS X st (RdS g xg Γ W s)) (h2 : PSs X rest (RdB g xg Γ W ss)) : PSs X (st :: rest) (RdB g xg Γ W (s :: ss)) :=
  (pss_cons h1 h2).imp fun D σ H ⟨ρ, S, As, rep, h⟩ => by
    refine ⟨ρ, S, As, rep, ?_⟩
    unfold exB at h
    cases e : exS Γ s ρ with
    | nx ρ' =>
      rw [e] at h
      exact fun σ' H' S' As' r' st' => ⟨ρ', S', As', r', RFS.fw st' r' h⟩
    | rt d n => rw [e] at h; exact h
    | bk ρ' => rw [e] at h; exact h
    | ct ρ' => rw [e] at h; exact h
    | exn x => rw [e] at h; exact h
    | bad => rw [e] at h; exact h
theorem s_pass : PS X (.Pass pos) (RdS g xg Γ W .pass) := ps_pass.imp fun D σ H ⟨ρ, S, As, rep, h⟩ => by unfold exS at h; exact h σ H S As rep Stp.refl
theorem s_brk : PS X (.Break pos) (RdS g xg Γ W .brk) := ps_break.imp fun D σ H ⟨ρ, S, As, rep, h⟩ => by unfold exS at h; exact h σ H S As rep Stp.refl
theorem s_cont : PS X (.Continue pos) (RdS g xg Γ W .cont) := ps_continue.imp fun D σ H ⟨ρ, S, As, rep, h⟩ => by unfold exS at h; exact h σ H S As rep Stp.refl
theorem s_doc {x : Str} {j : Nat} {p2 : Pos} : PS X (.Expr (.Constant (.str x) j pos) p2) (RdS g xg Γ W .pass) := ps_doc.imp fun D σ H ⟨ρ, S, As, rep, h⟩ => by unfold exS at h; exact h σ H S As rep Stp.refl
theorem s_retN : PS X (.Return none pos) (RdS g xg Γ W .retN) := ps_retN.imp fun D σ H ⟨ρ, S, As, rep, h⟩ => by
  unfold exS at h
  exact h .non H S [] FrX.refl (fun a q => q) (fun a q => q) (fun a q => .inl q) rep.sz own_non List.nodup_nil (fun a q => nomatch q)
/-- a pure run, all slots seen -/
theorem evA_rf {F : PL.D → Nat → OS} {Q' : VK} (rep : Rep g H S As ρ σ) (h : RFS g xg H S As ρ (match evE Γ xa (viewA ρ) with | .ok d n => F d n | .exn x => .exn x | .bad => .bad) W D)
    (k : ∀ d n v H1 S1 T, OkV g H H1 (fun a => S a ∨ a ∈ As.flatten) S1 n d v T → RFS g xg H S As ρ (F d n) W D → Q' v H1) : RdE g xg Γ W xa σ H Q' := by
  refine ⟨_, _, rep.viewA, ?_⟩
  cases e : evE Γ xa (viewA ρ) with
  | ok d n => rw [e] at h; exact fun v H' S' T o => k d n v H' S' T o h
  | exn x => rw [e] at h; exact exn_fr h
  | bad => rw [e] at h; exact h
theorem s_ret (he : PE X a (RdE g xg Γ W xa)) : PS X (.Return (some a) pos) (RdS g xg Γ W (.ret xa)) := (ps_ret he).imp fun D σ H ⟨ρ, S, As, rep, h⟩ => by
  unfold exS at h
  refine evA_rf (F := fun d n => .rt d n) rep h fun d n v H1 S1 T o h1 => ?_
  exact h1 v H1 S1 T (FrX.ofExt o.ext) o.ext.dom (fun a q => o.sub a (.inl q)) (fun a q => (o.new a q).elim (fun q => q.elim .inl fun q => .inr (.inl q)) fun q => .inr (.inr q)) o.sz o.own o.nd fun a q => ⟨(o.fr a q).2, .inr (o.fr a q).1⟩
theorem s_retv {i : Nat} {x : Str} {p2 : Pos} (hN : X.N[i]? = some x) (hv : Vis X.env.scope x) (hd : (x == ("__debug__" : Str)) = false) (hcd : (x == ("__classdict__" : Str)) = false) : PS X (.Return (some (.Name x p2)) pos) (RdS g xg Γ W (.retv i)) :=
  (ps_ret (pe_var hN hv hd hcd)).imp fun D σ H ⟨ρ, S, As, rep, h⟩ => by
    unfold exS at h
    split at h
    · rename_i s e
      obtain ⟨v, A, h1, h2, h3⟩ := rep.at_ i s e
      refine ⟨v, h1, h v H S A FrX.refl (fun a q => q) (fun a q => q) (fun a q => .inl q) rep.sz h3 (nd_one rep.nd h2) fun a q => ⟨rep.dis a (mem_flat h2 q), .inl (mem_flat h2 q)⟩⟩
    · exact h.elim
theorem s_ex (he : PE X a (RdE g xg Γ W xa)) (hs : noComp a = true) : PS X (.Expr a pos) (RdS g xg Γ W (.ex xa)) := (ps_expr he (noSwap hs)).imp fun D σ H ⟨ρ, S, As, rep, h⟩ => by
  unfold exS at h
  refine evA_rf (F := fun _ _ => .nx ρ) rep h fun d n v H1 S1 T o h1 => ?_
  obtain ⟨r1, s1⟩ := rep.pure o.fw
  exact h1 _ _ _ _ r1 s1
/-- a test -/
theorem evT_rf {F : Bool → OS} {Q' : Bool → Hp → Prop} (rep : Rep g H S As ρ σ) (h : RFS g xg H S As ρ (match evT Γ xa (viewA ρ) with | .ok b => F b | .exn x => .exn x | .bad => .bad) W D)
    (k : ∀ b H1 S1, evT Γ xa (viewA ρ) = .ok b → Rep g H1 S1 As ρ σ → Stp g.TB H S As ρ H1 S1 As ρ → RFS g xg H S As ρ (F b) W D → Q' b H1) : RdT g xg Γ W xa σ H Q' := by
  refine ⟨_, _, rep.viewA, ?_⟩
  cases e : evT Γ xa (viewA ρ) with
  | ok b => rw [e] at h; exact fun H' S' f => let ⟨r1, s1⟩ := rep.pure f; k b H' _ e r1 s1 h
  | exn x => rw [e] at h; exact exn_fr h
  | bad => rw [e] at h; exact h
theorem s_ife {bs cs : List Stmt} {xs ys : List PL.St} (hc : PT X c (RdT g xg Γ W xc)) (hb : PSs X bs (RdB g xg Γ W xs)) (hd : PSs X cs (RdB g xg Γ W ys)) : PS X (.If c bs cs pos) (RdS g xg Γ W (.ife xc xs ys)) :=
  (ps_if hc hb hd).imp fun D σ H ⟨ρ, S, As, rep, h⟩ => by
    unfold exS at h
    refine evT_rf (D := D) (F := fun b => if b then exB Γ xs ρ else exB Γ ys ρ) rep ?_ fun b H1 S1 _ r1 s1 h1 => ?_
    · cases e : evT Γ xc (viewA ρ) with
      | ok b => rw [e] at h; cases b <;> exact h
      | exn x => rw [e] at h; exact h
      | bad => rw [e] at h; exact h
    · cases b with
      | true => exact iteT ⟨ρ, S1, As, r1, RFS.fw s1 r1 h1⟩
      | false => exact iteF ⟨ρ, S1, As, r1, RFS.fw s1 r1 h1⟩

theorem s_whl {bs : List Stmt} {xs : List PL.St} (hp : PassesOwn (model X.prog X.w) X.A X.env X.xe) (hc : PT X c (RdT g xg Γ W xc)) (hb : PSs X bs (RdB g xg Γ W xs)) : PS X (.While c bs [] pos) (RdS g xg Γ W (.whl xc xs)) := by
  refine (ps_while hp hc hb).imp fun D σ H ⟨ρ, S, As, rep, h⟩ => ?_
  unfold exS at h
  generalize hcf : (fun ρ => evT Γ xc (viewA ρ)) = cf at h
  by_cases hbad : whlC cf (exB Γ xs) ρ = .bad
  · rw [hbad] at h; exact h.elim
  obtain ⟨k0, hk0⟩ := whlC_some hbad
  generalize whlC cf (exB Γ xs) ρ = o at h hk0
  refine ⟨fun k σ H => ∃ ρ S As, Rep g H S As ρ σ ∧ whlN cf (exB Γ xs) k ρ = some o ∧ RFS g xg H S As ρ o W D, ⟨k0, ρ, S, As, rep, hk0, h⟩, fun k σ1 H1 ⟨ρ1, S1, As1, r1, e1, h1⟩ => ?_⟩
  cases k with
  | zero => cases e1
  | succ k =>
    have ec : cf ρ1 = evT Γ xc (viewA ρ1) := by rw [← hcf]
    unfold whlN at e1
    rw [ec] at e1
    refine evT_rf (W := W) (D := { nx := fun _ _ => True, rt := fun _ _ => True }) (F := fun _ => .nx ρ1) r1 ?_ fun b H2 S2 e2 r2 s2 _ => ?_
    · cases e2 : evT Γ xc (viewA ρ1) with
      | ok b => exact fun _ _ _ _ _ _ => trivial
      | exn x => rw [e2] at e1; cases e1; exact h1
      | bad => rw [e2] at e1; cases e1; exact h1.elim
    · rw [e2] at e1
      have h2 := RFS.fw s2 r2 h1
      cases b with
      | false =>
        cases e1
        exact iteF (h2 σ1 H2 S2 As1 r2 Stp.refl)
      | true =>
        dsimp only at e1
        refine iteT ⟨fun σ' H' => ∃ ρ' S' As', Rep g H' S' As' ρ' σ' ∧ whlN cf (exB Γ xs) k ρ' = some o ∧ RFS g xg H' S' As' ρ' o W D, fun σ' H' q => ⟨k, Nat.lt_succ_self k, q⟩, ρ1, S2, As1, r2, ?_⟩
        cases eb : exB Γ xs ρ1 with
        | nx ρ2 => rw [eb] at e1; exact fun σ' H' S' As' r' s' => ⟨ρ2, S', As', r', e1, RFS.fw s' r' h2⟩
        | ct ρ2 => rw [eb] at e1; exact fun σ' H' S' As' r' s' => ⟨ρ2, S', As', r', e1, RFS.fw s' r' h2⟩
        | bk ρ2 => rw [eb] at e1; cases e1; exact fun σ' H' S' As' r' s' => h2 σ' H' S' As' r' s'
        | rt d n => rw [eb] at e1; cases e1; exact h2
        | exn x => rw [eb] at e1; cases e1; exact h2
        | bad => rw [eb] at e1; cases e1; exact h2.elim
/-- one turn of a for -/
theorem for_core {pr : Bool} (hK : g.K = X.K) {J : It} {xs : List PL.D} {tg : List Nat} (hpr : pr = true → 2 ≤ tg.length) {ys : List PL.St} {R : Rg} {H0 : Hp} (wk : Wk g pr J R H0 xs) (hf : ∀ i ∈ tg, Fre g i)
    (rep : Rep g H S As ρ σ) (h : RFS g xg H S As ρ (forS tg (exB Γ ys) xs ρ) W D)
    (kz : ∀ σ' H' S' As' ρ', Rep g H' S' As' ρ' σ' → Stp g.TB H S As ρ H' S' As' ρ' → Kz H0 H' R) (hR : ∀ d v H' S' As' ρ' σ', d ∈ xs → Rep g H' S' As' ρ' σ' → Stp g.TB H S As ρ H' S' As' ρ' → OwnI g H' R pr d v → OwnI g H' S' pr d v)
    (szR : ∀ a, R a → (H a).isSome = true) :
    ∃ Wv : Nat → Nat → L2.St → Hp → Prop, (∃ m, Wv 0 m σ H) ∧ ∀ i m σ H, Wv i m σ H →
      (J.stop i H ∧ D.nx σ H) ∨ (J.go i H ∧ ∃ N : L2.St → Hp → Prop, (∀ σ' H', N σ' H' → ∃ m', m' < m ∧ Wv (i + 1) m' σ' H') ∧ ∀ x H', J.yld i H x H' → gT X.K tg x σ H' fun σ2 H2 => RdB g xg Γ W ys { D with nx := N, ct := N, bk := D.nx } σ2 H2) := by
  obtain ⟨Gd, Y, walk, hG, hY⟩ := wk
  refine for_it walk (fun i σ' H' => ∃ ρ' S' As', Rep g H' S' As' ρ' σ' ∧ Stp g.TB H S As ρ H' S' As' ρ' ∧ RFS g xg H' S' As' ρ' (forS tg (exB Γ ys) (xs.drop i) ρ') W D)
    ⟨ρ, S, As, rep, Stp.refl, h⟩ (fun i σ' H' _ ⟨ρ', S', As', r', s', _⟩ => hG H' (kz _ _ _ _ _ r' s')) (fun i x σ' Ha Hb hi ⟨ρ', S', As', r', s', h'⟩ hy => ?_) (fun σ' H' ⟨ρ', S', As', r', s', h'⟩ => ?_)
  · obtain ⟨d, ed, eh, od⟩ := hY i x Ha Hb hi (kz _ _ _ _ _ r' s') (fun a q => s'.dom a (szR a q)) hy
    -- the heap has perhaps a new pair
    have fab : Fw g.TB Ha Hb (fun a => S' a ∨ a ∈ As'.flatten) (fun a => S' a ∨ a ∈ As'.flatten) := by
      have szA : ∀ a, (S' a ∨ a ∈ As'.flatten) → (Ha a).isSome = true := fun a q => q.elim (r'.sz a) r'.there
      exact ⟨eh, fun _ q => q, fun _ q => .inl q, fun a q => eh.dom a (szA a q)⟩
    obtain ⟨r2, s2⟩ := r'.pure fab
    have dr : xs.drop i = d :: xs.drop (i + 1) := by
      obtain ⟨hl, he⟩ := List.getElem?_eq_some_iff.mp ed
      rw [← he]
      exact List.drop_eq_getElem_cons hl
    rw [dr] at h'
    unfold forS at h'
    have h2 := RFS.fw s2 r2 h'
    have od2 := hR d x Hb _ _ _ _ (List.mem_of_getElem? ed) r2 (s'.trans r' s2) od
    cases et : takeS tg d ρ' with
    | none => rw [et] at h2; exact h2.elim
    | some ρ1 =>
      rw [et] at h2
      dsimp only at h2
      refine takeS_ok hK hpr hf et od2 r2 Stp.refl fun σ2 As2 r3 s3 => ⟨ρ1, _, As2, r3, ?_⟩
      have s03 := (s'.trans r' s2).trans r2 s3
      have h3 := RFS.fw s3 r3 h2
      cases eb : exB Γ ys ρ1 with
      | nx ρ2 => rw [eb] at h3; exact fun σ4 H4 S4 As4 r4 s4 => ⟨ρ2, S4, As4, r4, s03.trans r3 s4, RFS.fw s4 r4 h3⟩
      | ct ρ2 => rw [eb] at h3; exact fun σ4 H4 S4 As4 r4 s4 => ⟨ρ2, S4, As4, r4, s03.trans r3 s4, RFS.fw s4 r4 h3⟩
      | bk ρ2 => rw [eb] at h3; exact h3
      | rt d n => rw [eb] at h3; exact h3
      | exn x => rw [eb] at h3; exact h3
      | bad => rw [eb] at h3; exact h3.elim
  · rw [List.drop_length] at h'
    unfold forS at h'
    exact h' σ' H' S' As' r' Stp.refl

theorem locks_len {l : List Nat} {b : Bool} : ∀ {ρ : En} {k : Nat}, (locks l b k ρ).length = ρ.length
  | [], _ => rfl
  | o :: ρ, k => by simp only [locks, List.length_cons, locks_len]
theorem locks_at {l : List Nat} {b : Bool} : ∀ {ρ : En} {k i : Nat}, (locks l b k ρ)[i]? = (ρ[i]?).map fun o => o.map fun s => if l.contains (k + i) then { s with lk := b } else s
  | [], _, _ => by simp [locks]
  | o :: ρ, k, 0 => by
    simp only [locks, List.getElem?_cons_zero, Option.map_some, Nat.add_zero]
    cases o with
    | none => rfl
    | some s => dsimp only [Option.map_some]; split <;> rfl
  | o :: ρ, k, i + 1 => by
    simp only [locks, List.getElem?_cons_succ]
    rw [locks_at, show k + 1 + i = k + (i + 1) by omega]
theorem Rep.locks {l : List Nat} {b : Bool} (r : Rep g H S As ρ σ) : Rep g H S As (locks l b 0 ρ) σ := by
  refine ⟨r.tab, r.sz, by rw [locks_len]; exact r.len, by rw [locks_len]; exact r.lenA, fun i s h => ?_, fun i h => ?_, r.nd, r.dis, r.slf⟩
  · rw [locks_at] at h
    cases e : ρ[i]? with
    | none => rw [e] at h; cases h
    | some o =>
      rw [e] at h
      cases o with
      | none => cases h
      | some s0 =>
        obtain ⟨v, A, h1, h2, h3⟩ := r.at_ i s0 e
        simp only [Option.map_some, Option.some.injEq] at h
        subst h
        refine ⟨v, A, h1, h2, ?_⟩
        split <;> exact h3
  · rw [locks_at] at h
    cases e : ρ[i]? with
    | none => rw [e] at h; cases h
    | some o =>
      rw [e] at h
      cases o with
      | none => exact r.no i e
      | some s0 => cases h
theorem lk_locks {l : List Nat} {i : Nat} {a : Addr} (h : Lk ρ As i a) : Lk (locks l true 0 ρ) As i a := by
  obtain ⟨s, A, h1, h2, h3, h4⟩ := h
  refine ⟨if l.contains i then { s with lk := true } else s, A, by rw [locks_at, h1]; simp only [Option.map_some, Nat.zero_add], ?_, h3, h4⟩
  split
  · rfl
  · exact h2
theorem lk_unlocks {l : List Nat} {i : Nat} {a : Addr} (hn : l.contains i = false) (h : Lk ρ As i a) : Lk (locks l false 0 ρ) As i a := by
  obtain ⟨s, A, h1, h2, h3, h4⟩ := h
  refine ⟨s, A, by rw [locks_at, h1]; simp only [Option.map_some, Nat.zero_add, hn, Bool.false_eq_true, if_false], h2, h3, h4⟩
theorem any_not {l : List Nat} {i : Nat} (h : anyLocked l ρ = false) (hc : l.contains i = true) : lockedAt i ρ = false := by
  unfold anyLocked at h
  rw [List.any_eq_false] at h
  have := h i (by simpa using hc)
  simpa using this
/-- in and out of locks -/
theorem RFS.unlock {l : List Nat} {o : OS} (hl : anyLocked l ρ = false) (h : RFS g xg H S As ρ (o.unlock l) W D) : RFS g xg H S As (locks l true 0 ρ) o W { D with bk := fun _ _ => False, ct := fun _ _ => False } := by
  have frs : ∀ {H' : Hp}, FrX g.TB H As (locks l true 0 ρ) H' → FrX g.TB H As ρ H' :=
    fun {H'} k => ⟨fun a o e n q => k.st a o e n (q.imp id fun ⟨i, z⟩ => ⟨i, lk_locks z⟩), k.dom, k.tab, k.cod⟩
  cases o with
  | nx ρ' =>
    intro σ' H' S' As' r' s'
    refine h σ' H' S' As' r'.locks ⟨frs s'.fr, s'.dom, s'.sub, s'.new, s'.ow, fun i a q => ?_⟩
    rcases s'.lk i a (lk_locks q) with z | z
    · refine .inl (lk_unlocks ?_ z)
      cases hc : l.contains i with
      | false => rfl
      | true => exact absurd q (not_locked (any_not hl hc))
    · exact .inr z
  | bk ρ' => exact h.elim
  | ct ρ' => exact h.elim
  | rt d n => exact fun v H' S' T k1 => h v H' S' T (frs k1)
  | exn e => exact fun cls dd σ' H' k1 => h cls dd σ' H' (frs k1)
  | bad => exact h
theorem imm_own {pr : Bool} {R R' : Rg} {d : PL.D} {v : V} {xs : List PL.D} (hi : immBL 0 xs = true) (hd : d ∈ xs) (o : OwnI g H R pr d v) : OwnI g H R' pr d v := by
  refine OwnI.imm ?_ o
  induction xs with
  | nil => cases hd
  | cons x xs ih =>
    simp only [immBL, Bool.and_eq_true] at hi
    rcases List.mem_cons.mp hd with rfl | hd
    · exact hi.1
    · exact ih hi.2 hd
theorem tups_fr {T : List (Addr × Str)} {H H' : Hp} {As : List Fp} {ρ : En} (f : FrX T H As ρ H') (n : ∀ a xs, Rd H a (.tup xs) → a ∈ As.flatten → False) : TupS H H' := fun a xs =>
  ⟨fun h => f.st a _ h nTb_tup (.inl (n a xs (.inl h))), fun o h => f.st a _ h nTb_frz (.inl (n a xs (.inr ⟨o, h⟩)))⟩
theorem s_fo {tgE iter : Expr} {body : List Stmt} {k : SK} {args : List Ex} {tg lk : List Nat} {f : Fz} {ys : List PL.St} (hpr : k.isPr = true → 2 ≤ tg.length) (hK : g.K = X.K) (hp : PassesOwn (model X.prog X.w) X.A X.env X.xe) (hc : X.calm = true) (hi : PI X tgE iter (RdI g xg Γ W k args)) (hg : PG X tgE (gT X.K tg)) (hb : PSs X body (RdB g xg Γ W ys))
    (hs : noSet iter = true) (htg : ∀ i ∈ tg, Fre g i) : PS X (.For tgE iter body [] pos) (RdS g xg Γ W (.fo k args tg lk f ys)) := by
  refine (ps_for hp hc hi hg hb (noFold hs)).imp fun D σ H ⟨ρ, S, As, rep, h⟩ => ?_
  unfold exS at h
  cases hr : k.isRng with
  | true =>
    rw [hr] at h
    simp only [if_true] at h
    refine ⟨_, _, rep.viewA, ?_⟩
    cases e : evL Γ args (viewA ρ) with
    | exn x => rw [e] at h; exact exn_fr h
    | bad => rw [e] at h; exact h.elim
    | ok l =>
      rw [e] at h
      dsimp only at h
      cases e2 : items k (l.map (·.1)) with
      | none => rw [e2] at h; exact h.elim
      | some xs =>
        rw [e2] at h
        refine ⟨xs, e2, fun J H1 S1 f1 w0 => ?_⟩
        rw [hr] at w0
        obtain ⟨r1, s1⟩ := rep.pure f1
        exact for_core hK hpr w0 htg r1 (RFS.fw s1 r1 h) (fun σ' H' S' As' ρ' r' s' => ⟨fun a q => q.elim, tups_fr s'.fr fun a xs q z => by
            obtain ⟨i, A, z1, z2⟩ := of_flat z
            obtain ⟨sl, v, _, _, o⟩ := r1.slot z1 z2
            exact Own.notup o a z2 xs q⟩) (fun d v H' S' As' ρ' σ' _ _ _ o => o.keep ⟨(fun a h => nomatch h), fun a q => q.elim, .refl⟩) (fun a q => q.elim)
  | false =>
    rw [hr] at h
    simp only [Bool.false_eq_true, if_false] at h
    cases f with
    | fz q =>
      dsimp only at h
      refine ⟨_, _, rep.viewF q, ?_⟩
      cases e : evL Γ args (viewF q 0 ρ) with
      | exn x => rw [e] at h; exact exn_fr h
      | bad => rw [e] at h; exact h.elim
      | ok l =>
        rw [e] at h
        dsimp only at h
        cases e2 : items k (l.map (·.1)) with
        | none => rw [e2] at h; exact h.elim
        | some xs =>
          rw [e2] at h
          refine ⟨xs, e2, fun J H1 S1 f1 w0 => ?_⟩
          rw [hr] at w0
          obtain ⟨r1, s1⟩ := rep.given (l := q) f1
          refine for_core hK hpr w0 htg r1 (RFS.fw s1 r1 h) (fun σ' H' S' As' ρ' r' s' => ⟨fun a q o e3 n => ?_, ?_⟩) (fun d v H' S' As' ρ' σ' _ _ s' o => o.keep (Kp.eq (fun a h => nomatch h) (fun a q => ⟨s'.sub a q, rfl⟩) .refl)) r1.sz
          · exact s'.fr.st a o e3 n (.inl fun z => r1.dis a z q)
          · exact tups_fr s'.fr fun a xs q z => by
              obtain ⟨i, A, z1, z2⟩ := of_flat z
              obtain ⟨sl, v, _, _, o⟩ := r1.slot z1 z2
              exact Own.notup o a z2 xs q
    | imm =>
      dsimp only at h
      refine ⟨_, _, rep.viewF lk, ?_⟩
      cases e : evL Γ args (viewF lk 0 ρ) with
      | exn x => rw [e] at h; exact exn_fr h
      | bad => rw [e] at h; exact h.elim
      | ok l =>
        rw [e] at h
        dsimp only at h
        cases e2 : items k (l.map (·.1)) with
        | none => rw [e2] at h; exact h.elim
        | some xs =>
          rw [e2] at h
          refine ⟨xs, e2, fun J H1 S1 f1 w0 => ?_⟩
          rw [hr] at w0
          dsimp only at h
          split at h
          · rename_i hz
            simp only [Bool.and_eq_true, Bool.not_eq_true'] at hz
            obtain ⟨hi0, hl0⟩ := hz
            have f2 : Fw g.TB H H1 (fun a => S a ∨ a ∈ As.flatten) (fun a => S1 a ∨ a ∈ As.flatten) := by
              refine ⟨f1.ext, fun a q => q.elim (fun q => .inl (f1.sub a (.inl q))) .inr, fun a q => ?_, fun a q => ?_⟩
              · rcases q with q | q
                · rcases f1.new a q with (z | ⟨i, A, _, z1, z2⟩) | z
                  · exact .inl (.inl z)
                  · exact .inl (.inr (mem_flat z1 z2))
                  · exact .inr z
                · exact .inl (.inr q)
              · rcases q with q | q
                · exact f1.sz a q
                · have := rep.there q
                  exact f1.ext.dom a this
            obtain ⟨r1, s1⟩ := rep.pure f2
            have h1 := RFS.unlock (l := lk) hl0 (RFS.fw s1 r1 h)
            have key := for_core (D := { D with bk := fun _ _ => False, ct := fun _ _ => False }) (W := W) (xg := xg) hK hpr w0 htg (r1.locks (l := lk) (b := true)) h1 (fun σ' H' S' As' ρ' r' s' => ⟨fun a q o e3 n => ?_, ?_⟩) (fun d v H' S' As' ρ' σ' hd _ s' o => imm_own hi0 hd o) (fun a q => f1.sz a q)
            · exact key
            · · refine s'.fr.st a o e3 n ?_
                rcases f1.new a q with (z | ⟨i, A, z0, z1, z2⟩) | z
                · exact .inl fun y => rep.dis a y z
                · obtain ⟨sl, v, y1, y2, y3⟩ := rep.slot z1 z2
                  exact .inr ⟨i, { sl with lk := true }, A, by rw [locks_at, y1]; simp only [Option.map_some, Nat.zero_add, z0, if_true], rfl, z1, z2⟩
                · refine .inl fun y => ?_
                  have := rep.there y
                  rw [z] at this
                  cases this
            · exact tups_fr s'.fr fun a xs q z => by
                obtain ⟨i, A, z1, z2⟩ := of_flat z
                obtain ⟨sl, v, _, _, o⟩ := r1.slot z1 z2
                exact Own.notup o a z2 xs q
          · exact h.elim
end
end PL
namespace PL
open PySem L2 PyProof.Rows
section
variable {g : G} {xg : XG} {Γ : Fe} {X : Cx} {W : WX} {H H1 : Hp} {S S1 : Rg} {As As1 : List Fp} {ρ ρ1 : En} {σ : L2.St} {D : Ends} {a b c : Expr} {xa xb xc : Ex} {pos : Pos}

theorem tYes_of (σ : L2.St) (H : Hp) (Q : Bool → Hp → Prop) (S : Rg) (δ : Ev) (rep : Rep0 g H S δ σ) (h : RFT g xg H S (.ok true) (fun _ _ _ => False) Q) : tYes σ H Q := h H S (Fw.refl rep.sz)
theorem e_comp {elt tgE iter : Expr} {scope : Scope} {own : List (Str × Nat)} {k : SK} {args : List Ex} {tg : List Nat} {xelt : Ex} (hK : g.K = X.K) (hc : X.calm = true) (hN : X.N.Nodup) (hi : (k.isPr = true → 2 ≤ tg.length) ∧ PI X tgE iter (RdI g xg Γ W k args)) (ok : BlkOk X.N X.env.scope scope own) (ho : own.map (·.2) = tg)
    (hg : ∀ (s : Shared) (H : Hp) (C : Addr) (cl : List (Str × Addr)) (fp : List Addr), PG (X.blk s H scope (compEnvC scope cl C X.env) fp) tgE (gT X.K tg))
    (he : ∀ (s : Shared) (H : Hp) (C : Addr) (cl : List (Str × Addr)) (fp : List Addr), PE (X.blk s H scope (compEnvC scope cl C X.env) fp) elt (RdE g xg Γ W0 xelt)) (hs : noSet iter = true) :
    PE X (.ListComp elt [⟨tgE, iter, [], 0⟩] scope pos) (RdE g xg Γ W (.comp k args tg xelt)) := by
  refine (pe_lc hc hN hi.2 ok hg (fun _ _ _ _ _ => pts_nil) he (noFold hs)).imp fun σ H Q ⟨S, δ, rep, h⟩ => ?_
  rw [ho]
  unfold evE at h
  exact comp_core hK hi.1 (tYes_of (g := g) (xg := xg)) rep h
theorem e_compIf {elt tgE iter cnd : Expr} {scope : Scope} {own : List (Str × Nat)} {k : SK} {args : List Ex} {tg : List Nat} {xelt xcnd : Ex} (hK : g.K = X.K) (hc : X.calm = true) (hN : X.N.Nodup) (hi : (k.isPr = true → 2 ≤ tg.length) ∧ PI X tgE iter (RdI g xg Γ W k args)) (ok : BlkOk X.N X.env.scope scope own) (ho : own.map (·.2) = tg)
    (hg : ∀ (s : Shared) (H : Hp) (C : Addr) (cl : List (Str × Addr)) (fp : List Addr), PG (X.blk s H scope (compEnvC scope cl C X.env) fp) tgE (gT X.K tg))
    (ht : ∀ (s : Shared) (H : Hp) (C : Addr) (cl : List (Str × Addr)) (fp : List Addr), PT (X.blk s H scope (compEnvC scope cl C X.env) fp) cnd (RdT g xg Γ W0 xcnd))
    (he : ∀ (s : Shared) (H : Hp) (C : Addr) (cl : List (Str × Addr)) (fp : List Addr), PE (X.blk s H scope (compEnvC scope cl C X.env) fp) elt (RdE g xg Γ W0 xelt)) (hs : noSet iter = true) :
    PE X (.ListComp elt [⟨tgE, iter, [cnd], 0⟩] scope pos) (RdE g xg Γ W (.compIf k args tg xelt xcnd)) := by
  refine (pe_lc hc hN hi.2 ok hg (fun s H C cl fp => pts_one (ht s H C cl fp)) he (noFold hs)).imp fun σ H Q ⟨S, δ, rep, h⟩ => ?_
  rw [ho]
  unfold evE at h
  exact comp_core hK hi.1 (cnd := fun δ => evT Γ xcnd δ) (fun σ H Q S δ rep h => ⟨S, δ, rep, h⟩) rep h
theorem s_asgSw {i : Nat} {x : Str} {e : Expr} {f : Fz} {p2 : Pos} (hN : X.N.Nodup) (hi : X.N[i]? = some x) (hx : Loc X.env.scope x) (he : PE X e (RdE g xg Γ W xa)) (hs : swapsWith e (some (.Name x p2)) pos.line X.env = pure false) (hf : X.fn x = true ∨ X.env.scope.names.lookup x = some .local) (hz : Fre g i) : PS X (.Assign [.Name x p2] e pos) (RdS g xg Γ W (.asg i xa f)) :=
  (ps_set hN hi hx he hs hf).imp fun D σ H ⟨ρ, S, As, rep, h⟩ => by
    unfold exS at h
    exact evP_rf rep h fun d n v ρ1 H1 S1 As1 T _ r1 st o nd fr h1 => putS_rf r1 st o nd fr hz h1
theorem s_asgLc {i : Nat} {x : Str} {f : Fz} {p2 spos : Pos} {elt tgE iter : Expr} {scope : Scope} {own : List (Str × Nat)} {k : SK} {args : List Ex} {tg : List Nat} {xelt : Ex} (hK : g.K = X.K) (hc : X.calm = true) (hN : X.N.Nodup) (hy : X.N[i]? = some x) (hyl : X.env.scope.names.lookup x = some .local)
    (hsw : swapsWith (.ListComp elt [⟨tgE, iter, [], 0⟩] scope pos) (some (.Name x p2)) spos.line X.env = pure true) (hi : (k.isPr = true → 2 ≤ tg.length) ∧ PI X tgE iter (RdI g xg Γ W k args)) (ok : BlkOk X.N X.env.scope scope own) (ho : own.map (·.2) = tg)
    (hg : ∀ (s : Shared) (H : Hp) (C : Addr) (cl : List (Str × Addr)) (fp : List Addr), PG (X.blk s H scope (compEnvC scope cl C X.env) fp) tgE (gT X.K tg))
    (he : ∀ (s : Shared) (H : Hp) (C : Addr) (cl : List (Str × Addr)) (fp : List Addr), PE (X.blk s H scope (compEnvC scope cl C X.env) fp) elt (RdE g xg Γ W0 xelt)) (hs : noSet iter = true) (hz : Fre g i) :
    PS X (.Assign [.Name x p2] (.ListComp elt [⟨tgE, iter, [], 0⟩] scope pos) spos) (RdS g xg Γ W (.asg i (.comp k args tg xelt) f)) :=
  (ps_setLc hc hN hy hyl hsw hi.2 ok hg (fun _ _ _ _ _ => pts_nil) he (noFold hs)).imp fun D σ H ⟨ρ, S, As, rep, h⟩ => by
    unfold exS at h
    rw [ho]
    obtain ⟨S0, δ, rep0, h0⟩ := evP_rf (Q' := fun v H1 => D.nx (σ.set i (some v)) H1) rep h fun d n v ρ1 H1 S1 As1 T _ r1 st o nd fr h1 => putS_rf r1 st o nd fr hz h1
    unfold evE at h0
    exact comp_core hK hi.1 (tYes_of (g := g) (xg := xg)) rep0 h0
theorem s_asgLcIf {i : Nat} {x : Str} {f : Fz} {p2 spos : Pos} {elt tgE iter cnd : Expr} {scope : Scope} {own : List (Str × Nat)} {k : SK} {args : List Ex} {tg : List Nat} {xelt xcnd : Ex} (hK : g.K = X.K) (hc : X.calm = true) (hN : X.N.Nodup) (hy : X.N[i]? = some x) (hyl : X.env.scope.names.lookup x = some .local)
    (hsw : swapsWith (.ListComp elt [⟨tgE, iter, [cnd], 0⟩] scope pos) (some (.Name x p2)) spos.line X.env = pure true) (hi : (k.isPr = true → 2 ≤ tg.length) ∧ PI X tgE iter (RdI g xg Γ W k args)) (ok : BlkOk X.N X.env.scope scope own) (ho : own.map (·.2) = tg)
    (hg : ∀ (s : Shared) (H : Hp) (C : Addr) (cl : List (Str × Addr)) (fp : List Addr), PG (X.blk s H scope (compEnvC scope cl C X.env) fp) tgE (gT X.K tg))
    (ht : ∀ (s : Shared) (H : Hp) (C : Addr) (cl : List (Str × Addr)) (fp : List Addr), PT (X.blk s H scope (compEnvC scope cl C X.env) fp) cnd (RdT g xg Γ W0 xcnd))
    (he : ∀ (s : Shared) (H : Hp) (C : Addr) (cl : List (Str × Addr)) (fp : List Addr), PE (X.blk s H scope (compEnvC scope cl C X.env) fp) elt (RdE g xg Γ W0 xelt)) (hs : noSet iter = true) (hz : Fre g i) :
    PS X (.Assign [.Name x p2] (.ListComp elt [⟨tgE, iter, [cnd], 0⟩] scope pos) spos) (RdS g xg Γ W (.asg i (.compIf k args tg xelt xcnd) f)) :=
  (ps_setLc hc hN hy hyl hsw hi.2 ok hg (fun s H C cl fp => pts_one (ht s H C cl fp)) he (noFold hs)).imp fun D σ H ⟨ρ, S, As, rep, h⟩ => by
    unfold exS at h
    rw [ho]
    obtain ⟨S0, δ, rep0, h0⟩ := evP_rf (Q' := fun v H1 => D.nx (σ.set i (some v)) H1) rep h fun d n v ρ1 H1 S1 As1 T _ r1 st o nd fr h1 => putS_rf r1 st o nd fr hz h1
    unfold evE at h0
    exact comp_core hK hi.1 (cnd := fun δ => evT Γ xcnd δ) (fun σ H Q S δ rep h => ⟨S, δ, rep, h⟩) rep0 h0

/-- what is owned is given up -/
theorem give {n : Nat} {d : PL.D} {v : V} {T : Fp} (r1 : Rep g H1 S1 As1 ρ1 σ) (st : Stp g.TB H S As ρ H1 S1 As1 ρ1) (o : Own g H1 S1 n d v T) (fr : ∀ a ∈ T, H a = none ∧ ¬ S1 a ∧ a ∉ As1.flatten) :
    ∃ S2, Rep g H1 S2 As1 ρ1 σ ∧ Stp g.TB H S As ρ H1 S2 As1 ρ1 ∧ Own g H1 S2 0 d v [] := by
  obtain ⟨B, C, k1, k2⟩ := Own.weak (m := 0) (Nat.zero_le _) o
  have k3 := k1 (fun a => S1 a ∨ a ∈ T) (fun a q => .inl q) (fun a q => .inr ((k2.1 a).mpr (.inr q)))
  have e := k3.zero
  subst e
  refine ⟨_, ⟨r1.tab, fun a q => q.elim (r1.sz a) fun q => o.there a q, r1.len, r1.lenA, fun i s h => ?_, r1.no, r1.nd, fun a q z => z.elim (r1.dis a q) fun z => (fr a z).2.2 q, r1.slf⟩,
    ⟨st.fr, st.dom, fun a q => .inl (st.sub a q), fun a q => q.elim (st.new a) fun q => .inr (.inr (fr a q).1), st.ow, fun i a q => (st.lk i a q).elim .inl fun q => .inr (.inl q)⟩, k3⟩
  obtain ⟨v, A, h1, h2, h3⟩ := r1.at_ i s h
  exact ⟨v, A, h1, h2, h3.keep (Kp.eq (fun _ _ => rfl) (fun a q => ⟨.inl q, rfl⟩) .refl)⟩
theorem s_asgs {es : List Expr} {kt : Nat} {pt : Pos} {e : Expr} {f : Fz} {tg : List Nat} (hK : g.K = X.K) (hc : X.calm = true) (hgs : PGs X es (gNames tg)) (hn : (assignEach es X.env).length = tg.length) (hst : (assignEach es X.env).findIdx? (·.1) = none)
    (he : PE X e (RdE g xg Γ W xa)) (hs : swapsWithSole [.Tuple es kt pt] e pos.line X.env = pure false) (hw : swappedStores [.Tuple es kt pt] e X.env = pure none) (hz : ∀ i ∈ tg, Fre g i) : PS X (.Assign [.Tuple es kt pt] e pos) (RdS g xg Γ W (.asgs tg xa f)) := by
  refine PS.pick fun D σ H ⟨ρ, S, As, rep, h⟩ => ?_
  unfold exS at h
  have key : ∀ (gt : TG), PG X (.Tuple es kt pt) gt → (∀ d n v ρ1 H1 S1 As1, evP Γ xa f ρ = .ok d n ρ1 → Rep g H1 S1 As1 ρ1 σ → Stp g.TB H S As ρ H1 S1 As1 ρ1 → Own g H1 S1 0 d v [] →
      RFS g xg H S As ρ (match d with
        | .tup l => (match bindS tg l ρ1 with | some ρ2 => .nx ρ2 | none => .bad)
        | .lst l => (match bindS tg l ρ1 with | some ρ2 => .nx ρ2 | none => .bad)
        | _ => .bad) W D → gt v σ H1 D.nx) → ∃ t, PS X (.Assign [.Tuple es kt pt] e pos) t ∧ t D σ H := fun gt hg k =>
    ⟨_, ps_asg he hg hs hw rfl, evP_rf rep h fun d n v ρ1 H1 S1 As1 T e1 r1 st o nd fr h1 => by
      obtain ⟨S2, r2, s2, o2⟩ := give r1 st o fr
      exact k d n v ρ1 H1 S2 As1 e1 r2 s2 o2 h1⟩
  cases e1 : evP Γ xa f ρ with
  | ok d n ρ1 =>
    cases d with
    | lst l =>
      refine key _ (pg_lst hc hgs hn hst) fun d' n' v ρ1' H1 S1 As1 e2 r1 st o h1 => ?_
      rw [e1] at e2
      cases e2
      cases eb : bindS tg l ρ1 with
      | some ρ2 =>
        simp only [eb] at h1
        obtain ⟨a, xs, rfl, _, t, l1⟩ := own_lst_v o
        obtain ⟨e3, h3⟩ := bindS_ok (Q := D.nx) hz eb l1 r1 st fun σ2 As2 r2 s2 => h1 _ _ _ _ r2 s2
        exact ⟨a, xs, rfl, rdL t, e3, h3⟩
      | none => simp only [eb] at h1; exact h1.elim
    | tup l =>
      refine key _ (pg_tup hc hgs hn hst) fun d' n' v ρ1' H1 S1 As1 e2 r1 st o h1 => ?_
      rw [e1] at e2
      cases e2
      cases eb : bindS tg l ρ1 with
      | some ρ2 =>
        simp only [eb] at h1
        obtain ⟨a, xs, rfl, t, l1⟩ := own_tup_v o
        obtain ⟨e3, h3⟩ := bindS_ok (Q := D.nx) hz eb l1 r1 st fun σ2 As2 r2 s2 => h1 _ _ _ _ r2 s2
        exact ⟨a, xs, rfl, by rw [← hK]; exact t, e3, h3⟩
      | none => simp only [eb] at h1; exact h1.elim
    | _ => rw [e1] at h; exact h.elim
  | exn x =>
    refine key _ (pg_tup hc hgs hn hst) fun d' n' v ρ1' H1 S1 As1 e2 r1 st o h1 => ?_
    rw [e1] at e2
    cases e2
  | bad => rw [e1] at h; exact h.elim
end
end PL
namespace PL
open PySem L2 PyProof.Rows
/-- from v along the path stands r -/
inductive VP (g : G) (H : Hp) : V → List PS1 → V → Prop where
  | nil {v : V} : VP g H v [] v
  | ixl {a : Addr} {xs : List V} {k : Int} {x r : V} {ps : List PS1} (t : Rd H a (.lst xs)) (e : atI xs k = some x) (h : VP g H x ps r) : VP g H (.ref a) (.ix k :: ps) r
  | ixt {a : Addr} {xs : List V} {k : Int} {x r : V} {ps : List PS1} (t : Rd H a (.tup xs)) (e : atI xs k = some x) (h : VP g H x ps r) : VP g H (.ref a) (.ix k :: ps) r
  | fld {a C dx : Addr} {fs : List (Str × V)} {f : Nat} {x r : V} {ps : List PS1} (t : H a = some (.ins C dx fs)) (e : fs.lookup (g.AN f) = some x) (h : VP g H x ps r) : VP g H (.ref a) (.fld f :: ps) r
theorem rd_fun {H : Hp} {a : Addr} {u w : HO} (h1 : Rd H a u) (h2 : Rd H a w) (hu : ∀ o x, u ≠ .frz o x) (hw : ∀ o x, w ≠ .frz o x) : u = w := by
  rcases h1 with h1 | ⟨o, h1⟩ <;> rcases h2 with h2 | ⟨o', h2⟩ <;> rw [h1] at h2 <;> cases h2 <;> first | rfl | exact absurd rfl (hu _ _) | exact absurd rfl (hw _ _)
theorem rd_ll {H : Hp} {a : Addr} {xs ys : List V} (h1 : Rd H a (.lst xs)) (h2 : Rd H a (.lst ys)) : xs = ys := by
  have := rd_fun h1 h2 (fun _ _ q => by cases q) (fun _ _ q => by cases q)
  cases this
  rfl
theorem rd_tt {H : Hp} {a : Addr} {xs ys : List V} (h1 : Rd H a (.tup xs)) (h2 : Rd H a (.tup ys)) : xs = ys := by
  have := rd_fun h1 h2 (fun _ _ q => by cases q) (fun _ _ q => by cases q)
  cases this
  rfl
theorem rd_lt {H : Hp} {a : Addr} {xs ys : List V} (h1 : Rd H a (.lst xs)) (h2 : Rd H a (.tup ys)) : False := by
  have := rd_fun h1 h2 (fun _ _ q => by cases q) (fun _ _ q => by cases q)
  cases this
theorem VP.ext {g : G} {H H' : Hp} (e : Ext g.TB H H') {v r : V} {ps : List PS1} (h : VP g H v ps r) : VP g H' v ps r := by
  induction h with
  | nil => exact .nil
  | ixl t e1 _ ih => exact .ixl (e.rd t) e1 ih
  | ixt t e1 _ ih => exact .ixt (e.rd t) e1 ih
  | fld t e1 _ ih => exact .fld (e.st _ _ t nTb_ins) e1 ih
theorem VP.det {g : G} {H : Hp} {v r : V} {ps : List PS1} (h : VP g H v ps r) : ∀ {r' : V}, VP g H v ps r' → r = r' := by
  induction h with
  | nil => intro r' h'; cases h'; rfl
  | ixl t e1 _ ih =>
    intro r' h'
    cases h' with
    | ixl t' e2 h2 => have := rd_ll t t'; subst this; rw [e1] at e2; cases e2; exact ih h2
    | ixt t' e2 h2 => exact (rd_lt t t').elim
  | ixt t e1 _ ih =>
    intro r' h'
    cases h' with
    | ixl t' e2 h2 => exact (rd_lt t' t).elim
    | ixt t' e2 h2 => have := rd_tt t t'; subst this; rw [e1] at e2; cases e2; exact ih h2
  | fld t e1 _ ih =>
    intro r' h'
    cases h' with
    | fld t' e2 h2 => rw [t] at t'; cases t'; rw [e1] at e2; cases e2; exact ih h2
theorem VP.app {g : G} {H : Hp} {v r w : V} {ps qs : List PS1} (h : VP g H v ps r) (k : VP g H r qs w) : VP g H v (ps ++ qs) w := by
  induction h with
  | nil => exact k
  | ixl t e1 _ ih => exact .ixl t e1 (ih k)
  | ixt t e1 _ ih => exact .ixt t e1 (ih k)
  | fld t e1 _ ih => exact .fld t e1 (ih k)
theorem VP.split {g : G} {H : Hp} {qs : List PS1} {w : V} : ∀ {ps : List PS1} {v : V}, VP g H v (ps ++ qs) w → ∃ r, VP g H v ps r ∧ VP g H r qs w
  | [], v, h => ⟨v, .nil, h⟩
  | p :: ps, v, h => by
    have h' : VP g H v (p :: (ps ++ qs)) w := h
    cases h' with
    | ixl t e h => obtain ⟨r, h1, h2⟩ := VP.split h; exact ⟨r, .ixl t e h1, h2⟩
    | ixt t e h => obtain ⟨r, h1, h2⟩ := VP.split h; exact ⟨r, .ixt t e h1, h2⟩
    | fld t e h => obtain ⟨r, h1, h2⟩ := VP.split h; exact ⟨r, .fld t e h1, h2⟩
section
variable {g : G} {H : Hp} {S : Rg}
/-- one of the items, and how it is put back -/
theorem OwnL.split {n : Nat} : ∀ {ds : List PL.D} {xs : List V} {A : Fp} {j : Nat} {d : PL.D}, OwnL g H S n ds xs A → ds[j]? = some d →
    ∃ x B1 B B2, xs[j]? = some x ∧ A = B1 ++ B ++ B2 ∧ Own g H S n d x B ∧ ∀ (H' : Hp) (S' : Rg) (d' : PL.D) (x' : V) (B' : Fp), Kp H H' S S' (B1 ++ B2) → Own g H' S' n d' x' B' → OwnL g H' S' n (ds.set j d') (xs.set j x') (B1 ++ B' ++ B2)
  | [], _, _, j, d, _, h => by simp at h
  | e :: ds, _, _, 0, d, o, h => by
    unfold OwnL at o
    obtain ⟨x, ys, B, C, rfl, rfl, h1, h2⟩ := o
    cases h
    refine ⟨x, [], B, C, rfl, by simp, h1, fun H' S' d' x' B' k o' => ?_⟩
    show OwnL g H' S' n (d' :: ds) (x' :: ys) _
    rw [List.nil_append]
    exact OwnL.cons o' (h2.keep (by simpa using k))
  | e :: ds, _, _, j + 1, d, o, h => by
    unfold OwnL at o
    obtain ⟨x, ys, B, C, rfl, rfl, h1, h2⟩ := o
    obtain ⟨z, B1, B0, B2, e1, rfl, o1, k1⟩ := OwnL.split h2 (by simpa using h)
    refine ⟨z, B ++ B1, B0, B2, by simpa using e1, by simp [List.append_assoc], o1, fun H' S' d' x' B' k o' => ?_⟩
    show OwnL g H' S' n (e :: ds.set j d') (x :: ys.set j x') _
    have := OwnL.cons (h1.keep (k.sub fun a q => by simp [q])) (k1 H' S' d' x' B' (k.sub fun a q => by
      rcases List.mem_append.mp q with q | q <;> simp [q]) o')
    simpa [List.append_assoc] using this
theorem set_same {α : Type} : ∀ {l : List α} {i : Nat} {x : α}, l[i]? = some x → l.set i x = l
  | [], _, _, h => by simp at h
  | y :: l, 0, x, h => by cases h; rfl
  | y :: l, i + 1, x, h => by
    show y :: l.set i x = y :: l
    rw [set_same (by simpa using h)]
/-- an attribute's place -/
theorem fld_at (inj : ∀ i j, g.AN i = g.AN j → i = j) {f : Nat} {d : PL.D} : ∀ {ks : List Nat} {vs : List PL.D} {xs : List V}, fldL f ks vs = some d → ks.length = vs.length → xs.length = vs.length →
    ∃ j, vs[j]? = some d ∧ (∀ y, putF1 f y ks vs = vs.set j y) ∧ ∀ x, xs[j]? = some x → ((ks.map g.AN).zip xs).lookup (g.AN f) = some x
  | [], _, _, h, _, _ => by cases h
  | k :: ks, [], _, h, _, _ => by cases h
  | k :: ks, v :: vs, [], h, _, e => by cases e
  | k :: ks, v :: vs, x :: xs, h, e1, e2 => by
    unfold fldL at h
    by_cases hk : k = f
    · subst hk
      rw [if_pos rfl] at h
      cases h
      refine ⟨0, rfl, fun y => by unfold putF1; rw [if_pos rfl]; rfl, fun z hz => ?_⟩
      cases hz
      show List.lookup (g.AN k) ((g.AN k, x) :: ((ks.map g.AN).zip xs)) = some x
      rw [List.lookup_cons]
      simp
    · rw [if_neg hk] at h
      obtain ⟨j, h1, h2, h3⟩ := fld_at inj h (by simpa using e1) (by simpa using e2)
      refine ⟨j + 1, h1, fun y => by unfold putF1; rw [if_neg hk, h2]; rfl, fun z hz => ?_⟩
      show List.lookup (g.AN f) ((g.AN k, x) :: ((ks.map g.AN).zip xs)) = some z
      rw [List.lookup_cons]
      have : (g.AN f == g.AN k) = false := by
        rw [beq_eq_false_iff_ne]
        exact fun e => hk (inj _ _ e.symm)
      rw [this]
      exact h3 z hz
/-- the node at the end of a path, and how it is put back -/
theorem focus (inj : ∀ i j, g.AN i = g.AN j → i = j) : ∀ {qs : List PS1} {d x : PL.D} {u n : Nat} {v : V} {A : Fp}, Own g H S n d v A → getP d qs = some (x, u) → u < n → (∀ (r : V) (k : Nat) (B : Fp), Own g H S (k + 1) x r B → B ≠ []) →
    ∃ r A1 A0 A2, VP g H v qs r ∧ A = A1 ++ A0 ++ A2 ∧ Own g H S (n - u) x r A0 ∧ ∀ (H' : Hp) (S' : Rg) (y : PL.D) (B : Fp), Kp H H' S S' (A1 ++ A2) → Own g H' S' (n - u) y r B → Own g H' S' n (putP y d qs) v (A1 ++ B ++ A2)
  | [], d, x, u, n, v, A, o, h, hu, ne => by
    cases h
    exact ⟨v, [], A, [], .nil, by simp, o, fun H' S' y B _ o' => by
      rw [List.nil_append, List.append_nil]
      cases d <;> exact o'⟩
  | .ix k :: qs, d, x, u, n, v, A, o, h, hu, ne => by
    cases d with
    | lst l =>
      unfold getP at h
      cases e1 : ixN l.length k with
      | none => rw [e1] at h; cases h
      | some j =>
        rw [e1] at h
        dsimp only at h
        cases e2 : l[j]? with
        | none => rw [e2] at h; cases h
        | some dj =>
          rw [e2] at h
          dsimp only at h
          cases e3 : getP dj qs with
          | none => rw [e3] at h; cases h
          | some p =>
            rw [e3] at h
            simp only [Option.map_some, Option.some.injEq, Prod.mk.injEq] at h
            obtain ⟨hx, rfl⟩ := h
            obtain ⟨m, rfl⟩ : ∃ m, n = m + 1 := ⟨n - 1, by omega⟩
            unfold Own at o
            obtain ⟨a, xs, B, rfl, t, rfl, ol⟩ := o
            obtain ⟨z, B1, B0, B2, f1, rfl, f2, f3⟩ := ol.split e2
            obtain ⟨r, C1, C0, C2, v1, rfl, o1, k1⟩ := focus inj f2 (x := x) (u := p.2) (by rw [e3, ← hx]) (by omega) ne
            refine ⟨r, a :: (B1 ++ C1), C0, C2 ++ B2, .ixl (.inl t) (by unfold atI; rw [ol.length, e1]; exact f1) v1, by simp [List.append_assoc], by rw [Nat.add_sub_add_right]; exact o1, fun H' S' y B kp o' => ?_⟩
            rw [Nat.add_sub_add_right] at o'
            have q := k1 H' S' y B (kp.sub fun b hb => by rcases List.mem_append.mp hb with hb | hb <;> simp [hb]) o'
            have q2 := f3 H' S' _ z _ (kp.sub fun b hb => by rcases List.mem_append.mp hb with hb | hb <;> simp [hb]) q
            rw [set_same f1] at q2
            show Own g H' S' (m + 1) (putP y (.lst l) (.ix k :: qs)) _ _
            unfold putP
            rw [e1]
            dsimp only
            rw [e2]
            dsimp only
            unfold Own
            exact ⟨a, xs, _, rfl, kp.own a (by simp) _ t nTb_lst, by simp [List.append_assoc], q2⟩
    | tup l =>
      unfold getP at h
      cases e1 : ixN l.length k with
      | none => rw [e1] at h; cases h
      | some j =>
        rw [e1] at h
        dsimp only at h
        cases e2 : l[j]? with
        | none => rw [e2] at h; cases h
        | some dj =>
          rw [e2] at h
          dsimp only at h
          unfold Own at o
          obtain ⟨a, xs, rfl, t, tr, ol⟩ := o
          obtain ⟨z, B1, B0, B2, f1, rfl, f2, f3⟩ := ol.split e2
          obtain ⟨r, C1, C0, C2, v1, rfl, o1, k1⟩ := focus inj f2 h hu ne
          have tr' : Rd H a (.tup xs) := by
            rcases tr with e | e
            · exfalso
              have h0 : C0 = [] := by
                have := List.append_eq_nil_iff.mp e
                have := List.append_eq_nil_iff.mp this.1
                have := List.append_eq_nil_iff.mp this.2
                exact (List.append_eq_nil_iff.mp this.1).2
              obtain ⟨m, hm⟩ : ∃ m, n - u = m + 1 := ⟨n - u - 1, by omega⟩
              rw [hm] at o1
              exact ne r m C0 o1 h0
            · exact e
          refine ⟨r, B1 ++ C1, C0, C2 ++ B2, .ixt tr' (by unfold atI; rw [ol.length, e1]; exact f1) v1, by simp [List.append_assoc], o1, fun H' S' y B kp o' => ?_⟩
          have q := k1 H' S' y B (kp.sub fun b hb => by rcases List.mem_append.mp hb with hb | hb <;> simp [hb]) o'
          have q2 := f3 H' S' _ z _ (kp.sub fun b hb => by rcases List.mem_append.mp hb with hb | hb <;> simp [hb]) q
          rw [set_same f1] at q2
          show Own g H' S' n (putP y (.tup l) (.ix k :: qs)) _ _
          unfold putP
          rw [e1]
          dsimp only
          rw [e2]
          dsimp only
          unfold Own
          exact ⟨a, xs, rfl, kp.tup.sqN t, .inr (kp.tup.rd tr'), by simpa [List.append_assoc] using q2⟩
    | _ => cases h
  | .fld f :: qs, d, x, u, n, v, A, o, h, hu, ne => by
    cases d with
    | obj c ks vs =>
      unfold getP at h
      cases e2 : fldL f ks vs with
      | none => rw [e2] at h; cases h
      | some dj =>
        rw [e2] at h
        dsimp only at h
        cases e3 : getP dj qs with
        | none => rw [e3] at h; cases h
        | some p =>
          rw [e3] at h
          simp only [Option.map_some, Option.some.injEq, Prod.mk.injEq] at h
          obtain ⟨hx, rfl⟩ := h
          obtain ⟨m, rfl⟩ : ∃ m, n = m + 1 := ⟨n - 1, by omega⟩
          unfold Own at o
          obtain ⟨a, dx, xs, B, rfl, t, el, rfl, ol⟩ := o
          obtain ⟨j, g1, g2, g3⟩ := fld_at inj e2 el ol.length
          obtain ⟨z, B1, B0, B2, f1, rfl, f2, f3⟩ := ol.split g1
          obtain ⟨r, C1, C0, C2, v1, rfl, o1, k1⟩ := focus inj f2 (x := x) (u := p.2) (by rw [e3, ← hx]) (by omega) ne
          refine ⟨r, a :: (B1 ++ C1), C0, C2 ++ B2, .fld t (g3 z f1) v1, by simp [List.append_assoc], by rw [Nat.add_sub_add_right]; exact o1, fun H' S' y B kp o' => ?_⟩
          rw [Nat.add_sub_add_right] at o'
          have q := k1 H' S' y B (kp.sub fun b hb => by rcases List.mem_append.mp hb with hb | hb <;> simp [hb]) o'
          have q2 := f3 H' S' _ z _ (kp.sub fun b hb => by rcases List.mem_append.mp hb with hb | hb <;> simp [hb]) q
          rw [set_same f1] at q2
          show Own g H' S' (m + 1) (putP y (.obj c ks vs) (.fld f :: qs)) _ _
          unfold putP
          rw [e2]
          dsimp only
          rw [g2]
          unfold Own
          exact ⟨a, dx, xs, _, rfl, kp.own a (by simp) _ t nTb_ins, by rw [List.length_set]; exact el, by simp [List.append_assoc], q2⟩
    | _ => cases h
end
section
variable {g : G} {xg : XG} {Γ : Fe} {X : Cx} {W : WX} {H H1 : Hp} {S S1 : Rg} {As As1 : List Fp} {ρ ρ1 : En} {σ : L2.St} {D : Ends} {a b c : Expr} {xa xb xc : Ex} {pos : Pos}
theorem Rep.drop (r : Rep g H S As ρ σ) (j : Nat) : Rep g H S (As.set j []) (ρ.set j none) σ := by
  refine ⟨r.tab, r.sz, by rw [List.length_set]; exact r.len, by rw [List.length_set, List.length_set]; exact r.lenA, fun i s h => ?_, fun i h => ?_, nd_set r.nd List.nodup_nil (fun a q => nomatch q), fun a q z => ?_, r.slf⟩
  · rcases set_at h with ⟨rfl, e⟩ | ⟨hne, e⟩
    · cases e
    · rw [List.getElem?_set_ne hne]
      exact r.at_ i s e
  · rcases set_at h with ⟨rfl, e⟩ | ⟨hne, e⟩
    · have hj : j < ρ.length := by have := (List.getElem?_eq_some_iff.mp h).1; rwa [List.length_set] at this
      exact List.getElem?_set_self (by rw [r.lenA]; exact hj)
    · rw [List.getElem?_set_ne hne]
      exact r.no i e
  · obtain ⟨i, A, h1, h2⟩ := of_flat q
    rcases set_at h1 with ⟨rfl, e⟩ | ⟨hne, e⟩
    · subst e; cases h2
    · exact r.dis a (mem_flat e h2) z
theorem Rep.more {C : Rg} (r : Rep g H S As ρ σ) (hC : ∀ a, C a → (H a).isSome = true) (hd : ∀ a ∈ As.flatten, ¬ C a) : Rep g H (fun a => S a ∨ C a) As ρ σ := by
  refine ⟨r.tab, fun a q => q.elim (r.sz a) (hC a), r.len, r.lenA, fun i s h => ?_, r.no, r.nd, fun a q z => z.elim (r.dis a q) (hd a q), r.slf⟩
  obtain ⟨v, A, h1, h2, h3⟩ := r.at_ i s h
  exact ⟨v, A, h1, h2, h3.keep (Kp.eq (fun _ _ => rfl) (fun a q => ⟨.inl q, rfl⟩) .refl)⟩
theorem kp_poke {p : Addr} {o u : HO} {F : Fp} (hp : H p = some u) (hu : ∀ xs, u ≠ .tup xs) (hf : ∀ ob x, u ≠ .frz ob x) (nS : ¬ S p) (nF : p ∉ F) : Kp H (upd H p o) S S F :=
  Kp.eq (fun a q => upd_ne fun e => nF (e ▸ q)) (fun a q => ⟨q, upd_ne fun e => nS (e ▸ q)⟩) (TupS.poke hp hu hf)
theorem Rep.poke {p : Addr} {o u : HO} (r : Rep g H S As ρ σ) (hp : H p = some u) (hu : ∀ xs, u ≠ .tup xs) (hf : ∀ ob x, u ≠ .frz ob x) (pk : Pok u) (nS : ¬ S p) (nA : p ∉ As.flatten) : Rep g (upd H p o) S As ρ σ := by
  refine ⟨⟨pk.tab hp r.tab.1, fun t z => pk.cod hp (r.tab.2 t z)⟩, fun a q => ?_, r.len, r.lenA, fun i s h => ?_, r.no, r.nd, r.dis, r.slf⟩
  · have : a ≠ p := fun e => nS (by rw [← e]; exact q)
    rw [upd_ne this]
    exact r.sz a q
  · obtain ⟨v, A, h1, h2, h3⟩ := r.at_ i s h
    exact ⟨v, A, h1, h2, h3.keep (kp_poke hp hu hf nS fun q => nA (mem_flat h2 q))⟩
theorem nd_swap {A1 A0 A2 B : Fp} (h : (A1 ++ A0 ++ A2).Nodup) (hB : B.Nodup) (hs : ∀ b ∈ B, b ∈ A0 ∨ (b ∉ A1 ∧ b ∉ A2)) : (A1 ++ B ++ A2).Nodup := by
  obtain ⟨h1, h2, h3⟩ := List.nodup_append.mp h
  obtain ⟨h4, h5, h6⟩ := List.nodup_append.mp h1
  refine List.nodup_append.mpr ⟨List.nodup_append.mpr ⟨h4, hB, fun x hx y hy e => ?_⟩, h2, fun x hx y hy e => ?_⟩
  · subst e
    rcases hs x hy with z | z
    · exact h6 x hx x z rfl
    · exact z.1 hx
  · subst e
    rcases List.mem_append.mp hx with hx | hx
    · exact h3 x (List.mem_append_left _ hx) x hy rfl
    · rcases hs x hx with z | z
      · exact h3 x (List.mem_append_right _ z) x hy rfl
      · exact z.2 hy
/-- a list at the end of a path of a slot becomes another one -/
theorem mut_core' (inj : ∀ i j, g.AN i = g.AN j → i = j) (r1 : Rep g H1 S1 As1 ρ1 σ) (st : Stp g.TB H S As ρ H1 S1 As1 ρ1) {j : Nat} {s : Sl} (es : ρ1[j]? = some (some s)) (hlk : s.lk = false) {qs : List PS1} {l : List PL.D} {u : Nat} (hp : getP s.d qs = some (.lst l, u)) (hu : u < s.n)
    {d : PL.D} {n : Nat} {v : V} {T : Fp} (o : Own g H1 S1 n d v T) (nd : T.Nodup) (fr : ∀ a ∈ T, H a = none ∧ ¬ S1 a ∧ a ∉ As1.flatten) {v0 r0 : V} (hv : σ[j]? = some (some v0)) (hr : VP g H1 v0 qs r0) :
    ∃ a xs, r0 = .ref a ∧ H1 a = some (.lst xs) ∧ xs.length = l.length ∧ (∃ (R : Rg) (k : Nat) (B : Fp), OwnL g H1 R k l xs B) ∧ ∀ (nl : List PL.D) (nx : List V), (∀ (R : Rg) (k : Nat) (B T' : Fp), (k ≤ n ∨ immB n d = true) → OwnL g H1 R k l xs B → Own g H1 R k d v T' → (B ++ T').Nodup → ∃ B', OwnL g H1 R k nl nx B' ∧ B'.Nodup ∧ ∀ b ∈ B', b ∈ B ++ T') →
      RFS g xg H S As ρ (.nx (ρ1.set j (some ⟨putP (.lst nl) s.d qs, if immB n d = true ∨ s.n ≤ u + 1 + n then s.n else u + 1 + n, false⟩))) W D → D.nx σ (upd H1 a (.lst nx)) := by
  obtain ⟨v', A, hv', hA, oA⟩ := r1.at_ j s es
  rw [hv] at hv'
  cases hv'
  generalize hmd : (if immB n d = true ∨ s.n ≤ u + 1 + n then s.n else u + 1 + n) = m
  have hm : m ≤ s.n := by rw [← hmd]; split <;> omega
  have hum : u < m := by rw [← hmd]; split <;> omega
  have hkn : m - u - 1 ≤ n ∨ immB n d = true := by
    rw [← hmd]
    split
    · rename_i z
      rcases z with z | z
      · exact .inr z
      · exact .inl (by omega)
    · exact .inl (by omega)
  obtain ⟨B0, C0, k1, sp0⟩ := Own.weak hm oA
  obtain ⟨T', C', k2, sp1⟩ : ∃ T' C', (∀ R : Rg, (∀ a, S1 a → R a) → (∀ a ∈ C', R a) → Own g H1 R (m - u - 1) d v T') ∧ Spl T T' C' := by
    by_cases hk : m - u - 1 ≤ n
    · exact Own.weak hk o
    · exact ⟨T, [], fun R _ _ => o.imm (by omega) (hkn.resolve_left hk), ⟨fun a => by simp, fun h => by simpa using h⟩⟩
  have ndA := nd_one r1.nd hA
  obtain ⟨ndB0, ndC0, dBC⟩ := List.nodup_append.mp (sp0.2 ndA)
  obtain ⟨ndT', ndC', dTC⟩ := List.nodup_append.mp (sp1.2 nd)
  have hB0 : ∀ b ∈ B0, b ∈ A := fun b q => (sp0.1 b).mpr (.inl q)
  have hC0 : ∀ b ∈ C0, b ∈ A := fun b q => (sp0.1 b).mpr (.inr q)
  have hT' : ∀ b ∈ T', b ∈ T := fun b q => (sp1.1 b).mpr (.inl q)
  have hC' : ∀ b ∈ C', b ∈ T := fun b q => (sp1.1 b).mpr (.inr q)
  have oR := k1 (fun b => S1 b ∨ (b ∈ C0 ∨ b ∈ C')) (fun b q => .inl q) (fun b q => .inr (.inl q))
  have oV := k2 (fun b => S1 b ∨ (b ∈ C0 ∨ b ∈ C')) (fun b q => .inl q) (fun b q => .inr (.inr q))
  obtain ⟨r, A1, A0, A2, vp, eB0, oL, reb⟩ := focus inj oR hp hum fun r k B q => by
    unfold Own at q
    obtain ⟨_, _, _, _, _, e, _⟩ := q
    rw [e]
    exact List.cons_ne_nil _ _
  obtain rfl := vp.det hr
  obtain ⟨k, hk⟩ : ∃ k, m - u = k + 1 := ⟨m - u - 1, by omega⟩
  rw [hk] at oL
  rw [show m - u - 1 = k by omega] at oV
  unfold Own at oL
  obtain ⟨a, xs, B, rfl, ha, rfl, ol⟩ := oL
  have aB0 : a ∈ B0 := by rw [eB0]; simp
  have aA := hB0 a aB0
  have hBB : ∀ b ∈ B, b ∈ B0 := fun b q => by rw [eB0]; simp [q]
  refine ⟨a, xs, rfl, ha, ol.length, ⟨_, _, _, ol⟩, fun nl nx hop h => ?_⟩
  rw [eB0] at ndB0
  have ndaB : (a :: B).Nodup := (List.nodup_append.mp (List.nodup_append.mp ndB0).1).2.1
  obtain ⟨naB, ndB⟩ := List.nodup_cons.mp ndaB
  have naT : ∀ b ∈ T, b ∉ A := fun b q z => (fr b q).2.2 (mem_flat hA z)
  obtain ⟨Bn, on, ndn, sub⟩ := hop _ k B T' (by rw [show k = m - u - 1 by omega]; exact hkn) ol oV (List.nodup_append.mpr ⟨ndB, ndT', fun x hx y hy e => by
    subst e
    exact naT x (hT' x hy) (hB0 x (hBB x hx))⟩)
  have nR : ¬ (S1 a ∨ (a ∈ C0 ∨ a ∈ C')) := fun q => by
    rcases q with q | q | q
    · exact r1.dis a (mem_flat hA aA) q
    · exact dBC a aB0 a q rfl
    · exact naT a (hC' a q) aA
  have naBn : a ∉ Bn := fun q => by
    rcases List.mem_append.mp (sub a q) with z | z
    · exact naB z
    · exact naT a (hT' a z) aA
  have kp : ∀ F : Fp, a ∉ F → Kp H1 (upd H1 a (.lst nx)) (fun b => S1 b ∨ (b ∈ C0 ∨ b ∈ C')) (fun b => S1 b ∨ (b ∈ C0 ∨ b ∈ C')) F := fun F hF => kp_poke ha (fun _ q => by cases q) (fun _ _ q => by cases q) nR hF
  have na12 : a ∉ A1 ++ A2 := fun q => by
    obtain ⟨n1, n2, n3⟩ := List.nodup_append.mp ndB0
    rcases List.mem_append.mp q with q | q
    · exact (List.nodup_append.mp n1).2.2 a q a List.mem_cons_self rfl
    · exact n3 a (List.mem_append_right _ List.mem_cons_self) a q rfl
  have oN := reb (upd H1 a (.lst nx)) _ (.lst nl) (a :: Bn) (kp _ na12) (by rw [hk]; exact own_lst upd_same (on.keep (kp Bn naBn)))
  have ndT2 : (A1 ++ (a :: Bn) ++ A2).Nodup := nd_swap ndB0 (List.nodup_cons.mpr ⟨naBn, ndn⟩) fun b hb => by
    rcases List.mem_cons.mp hb with rfl | hb
    · exact .inl List.mem_cons_self
    · rcases List.mem_append.mp (sub b hb) with z | z
      · exact .inl (List.mem_cons_of_mem _ z)
      · refine .inr ⟨fun y => ?_, fun y => ?_⟩
        · exact naT b (hT' b z) (hB0 b (by rw [eB0]; simp [y]))
        · exact naT b (hT' b z) (hB0 b (by rw [eB0]; simp [y]))
  have inT2 : ∀ b ∈ A1 ++ (a :: Bn) ++ A2, b ∈ A ∨ b ∈ T := fun b hb => by
    have : b ∈ A1 ∨ b = a ∨ b ∈ Bn ∨ b ∈ A2 := by simpa [or_assoc] using hb
    rcases this with z | rfl | z | z
    · exact .inl (hB0 b (by rw [eB0]; simp [z]))
    · exact .inl aA
    · rcases List.mem_append.mp (sub b z) with y | y
      · exact .inl (hB0 b (hBB b y))
      · exact .inr (hT' b y)
    · exact .inl (hB0 b (by rw [eB0]; simp [z]))
  have notC : ∀ b ∈ A1 ++ (a :: Bn) ++ A2, ¬ (S1 b ∨ (b ∈ C0 ∨ b ∈ C')) := fun b hb q => by
    have mB : b ∈ A1 ∨ b = a ∨ b ∈ Bn ∨ b ∈ A2 := by simpa [or_assoc] using hb
    have key : b ∈ B0 ∨ b ∈ T' := by
      rcases mB with z | rfl | z | z
      · exact .inl (by rw [eB0]; simp [z])
      · exact .inl aB0
      · rcases List.mem_append.mp (sub b z) with y | y
        · exact .inl (hBB b y)
        · exact .inr y
      · exact .inl (by rw [eB0]; simp [z])
    rcases key with z | z
    · rcases q with q | q | q
      · exact r1.dis b (mem_flat hA (hB0 b z)) q
      · exact dBC b z b q rfl
      · exact naT b (hC' b q) (hB0 b z)
    · rcases q with q | q | q
      · exact (fr b (hT' b z)).2.1 q
      · exact naT b (hT' b z) (hC0 b q)
      · exact dTC b z b q rfl
  have other : ∀ {b : Addr}, b ∈ (As1.set j []).flatten → b ∈ As1.flatten ∧ b ∉ A := fun {b} q => by
    obtain ⟨i, F, h1, h2⟩ := of_flat q
    rcases set_at h1 with ⟨rfl, e⟩ | ⟨hne, e⟩
    · subst e; cases h2
    · exact ⟨mem_flat e h2, fun z => hne (nd_slots r1.nd hA e z h2)⟩
  have r2 := ((r1.drop j).more (C := fun b => b ∈ C0 ∨ b ∈ C') (fun b q => q.elim (fun q => oA.there b (hC0 b q)) fun q => o.there b (hC' b q)) fun b q z => by
      rcases z with z | z
      · exact (other q).2 (hC0 b z)
      · exact (fr b (hC' b z)).2.2 (other q).1).poke (o := .lst nx) ha (fun _ q => by cases q) (fun _ _ q => by cases q) pok_lst nR fun q => (other q).2 aA
  have fromA : ∀ b ∈ A, b ∈ As.flatten ∨ H b = none := fun b q => st.ow b (mem_flat hA q)
  have nlk : ∀ b i, b ∈ A → ¬ Lk ρ1 As1 i b := fun b i q ⟨s', F, h1, h2, h3, h4⟩ => by
    have := nd_slots r1.nd hA h3 q h4
    subst this
    rw [es] at h1
    cases h1
    rw [hlk] at h2
    cases h2
  have st2 : Stp g.TB H S As ρ (upd H1 a (.lst nx)) (fun b => S1 b ∨ (b ∈ C0 ∨ b ∈ C')) (As1.set j []) (ρ1.set j none) := by
    have dm : ∀ b, (H b).isSome = true → (upd H1 a (.lst nx) b).isSome = true := fun b q => by
      by_cases e : b = a
      · rw [e, upd_same]; rfl
      · rw [upd_ne e]; exact st.dom b q
    refine ⟨⟨fun b w e n q => ?_, dm, fun h => pok_lst.tab ha (st.fr.tab h), fun c q h => pok_lst.cod ha (st.fr.cod c q h)⟩, dm, fun b q => .inl (st.sub b q), fun b q => ?_, fun b q => ?_, fun i b q => ?_⟩
    · have hb := st.fr.st b w e n q
      have : b ≠ a := fun z => by
        subst z
        rcases fromA b aA with y | y
        · rcases q with q | ⟨i, q⟩
          · exact q y
          · rcases st.lk i b q with x | x
            · exact nlk b i aA x
            · exact r1.dis b (mem_flat hA aA) x
        · rw [e] at y; cases y
      rw [upd_ne this]
      exact hb
    · rcases q with q | q | q
      · exact st.new b q
      · exact .inr (fromA b (hC0 b q))
      · exact .inr (.inr (fr b (hC' b q)).1)
    · exact st.ow b (other q).1
    · rcases st.lk i b q with z | z
      · obtain ⟨s', F, h1, h2, h3, h4⟩ := z
        have hne : j ≠ i := fun e => by
          subst e
          rw [es] at h1
          cases h1
          rw [hlk] at h2
          cases h2
        exact .inl ⟨s', F, by rw [List.getElem?_set_ne hne]; exact h1, h2, by rw [List.getElem?_set_ne hne]; exact h3, h4⟩
      · exact .inr (.inl z)
  have hj : j < ρ1.length := (List.getElem?_eq_some_iff.mp es).1
  obtain ⟨r3, s3⟩ := put_ok (i := j) r2 st2 oN ndT2 (fun b q => ⟨(inT2 b q).elim (fromA b) fun z => .inr (fr b z).1, notC b q, fun i F h1 hne h2 => by
    rcases set_at h1 with ⟨rfl, e⟩ | ⟨_, e⟩
    · exact hne rfl
    · rcases inT2 b q with z | z
      · exact hne (nd_slots r1.nd e hA h2 z)
      · exact (fr b z).2.2 (mem_flat e h2)⟩) (by unfold lockedAt; rw [List.getElem?_set_self hj]) (fun w hw e => by
    have h0 := r1.slf w hw
    rw [← e, hv] at h0
    cases h0
    rfl)
  rw [set_same hv, List.set_set, List.set_set] at r3
  rw [List.set_set, List.set_set] at s3
  exact h _ _ _ _ r3 s3
theorem mut_core (inj : ∀ i j, g.AN i = g.AN j → i = j) (r1 : Rep g H1 S1 As1 ρ1 σ) (st : Stp g.TB H S As ρ H1 S1 As1 ρ1) {j : Nat} {s : Sl} (es : ρ1[j]? = some (some s)) (hlk : s.lk = false) {qs : List PS1} {l : List PL.D} {u : Nat} (hp : getP s.d qs = some (.lst l, u)) (hu : u < s.n)
    {d : PL.D} {n : Nat} {v : V} {T : Fp} (o : Own g H1 S1 n d v T) (nd : T.Nodup) (fr : ∀ a ∈ T, H a = none ∧ ¬ S1 a ∧ a ∉ As1.flatten) {v0 r0 : V} (hv : σ[j]? = some (some v0)) (hr : VP g H1 v0 qs r0) :
    ∃ a xs, r0 = .ref a ∧ H1 a = some (.lst xs) ∧ xs.length = l.length ∧ ∀ (nl : List PL.D) (nx : List V), (∀ (R : Rg) (k : Nat) (B T' : Fp), OwnL g H1 R k l xs B → Own g H1 R k d v T' → (B ++ T').Nodup → ∃ B', OwnL g H1 R k nl nx B' ∧ B'.Nodup ∧ ∀ b ∈ B', b ∈ B ++ T') →
      RFS g xg H S As ρ (.nx (ρ1.set j (some ⟨putP (.lst nl) s.d qs, if immB n d = true ∨ s.n ≤ u + 1 + n then s.n else u + 1 + n, false⟩))) W D → D.nx σ (upd H1 a (.lst nx)) := by
  obtain ⟨a, xs, h1, h2, h3, _, h4⟩ := mut_core' (xg := xg) (W := W) (D := D) inj r1 st es hlk hp hu o nd fr hv hr
  exact ⟨a, xs, h1, h2, h3, fun nl nx hop => h4 nl nx fun R k B T' _ => hop R k B T'⟩
end
end PL
namespace PL
open PySem L2 PyProof.Rows
section
variable {g : G} {xg : XG} {Γ : Fe} {X : Cx} {W : WX} {H H1 : Hp} {S S1 : Rg} {As As1 : List Fp} {ρ ρ1 : En} {σ : L2.St} {D : Ends} {a b c : Expr} {xa xb xc : Ex} {pos : Pos}
/-- as evP_rf, the heap's growth told -/
theorem evP_rfE {f : Fz} {F : PL.D → Nat → En → OS} {Q' : VK} (rep : Rep g H S As ρ σ) (h : RFS g xg H S As ρ ((evP Γ xa f ρ).bind F) W D)
    (k : ∀ d n v ρ1 H1 S1 As1 T, evP Γ xa f ρ = .ok d n ρ1 → Ext g.TB H H1 → Rep g H1 S1 As1 ρ1 σ → Stp g.TB H S As ρ H1 S1 As1 ρ1 → Own g H1 S1 n d v T → T.Nodup → (∀ a ∈ T, H a = none ∧ ¬ S1 a ∧ a ∉ As1.flatten) → RFS g xg H S As ρ (F d n ρ1) W D → Q' v H1) : RdE g xg Γ W xa σ H Q' := by
  unfold evP at h k
  cases f with
  | imm =>
    refine ⟨_, _, rep.viewA, ?_⟩
    dsimp only at h k
    cases e : evE Γ xa (viewA ρ) with
    | ok d n =>
      rw [e] at h k
      dsimp only at h k
      intro v H' S' T o
      split at h
      · rename_i hi
        obtain ⟨r1, s1⟩ := rep.pure o.fw
        refine k d n v ρ H' _ As T (by rw [if_pos hi]) o.ext r1 s1 (o.own.imm (Nat.le_refl _) hi) o.nd (fun a q => ⟨(o.fr a q).1, fun z => ?_, fun z => ?_⟩) h
        · rcases z with z | z
          · have := rep.sz a z
            rw [(o.fr a q).1] at this
            cases this
          · exact (o.fr a q).2 z.1
        · have := rep.there z
          rw [(o.fr a q).1] at this
          cases this
      · exact h.elim
    | exn x => rw [e] at h; exact exn_fr h
    | bad => rw [e] at h; exact h.elim
  | fz l =>
    refine ⟨_, _, rep.viewF l, ?_⟩
    dsimp only at h k
    cases e : evE Γ xa (viewF l 0 ρ) with
    | ok d n =>
      rw [e] at h k
      dsimp only at h k
      intro v H' S' T o
      obtain ⟨r1, s1⟩ := rep.given (l := l) o.fw
      refine k d n v _ H' S' _ T rfl o.ext r1 s1 o.own o.nd (fun a q => ⟨(o.fr a q).1, (o.fr a q).2, fun z => ?_⟩) h
      have := rep.there ((frzA_nd rep.nd).2 a z)
      rw [(o.fr a q).1] at this
      cases this
    | exn x => rw [e] at h; exact exn_fr h
    | bad => rw [e] at h; exact h.elim
/-- a path's reading -/
def RdP (g : G) (Γ : Fe) (j : Nat) (ps : List Pa) : TE := fun σ H Q => ∃ S δ qs v0 r, Rep0 g H S δ σ ∧ evPs Γ δ ps = some qs ∧ σ[j]? = some (some v0) ∧ VP g H v0 qs r ∧ ∀ H' S', Fw g.TB H H' S S' → Q r H'
theorem evPs_snoc {δ : Ev} {p : Pa} : ∀ {ps : List Pa} {qs : List PS1}, evPs Γ δ (ps ++ [p]) = some qs → ∃ q1 q2, qs = q1 ++ q2 ∧ evPs Γ δ ps = some q1 ∧ evPs Γ δ [p] = some q2
  | [], qs, h => ⟨[], qs, rfl, rfl, h⟩
  | .ix e :: ps, qs, h => by
    have h' : evPs Γ δ (.ix e :: (ps ++ [p])) = some qs := h
    unfold evPs at h'
    split at h'
    · rename_i k n e1
      cases e2 : evPs Γ δ (ps ++ [p]) with
      | none => rw [e2] at h'; cases h'
      | some q =>
        rw [e2] at h'
        cases h'
        obtain ⟨q1, q2, rfl, h1, h2⟩ := evPs_snoc e2
        exact ⟨.ix k :: q1, q2, rfl, by unfold evPs; rw [e1]; dsimp only; rw [h1]; rfl, h2⟩
    · cases h'
  | .fld f :: ps, qs, h => by
    have h' : evPs Γ δ (.fld f :: (ps ++ [p])) = some qs := h
    unfold evPs at h'
    cases e2 : evPs Γ δ (ps ++ [p]) with
    | none => rw [e2] at h'; cases h'
    | some q =>
      rw [e2] at h'
      cases h'
      obtain ⟨q1, q2, rfl, h1, h2⟩ := evPs_snoc e2
      exact ⟨.fld f :: q1, q2, rfl, by unfold evPs; rw [h1]; rfl, h2⟩
theorem p_var {i : Nat} {x : Str} (hN : X.N[i]? = some x) (hv : Vis X.env.scope x) (hd : (x == ("__debug__" : Str)) = false) (hcd : (x == ("__classdict__" : Str)) = false) : PE X (.Name x pos) (RdP g Γ i []) :=
  (pe_var hN hv hd hcd).imp fun σ H Q ⟨S, δ, qs, v0, r, rep, e, h1, h2, h3⟩ => by
    unfold evPs at e
    cases e
    cases h2
    exact ⟨v0, h1, h3 H S (Fw.refl rep.sz)⟩
theorem p_ix {j : Nat} {ps : List Pa} (hK : g.K = X.K) (hs : noSlice b = true) (ha : PE X a (RdP g Γ j ps)) (hb : PE X b (RdE g xg Γ W xb)) : PE X (.Subscript a b pos) (RdP g Γ j (ps ++ [.ix xb])) := by
  refine PE.pick fun σ H Q ⟨S, δ, qs, v0, r, rep, e, h1, h2, h3⟩ => ?_
  obtain ⟨q1, q2, rfl, e1, e2⟩ := evPs_snoc e
  obtain ⟨r1, v1, v2⟩ := VP.split h2
  unfold evPs at e2
  split at e2
  · rename_i k n e3
    unfold evPs at e2
    cases e2
    have key : ∀ (r' : R2), IxR X r' → (∀ H2 S2, Fw g.TB H H2 S S2 → r' r1 (.int k) H2 Q) → ∃ t, PE X (.Subscript a b pos) t ∧ t σ H Q := fun r' hr hq =>
      ⟨_, pe_ix hr ha hb (plainIx hs), ⟨S, δ, q1, v0, r1, rep, e1, h1, v1, fun H1 S1 f1 => ⟨S1, δ, rep.fw f1, by
        rw [e3]
        intro v H2 S2 T o
        rw [own_int_v o.own]
        exact hq H2 S2 (f1.trans o.fw)⟩⟩⟩
    cases v2 with
    | ixl t ex hh =>
      cases hh
      exact key _ ix_list fun H2 S2 f => ⟨_, _, k, _, rfl, rfl, rdL (f.ext.rd t), ex, h3 H2 S2 f⟩
    | ixt t ex hh =>
      cases hh
      exact key _ ix_tup fun H2 S2 f => ⟨_, _, k, _, rfl, rfl, .inl (f.ext.rd t), ex, h3 H2 S2 f⟩
  · cases e2
theorem lst_own {l : List PL.D} {k : Nat} {r : V} {B : Fp} (h : Own g H S (k + 1) (.lst l) r B) : ∃ a xs B', r = .ref a ∧ H a = some (.lst xs) ∧ B = a :: B' := by
  unfold Own at h
  obtain ⟨a, xs, B', e1, e2, e3, _⟩ := h
  exact ⟨a, xs, B', e1, e2, e3⟩
theorem pathOk_vp (inj : ∀ i j, g.AN i = g.AN j → i = j) (rep : Rep g H S As ρ σ) {j : Nat} {qs : List PS1} (h : pathOk j qs ρ = true) : ∃ v0 a xs, σ[j]? = some (some v0) ∧ VP g H v0 qs (.ref a) ∧ H a = some (.lst xs) := by
  unfold pathOk at h
  split at h
  · rename_i s es
    split at h
    · rename_i l u hp
      have hu := of_decide_eq_true h
      obtain ⟨v, A, h1, h2, o⟩ := rep.at_ j s es
      obtain ⟨r, A1, A0, A2, vp, _, oL, _⟩ := focus inj o hp hu fun r k B q => by
        obtain ⟨_, _, _, _, _, e⟩ := lst_own q
        rw [e]
        exact List.cons_ne_nil _ _
      obtain ⟨k, hk⟩ : ∃ k, s.n - u = k + 1 := ⟨s.n - u - 1, by omega⟩
      rw [hk] at oL
      obtain ⟨a, xs, _, rfl, e, _⟩ := lst_own oL
      exact ⟨v, a, xs, h1, vp, e⟩
    · cases h
  · cases h
/-- path.append(e) -/
theorem app_rf (inj : ∀ i j, g.AN i = g.AN j → i = j) {j : Nat} {ps : List Pa} {qs : List PS1} {f : Fz} {Q : VK} (rep : Rep g H S As ρ σ) (eq : evPs Γ (viewA ρ) ps = some qs) (hok : pathOk j qs ρ = true) (hQ : ∀ v H', D.nx σ H' → Q v H')
    (h : RFS g xg H S As ρ ((evP Γ xa f ρ).bind fun d n ρ1 => mutS j qs d n (fun l => if decide (l.length < szLine) then some (l ++ [d]) else none) ρ1) W D) :
    RdP g Γ j ps σ H fun x H1 => tyV X.K "list" x H1 ∧ RdE g xg Γ W xa σ H1 fun v H2 => rAppend x [v] H2 Q := by
  obtain ⟨v0, p, xs0, hv, vp, hp⟩ := pathOk_vp inj rep hok
  refine ⟨_, _, qs, v0, _, rep.viewA, eq, hv, vp, fun H1 S1 f1 => ⟨.inl ⟨rfl, _, rdL (.inl (f1.ext.st _ _ hp nTb_lst))⟩, ?_⟩⟩
  obtain ⟨r1, s1⟩ := rep.pure f1
  refine evP_rfE r1 (RFS.fw s1 r1 h) fun d n v ρ1 H2 S2 As2 T _ ex r2 s2 o nd fr h2 => ?_
  have vp2 := (vp.ext f1.ext).ext ex
  unfold mutS at h2
  split at h2
  · rename_i s es
    split at h2
    · exact h2.elim
    · rename_i hlk
      split at h2
      · rename_i l u hg
        split at h2
        · rename_i l' hl
          split at h2
          · rename_i hu
            dsimp only at hl
            split at hl
            · rename_i hz
              cases hl
              obtain ⟨q, xs, e1, e2, e3, kk⟩ := mut_core (xg := xg) (W := W) (D := D) inj r2 s2 es (by simpa using hlk) hg hu o nd fr hv vp2
              refine ⟨q, xs, v, e1, rfl, e2, by rw [e3]; exact Nat.lt_of_lt_of_le (of_decide_eq_true hz) sizeLine_le, hQ _ _ (kk _ _ (fun R k B T' ol oV ndd => ⟨B ++ T', OwnL.append ol (OwnL.one oV), ndd, fun b q => q⟩) h2)⟩
            · cases hl
          · exact h2.elim
        · exact h2.elim
      · exact h2.elim
  · exact h2.elim
theorem s_app {o : Expr} {e : Expr} {apos cpos : Pos} {j : Nat} {ps : List Pa} {f : Fz} {nm : Str} (inj : ∀ i j, g.AN i = g.AN j → i = j) (hnm : nm = "append") (h1 : noSuper o = true) (hs : noStar e = true) (hl : (apos.endLine == cpos.line) = true)
    (ho : PE X o (RdP g Γ j ps)) (he : PE X e (RdE g xg Γ W xa)) : PS X (.Expr (.Call (.Attribute o nm apos) [e] [] cpos) pos) (RdS g xg Γ W (.app j ps xa f)) := by
  subst hnm
  refine (ps_expr (pe_bm PySem.F.plainAttrs_list PySem.F.slot_list_append PySem.F.type_list_append mt_append ho (pa_cons he pa_nil (star_cons hs)) (attrBase h1) (plain_form (es := [e]) (by simp [hs]) (by show (1 : Nat) < 30; decide)) hl (star_cons hs) rfl) rfl).imp fun D σ H ⟨ρ, S, As, rep, h⟩ => ?_
  unfold exS at h
  split at h
  · rename_i qs eq
    split at h
    · rename_i hok
      exact app_rf (D := D) inj rep eq hok (fun v H' q => q) h
    · exact h.elim
  · exact h.elim
/-- names, one behind another -/
inductive NmsAt (N : List Str) (env : PySem.Env) : List Expr → List Nat → Prop
  | nil : NmsAt N env [] []
  | cons {x : Str} {p : Pos} {i : Nat} {es : List Expr} {is : List Nat} (h : N[i]? = some x) (v : Vis env.scope x) (h1 : (x == ("__debug__" : Str)) = false) (h2 : (x == ("__classdict__" : Str)) = false) (t : NmsAt N env es is) : NmsAt N env (.Name x p :: es) (i :: is)
def tNms (is : List Nat) : TA := fun σ H Q => ∃ vs : List V, vs.length = is.length ∧ (∀ k i : Nat, is[k]? = some i → ∃ v, vs[k]? = some v ∧ σ[i]? = some (some v)) ∧ Q vs H
theorem pa_nms {es : List Expr} {is : List Nat} (h : NmsAt X.N X.env es is) : PA X es (tNms is) := by
  induction h with
  | nil =>
    refine ⟨fun l pins s σ H Q I ⟨vs, h1, _, q⟩ => ?_⟩
    obtain rfl := List.length_eq_zero_iff.mp h1
    exact pa_nil.run l pins s σ H Q I q
  | cons h v h1 h2 t ih =>
    refine ⟨fun l pins s σ H Q I ⟨vs, hl, hs, q⟩ => (pa_cons (pe_var h v h1 h2) ih rfl).run l pins s σ H Q I ?_⟩
    obtain ⟨w, hw, hσ⟩ := hs 0 _ rfl
    cases vs with
    | nil => cases hw
    | cons w' vs =>
      cases hw
      exact ⟨w, hσ, vs, Nat.succ.inj hl, fun k i hk => hs (k + 1) i hk, q⟩
/-- what slots own together -/
theorem slots_own (rep : Rep g H S As ρ σ) : ∀ {is : List Nat} {ds : List (PL.D × Nat)} {vs : List V}, is.Nodup → slotsN ρ is = some ds → vs.length = is.length → (∀ k i : Nat, is[k]? = some i → ∃ v, vs[k]? = some v ∧ σ[i]? = some (some v)) →
    ∃ A, OwnN g H S ds vs A ∧ A.Nodup ∧ ∀ a ∈ A, ∃ i B, i ∈ is ∧ As[i]? = some B ∧ a ∈ B
  | [], ds, vs, _, h, hl, _ => by
    cases h
    obtain rfl := List.length_eq_zero_iff.mp hl
    exact ⟨[], by unfold OwnN; exact ⟨rfl, rfl⟩, List.nodup_nil, fun a q => nomatch q⟩
  | i :: is, ds, vs, nd, h, hl, hv => by
    unfold slotsN at h
    split at h
    · rename_i s es
      cases e : slotsN ρ is with
      | none => rw [e] at h; cases h
      | some ds' =>
        rw [e] at h
        cases h
        obtain ⟨w, hw, hσ⟩ := hv 0 i rfl
        cases vs with
        | nil => cases hw
        | cons w' vs =>
          cases hw
          obtain ⟨v, B, h1, h2, o⟩ := rep.at_ i s es
          rw [hσ] at h1
          cases h1
          obtain ⟨n1, n2⟩ := List.nodup_cons.mp nd
          obtain ⟨A, ow, na, hA⟩ := slots_own rep n2 e (Nat.succ.inj hl) fun k j hk => hv (k + 1) j hk
          refine ⟨B ++ A, by unfold OwnN; exact ⟨w, vs, B, A, rfl, rfl, o, ow⟩, List.nodup_append.mpr ⟨nd_one rep.nd h2, na, fun x hx y hy e => ?_⟩, fun a q => ?_⟩
          · subst e
            obtain ⟨j, C, hj, h3, h4⟩ := hA x hy
            have := nd_slots rep.nd h2 h3 hx h4
            subst this
            exact n1 hj
          · rcases List.mem_append.mp q with q | q
            · exact ⟨i, B, List.mem_cons_self, h2, q⟩
            · obtain ⟨j, C, hj, h3, h4⟩ := hA a q
              exact ⟨j, C, List.mem_cons_of_mem _ hj, h3, h4⟩
    · cases h
theorem s_rett {es : List Expr} {is : List Nat} {k : Nat} {p2 : Pos} (h : NmsAt X.N X.env es is) : PS X (.Return (some (.Tuple es k p2)) pos) (RdS g xg Γ W (.rett is)) :=
  (ps_ret (pe_tupN (pa_nms h))).imp fun D σ H ⟨ρ, S, As, rep, h⟩ => by
    unfold exS at h
    split at h
    · rename_i hh
      simp only [Bool.and_eq_true, decide_eq_true_eq] at hh
      split at h
      · rename_i ds eds
        have hlen : ∀ {is : List Nat} {ds : List (PL.D × Nat)}, slotsN ρ is = some ds → ds.length = is.length := by
          intro is
          induction is with
          | nil => intro ds h; cases h; rfl
          | cons i is ih =>
            intro ds h
            unfold slotsN at h
            split at h
            · cases e : slotsN ρ is with
              | none => rw [e] at h; cases h
              | some d => rw [e] at h; cases h; rw [List.length_cons, List.length_cons, ih e]
            · cases h
        have hx : ∃ vs : List V, vs.length = is.length ∧ ∀ k i : Nat, is[k]? = some i → ∃ v, vs[k]? = some v ∧ σ[i]? = some (some v) := by
          have key : ∀ {is : List Nat} {ds : List (PL.D × Nat)}, slotsN ρ is = some ds → ∃ vs : List V, vs.length = is.length ∧ ∀ k i : Nat, is[k]? = some i → ∃ v, vs[k]? = some v ∧ σ[i]? = some (some v) := by
            intro is
            induction is with
            | nil => intro ds _; exact ⟨[], rfl, fun k i hk => by simp at hk⟩
            | cons i is ih =>
              intro ds h
              unfold slotsN at h
              split at h
              · rename_i s es
                cases e : slotsN ρ is with
                | none => rw [e] at h; cases h
                | some d =>
                  obtain ⟨vs, h1, h2⟩ := ih e
                  obtain ⟨v, B, h3, _, _⟩ := rep.at_ i s es
                  refine ⟨v :: vs, by rw [List.length_cons, List.length_cons, h1], fun k j hk => ?_⟩
                  cases k with
                  | zero => cases hk; exact ⟨v, rfl, h3⟩
                  | succ k => exact h2 k j hk
              · cases h
          exact key eds
        obtain ⟨vs, hl, hv⟩ := hx
        obtain ⟨A, ow, na, hA⟩ := slots_own rep hh.1 eds hl hv
        obtain ⟨B, C, k1, k2⟩ := OwnN.at_ (m := dep ds) (dep_le ds) ow
        have k3 := k1 (fun a => S a ∨ a ∈ C) (fun a q => .inl q) (fun a q => .inr q)
        have hB : ∀ a ∈ B, a ∈ A := fun a q => (k2.1 a).mpr (.inl q)
        have hC : ∀ a ∈ C, a ∈ A := fun a q => (k2.1 a).mpr (.inr q)
        obtain ⟨n1, n2, n3⟩ := List.nodup_append.mp (k2.2 na)
        have inF : ∀ a ∈ A, a ∈ As.flatten := fun a q => let ⟨i, C, _, h3, h4⟩ := hA a q; mem_flat h3 h4
        refine ⟨vs, hl, hv, by rw [hl]; exact hh.2, fun p ob hp hob => ?_⟩
        have ne : ∀ {a : Addr}, (H a).isSome = true → a ≠ p := fun q e => by rw [e, hp] at q; cases q
        refine h _ _ (fun a => S a ∨ a ∈ C) B (FrX.ofExt (Ext.new hp)) (Ext.new (T := []) hp).dom (fun a q => .inl q) (fun a q => q.elim .inl fun q => .inr (.inl (inF a (hC a q)))) (fun a q => ?_) (own_tup (xs := vs) (sqN_new hob) (k3.keep (Kp.eq (fun a q => upd_ne (ne (ow.there a (hB a q)))) (fun a q => ⟨q, upd_ne (ne ?_)⟩) (TupS.new hp)))) n1 fun a q => ⟨fun z => ?_, .inl (inF a (hB a q))⟩
        · have : (H a).isSome = true := q.elim (rep.sz a) fun q => ow.there a (hC a q)
          rw [upd_ne (ne this)]
          exact this
        · exact q.elim (rep.sz a) fun q => ow.there a (hC a q)
        · rcases z with z | z
          · exact rep.dis a (inF a (hB a q)) z
          · exact n3 a q a z rfl
      · exact h.elim
    · exact h.elim
open PySem.Spec in
theorem ext_tup (l : Addr) (items : Array Value) (n : Nat) (b : Addr) (items2 : Array Value) (n2 : Nat) (od : Option Addr) (sl : Array (Option Value)) (hs0 : ¬(!items.isEmpty && Builtin.List.listTooLong (items.size + items2.size)) = true) (hs1 : items.size ≤ sizeLine) (hs2 : items.size + items2.size ≤ sizeLine + 1) :
    Meets (Builtin.«list.extend» ⟨[.ref l, .ref b], []⟩) (fun _ R s => s.heap.get? l = some { cls := .type "list", dict := none, data := .seq items n, slots := #[] } ∧ s.heap.get? b = some { cls := .type "tuple", dict := od, data := .seq items2 n2, slots := sl } ∧ R (.ok (.ret Value.none)) { s with heap := s.heap.update l (Obj.mapSeq fun x => x ++ items2), toks := s.toks }) :=
  .of_wp fun prog w A R s h => by
    obtain ⟨hp, g, d, tk, os⟩ := s; obtain ⟨hl, hb, h⟩ := h; have f1 := AutoSeq1.idx_int; have f2 := AutoSeq1.sub_tuple_tuple; have f3 := AutoSeq1.sub_list_list; have f4 := AutoSeq1.sub_tuple_list; have f5 := AutoSeq1.sub_list_tuple;
    have hz' : (items ++ items2).size ≤ sizeLine + 1 := by rw [Array.size_append]; exact hs2
    wp_walk using (wpAny_updateSeq hl rfl (hz := hs1) (_hz' := hz')), AutoSeq1.wpAny_loadPart' hl, AutoSeq1.wpAny_loadPart' hb; exact ⟨_, rfl, h⟩
/-- list.extend by a list or a tuple however it stands -/
def rExt (K : PySem.W.Frag) : V → List V → Hp → VK → Prop := fun x vs H Q => ∃ (l b : Addr) (xs zs : List V), x = .ref l ∧ vs = [.ref b] ∧ H l = some (.lst xs) ∧ (Rd H b (.lst zs) ∨ SqT K H b zs) ∧ xs.length + zs.length ≤ sizeLine ∧ Q .non (upd H l (.lst (xs ++ zs)))
theorem mt_ext : MtM X "list.extend" (rExt X.K) := by
  intro pins s σ H x vs v us Q I rx rv ⟨l, b, xs, zs, ex, ev, hl, hb, hz, q⟩
  subst ex
  subst ev
  cases rx
  obtain ⟨u, eu, ru⟩ := rv.one
  subst eu
  cases ru
  obtain ⟨_, ts, n, r1, len1, e1⟩ := I.lstM hl
  rcases hb with hb | hb
  · obtain ⟨_, ts2, n2, r2, e2⟩ := hb.ok I.hok
    have len2 := r2.length
    have small : ts.toArray.size + ts2.toArray.size ≤ sizeLine := by simp only [List.size_toArray]; omega
    have nl : ¬ (!ts.toArray.isEmpty && Builtin.List.listTooLong (ts.toArray.size + ts2.toArray.size)) = true := by rw [notLongL small, Bool.and_false]; decide
    have sz1 : ts.toArray.size ≤ sizeLine := Nat.le_trans (Nat.le_add_right _ _) small
    refine call_meets PySem.F.slot_list_extend ⟨_, e1, rfl⟩ PySem.F.entry_list_extend (PySem.F.args_list_extend_2 _ _) (AutoSeq1.list_extend_list_list_0 l ts.toArray n b ts2.toArray n2 nl sz1 (Nat.le_succ_of_le small)) ⟨e1, e2, .non, _, I.lset (its' := ts ++ ts2) hl e1 (by simp) (r1.append r2) (by rw [List.length_append]; omega), rfl, q⟩
  · obtain ⟨ts2, r2, ⟨⟨cl2, od2, dt2, sl2⟩, e2, hc2, n2, hd2⟩, _⟩ := I.tuple hb
    dsimp only at hc2 hd2
    subst hc2
    subst hd2
    have len2 := r2.length
    have small : ts.toArray.size + ts2.toArray.size ≤ sizeLine := by simp only [List.size_toArray]; omega
    have nl : ¬ (!ts.toArray.isEmpty && Builtin.List.listTooLong (ts.toArray.size + ts2.toArray.size)) = true := by rw [notLongL small, Bool.and_false]; decide
    have sz1 : ts.toArray.size ≤ sizeLine := Nat.le_trans (Nat.le_add_right _ _) small
    refine call_meets PySem.F.slot_list_extend ⟨_, e1, rfl⟩ PySem.F.entry_list_extend (PySem.F.args_list_extend_2 _ _) (ext_tup l ts.toArray n b ts2.toArray n2 od2 sl2 nl sz1 (Nat.le_succ_of_le small)) ⟨e1, e2, .non, _, I.lset (its' := ts ++ ts2) hl e1 (by simp) (r1.append r2) (by rw [List.length_append]; omega), rfl, q⟩
theorem flat_imm : ∀ {l : List PL.D}, l.all flatD = true → immBL 0 l = true
  | [], _ => by unfold immBL; rfl
  | d :: l, h => by
    simp only [List.all_cons, Bool.and_eq_true] at h
    unfold immBL
    rw [flat_imm h.2, Bool.and_true]
    have := h.1
    cases d <;> first | (unfold immB; rfl) | cases this
/-- the list at a path's end becomes another one, no owned value goes in -/
theorem mut_flat (inj : ∀ i j, g.AN i = g.AN j → i = j) {j : Nat} {qs : List PS1} {F : List PL.D → Option (List PL.D)} (r1 : Rep g H1 S1 As1 ρ1 σ) (st : Stp g.TB H S As ρ H1 S1 As1 ρ1) (h : RFS g xg H S As ρ (mutS j qs .non 0 F ρ1) W D) {v0 : V} (hv : σ[j]? = some (some v0)) {r : V} (hr : VP g H1 v0 qs r) :
    ∃ l l' a xs, F l = some l' ∧ r = .ref a ∧ H1 a = some (.lst xs) ∧ xs.length = l.length ∧
      ∀ nx, (∀ (R : Rg) k B, OwnL g H1 R k l xs B → ∃ Bn, OwnL g H1 R k l' nx Bn ∧ (B.Nodup → Bn.Nodup) ∧ ∀ b ∈ Bn, b ∈ B) → D.nx σ (upd H1 a (.lst nx)) := by
  unfold mutS at h
  split at h
  · rename_i s es
    split at h
    · exact h.elim
    · rename_i hlk
      split at h
      · rename_i l u hg
        split at h
        · rename_i l' hl
          split at h
          · rename_i hu
            obtain ⟨q, xs, e1, e2, e3, kk⟩ := mut_core (xg := xg) (W := W) (D := D) (v := .non) inj r1 st es (by simpa using hlk) hg hu own_non List.nodup_nil (fun a q => nomatch q) hv hr
            refine ⟨l, l', q, xs, hl, e1, e2, e3, fun nx hn => kk _ nx (fun R k B T' ol oV ndd => ?_) h⟩
            obtain ⟨Bn, k1, k2, k3⟩ := hn R k B ol
            exact ⟨Bn, k1, k2 (List.nodup_append.mp ndd).1, fun b q => List.mem_append_left _ (k3 b q)⟩
          · exact h.elim
        · exact h.elim
      · exact h.elim
  · exact h.elim
theorem s_ext {o : Expr} {e : Expr} {apos cpos : Pos} {j : Nat} {ps : List Pa} {nm : Str} (hK : g.K = X.K) (inj : ∀ i j, g.AN i = g.AN j → i = j) (hnm : nm = "extend") (h1 : noSuper o = true) (hs : noStar e = true) (hl : (apos.endLine == cpos.line) = true)
    (ho : PE X o (RdP g Γ j ps)) (he : PE X e (RdE g xg Γ W xa)) : PS X (.Expr (.Call (.Attribute o nm apos) [e] [] cpos) pos) (RdS g xg Γ W (.ext j ps xa)) := by
  subst hnm
  refine (ps_expr (pe_bm PySem.F.plainAttrs_list PySem.F.slot_list_extend PySem.F.type_list_extend mt_ext ho (pa_cons he pa_nil (star_cons hs)) (attrBase h1) (plain_form (es := [e]) (by simp [hs]) (by show (1 : Nat) < 30; decide)) hl (star_cons hs) rfl) rfl).imp fun D σ H ⟨ρ, S, As, rep, h⟩ => ?_
  unfold exS at h
  split at h
  · rename_i qs eq
    split at h
    · rename_i hok
      obtain ⟨v0, p, xs0, hv, vp, hp⟩ := pathOk_vp inj rep hok
      refine ⟨_, _, qs, v0, _, rep.viewA, eq, hv, vp, fun H1 S1 f1 => ⟨.inl ⟨rfl, _, rdL (.inl (f1.ext.st _ _ hp nTb_lst))⟩, ?_⟩⟩
      obtain ⟨r1, s1⟩ := rep.pure f1
      have h' := RFS.fw s1 r1 h
      refine ⟨_, _, r1.viewA, ?_⟩
      cases ee : evE Γ xa (viewA ρ) with
      | ok d n =>
        rw [ee] at h'
        cases d with
        | lst l2 =>
          dsimp only at h'
          split at h'
          · rename_i hf
            replace hf : immBL 0 l2 = true := by
              rcases Bool.or_eq_true_iff.mp hf with hf | hf
              · exact flat_imm hf
              · exact hf
            intro w H2 S2 T o
            obtain ⟨r2, s2⟩ := r1.pure o.fw
            obtain ⟨l, l', a, xs, e1, e2, e3, e4, kk⟩ := mut_flat inj r2 s2 h' hv ((vp.ext f1.ext).ext o.ext)
            split at e1
            · rename_i hz
              cases e1
              obtain ⟨S3, f3, o3⟩ := o.frz r1.viewA.sz
              obtain ⟨b, zs, rfl, _, t, ol⟩ := own_lst_v o3
              have len := ol.length
              refine ⟨a, b, xs, zs, e2, rfl, e3, .inl t, Nat.le_trans (by rw [e4, len]; exact of_decide_eq_true hz) sizeLine_le, kk _ fun R k B oB => ⟨B ++ [], OwnL.append oB (imm_anyL hf ol _ _), fun nd => by simpa using nd, fun b q => by simpa using q⟩⟩
            · cases e1
          · exact h'.elim
        | tup l2 =>
          dsimp only at h'
          split at h'
          · rename_i hf
            intro w H2 S2 T o
            obtain ⟨r2, s2⟩ := r1.pure o.fw
            obtain ⟨l, l', a, xs, e1, e2, e3, e4, kk⟩ := mut_flat inj r2 s2 h' hv ((vp.ext f1.ext).ext o.ext)
            split at e1
            · rename_i hz
              cases e1
              obtain ⟨b, zs, rfl, t, ol⟩ := own_tup_v o.own
              have len := ol.length
              rw [hK] at t
              refine ⟨a, b, xs, zs, e2, rfl, e3, .inr t, Nat.le_trans (by rw [e4, len]; exact of_decide_eq_true hz) sizeLine_le, kk _ fun R k B oB => ⟨B ++ [], OwnL.append oB (imm_anyL hf ol _ _), fun nd => by simpa using nd, fun b q => by simpa using q⟩⟩
            · cases e1
          · exact h'.elim
        | _ => exact h'.elim
      | exn x => rw [ee] at h'; exact exn_fr h'
      | bad => rw [ee] at h'; exact h'.elim
    · exact h.elim
  · exact h.elim
theorem s_aug {i : Nat} {x : Str} {e : Expr} {p2 : Pos} (hN : X.N.Nodup) (hi : X.N[i]? = some x) (hx : Loc X.env.scope x) (he : PE X e (RdE g xg Γ W xa)) (hf : X.fn x = true ∨ X.env.scope.names.lookup x = some .local) (hz : Fre g i) : PS X (.AugAssign (.Name x p2) .Add e pos) (RdS g xg Γ W (.aug i xa)) := by
  refine (ps_aug hN hi hx he ip_add hf).imp fun D σ H ⟨ρ, S, As, rep, h⟩ => ?_
  unfold exS at h
  split at h
  · rename_i s es
    obtain ⟨v, A, h1, h2, o1⟩ := rep.at_ i s es
    split at h
    · rename_i k ek
      rw [ek] at o1
      rw [own_int_v o1] at h1
      refine ⟨_, h1, _, _, rep.viewA, ?_⟩
      cases ee : evE Γ xa (viewA ρ) with
      | ok d n =>
        rw [ee] at h
        cases d with
        | int m =>
          dsimp only at h
          intro w H2 S2 T o
          obtain ⟨r1, s1⟩ := rep.pure o.fw
          rw [own_int_v o.own]
          exact ⟨k, m, rfl, rfl, putS_rf (T := []) r1 s1 own_int List.nodup_nil (fun a q => nomatch q) hz h⟩
        | _ => exact h.elim
      | exn x => rw [ee] at h; exact exn_fr h
      | bad => rw [ee] at h; exact h.elim
    · exact h.elim
  · exact h.elim
theorem kp_refl {F : Fp} : Kp H H S S F := Kp.eq (fun _ _ => rfl) (fun _ q => ⟨q, rfl⟩) .refl
theorem s_setp {o i : Expr} {e : Expr} {tpos : Pos} {j : Nat} {ps : List Pa} {f : Fz} (inj : ∀ i j, g.AN i = g.AN j → i = j) (hc : noComp e = true) (hni : noSlice i = true)
    (ho : PE X o (RdP g Γ j ps)) (hi : PE X i (RdE g xg Γ W xb)) (he : PE X e (RdE g xg Γ W xa)) : PS X (.Assign [.Subscript o i tpos] e pos) (RdS g xg Γ W (.setp j ps xb xa f)) := by
  refine (ps_asg he (pg_sub ho hi set_list fun _ => by cases i <;> first | rfl | exact absurd hni Bool.false_ne_true) (show swapsWith e (some (.Subscript o i tpos)) pos.line X.env = pure false from noSwap hc) (by cases e <;> rfl) rfl).imp fun D σ H ⟨ρ, S, As, rep, h⟩ => ?_
  unfold exS at h
  refine evP_rfE rep h fun d n v ρ1 H1 S1 As1 T _ _ r1 s1 o nd fr h1 => ?_
  cases eq : evPs Γ (viewA ρ1) (ps ++ [.ix xb]) with
  | none => rw [eq] at h1; exact h1.elim
  | some qs =>
    rw [eq] at h1
    obtain ⟨q1, q2, rfl, e1, e2⟩ := evPs_snoc eq
    unfold evPs at e2
    split at e2
    · rename_i k m e3
      unfold evPs at e2
      cases e2
      dsimp only [Option.map_some] at h1
      rw [List.getLast?_append] at h1
      simp only [List.getLast?_singleton, Option.some_or, List.dropLast_concat] at h1
      unfold mutS at h1
      split at h1
      · rename_i s es
        split at h1
        · exact h1.elim
        · rename_i hlk
          split at h1
          · rename_i l u hg
            split at h1
            · rename_i l' hl
              split at h1
              · rename_i hu
                have hok : pathOk j q1 ρ1 = true := by
                  unfold pathOk
                  rw [es]
                  dsimp only
                  rw [hg]
                  exact decide_eq_true hu
                obtain ⟨v0, p, xs0, hv, vp, hp⟩ := pathOk_vp inj r1 hok
                refine ⟨_, _, q1, v0, _, r1.viewA, e1, hv, vp, fun H2 S2 f2 => ⟨S2, viewA ρ1, r1.viewA.fw f2, ?_⟩⟩
                rw [e3]
                intro w H3 S3 T3 o3
                rw [own_int_v o3.own]
                have f3 := f2.trans o3.fw
                obtain ⟨r3, s3⟩ := r1.pure f3
                have o' : Own g H3 (fun a => S1 a ∨ S3 a ∧ H1 a = none) n d v T := o.keep (f3.ext.kp fun b q => .inl q)
                have hm : ∃ m, ixN l.length k = some m ∧ l' = l.set m d := by
                  dsimp only at hl
                  split at hl
                  · rename_i m hm
                    cases hl
                    exact ⟨m, hm, rfl⟩
                  · cases hl
                obtain ⟨m, hm, rfl⟩ := hm
                obtain ⟨a, xs, ea, ha, hlen, kk⟩ := mut_core (xg := xg) (W := W) (D := D) inj r3 (s1.trans r1 s3) es (by simpa using hlk) hg hu o' nd (fun b q => ⟨(fr b q).1, (fun z => by
                  rcases z with z | z
                  · exact (fr b q).2.1 z
                  · have := o.there b q
                    rw [z.2] at this
                    cases this), (fr b q).2.2⟩) hv (vp.ext f3.ext)
                refine ⟨a, xs, k, m, ea, rfl, ha, by rw [hlen]; exact hm, kk (l.set m d) (xs.set m v) (fun R k' B T' ol oV ndd => ?_) h1⟩
                have hml : m < l.length := (ixN_seq hm).2.1
                obtain ⟨x, B1, B0, B2, f4, rfl, f5, f6⟩ := ol.split (List.getElem?_eq_getElem hml)
                refine ⟨B1 ++ T' ++ B2, f6 _ _ d v T' kp_refl oV, ?_, fun b q => ?_⟩
                · obtain ⟨n1, n2, n3⟩ := List.nodup_append.mp ndd
                  refine nd_swap n1 n2 fun b hb => .inr ⟨fun z => ?_, fun z => ?_⟩
                  · exact n3 b (by simp [z]) b hb rfl
                  · exact n3 b (by simp [z]) b hb rfl
                · have : b ∈ B1 ∨ b ∈ T' ∨ b ∈ B2 := by simpa [or_assoc] using q
                  rcases this with z | z | z <;> simp [z]
              · exact h1.elim
            · exact h1.elim
          · exact h1.elim
      · exact h1.elim
    · cases e2
end
end PL
namespace PL
open PySem L2 PyProof.Rows
section
variable {g : G} {xg : XG} {Γ : Fe} {X : Cx} {W : WX} {H H1 : Hp} {S S1 : Rg} {As As1 : List Fp} {ρ ρ1 : En} {σ : L2.St} {D : Ends} {a b c : Expr} {xa xb xc : Ex} {pos : Pos}
end
end PL

namespace PL
open PySem L2 PyProof.Rows
section
variable {g : G} {xg : XG} {Γ : Fe} {X : Cx} {W : WX} {H H1 : Hp} {S S1 : Rg} {As As1 : List Fp} {ρ ρ1 : En} {σ : L2.St} {D : Ends} {a b c : Expr} {xa xb xc : Ex} {pos : Pos}
end
end PL

namespace PL
open PySem L2 PyProof.Rows
section
variable {g : G} {xg : XG} {Γ : Fe} {X : Cx} {W : WX} {H H1 : Hp} {S S1 : Rg} {As As1 : List Fp} {ρ ρ1 : En} {σ : L2.St} {D : Ends} {a b c : Expr} {xa xb xc : Ex} {pos : Pos}
end

theorem key_nex : ∀ {d : PL.D} {k : Key}, d.key = some k → nEx d = true
  | .int _, _, _ => by unfold nEx; rfl
  | .str _, _, _ => by unfold nEx; rfl
  | .non, _, h => nomatch h
  | .bl _, _, h => nomatch h
  | .tup _, _, h => nomatch h
  | .lst _, _, h => nomatch h
  | .dct _ _, _, h => nomatch h
  | .obj _ _ _, _, h => nomatch h
  | .exc _ _, _, h => nomatch h
theorem keys_nex : ∀ {l : List PL.D} {k : List Key}, l.mapM D.key = some k → nExL l = true
  | [], _, _ => by unfold nExL; rfl
  | d :: l, _, h => by
    obtain ⟨y, zs, rfl, h1, h2⟩ := mapM_cons_some h
    unfold nExL
    rw [key_nex h1, keys_nex h2]; rfl
theorem keyTs_nex : ∀ {l : List PL.D} {k : List (List Key)}, l.mapM D.keyT = some k → nExL l = true
  | [], _, _ => by unfold nExL; rfl
  | d :: l, _, h => by
    obtain ⟨y, zs, rfl, h1, h2⟩ := mapM_cons_some h
    obtain ⟨q, rfl, h3⟩ := keyT_tup h1
    unfold nExL nEx
    rw [keys_nex h3, keyTs_nex h2]; rfl
def G.exA (g : G) (x : Option (Addr × Nat × Option Addr)) (y : Option (Hp × Rg) × Option (Addr × Str) := (g.clo, g.cod)) : G := { g with exa := x, clo := y.1, cod := y.2 }
mutual
theorem Own.exa_ {g : G} {x : Option (Addr × Nat × Option Addr)} {y : Option (Hp × Rg) × Option (Addr × Str)} (hg : g.exa = none) {H : Hp} {S : Rg} : ∀ {n : Nat} {d : PL.D} {v : V} {A : Fp}, Own g H S n d v A → Own (g.exA x y) H S n d v A
  | _, .non, _, _, h => by unfold Own at h ⊢; exact h
  | _, .bl _, _, _, h => by unfold Own at h ⊢; exact h
  | _, .int _, _, _, h => by unfold Own at h ⊢; exact h
  | _, .str _, _, _, h => by unfold Own at h ⊢; exact h
  | _, .tup l, _, _, h => by unfold Own at h ⊢; obtain ⟨a, xs, e, t, tr, hl⟩ := h; exact ⟨a, xs, e, t, tr, OwnL.exa_ hg hl⟩
  | 0, .lst l, _, _, h => by unfold Own at h ⊢; obtain ⟨a, xs, e, z, t, hl⟩ := h; exact ⟨a, xs, e, z, t, OwnL.exa_ hg hl⟩
  | n + 1, .lst l, _, _, h => by unfold Own at h ⊢; obtain ⟨a, xs, B, e, t, e2, hl⟩ := h; exact ⟨a, xs, B, e, t, e2, OwnL.exa_ hg hl⟩
  | 0, .dct ks vs, _, _, h => by
    unfold Own at h ⊢; obtain ⟨a, xs, e, z, t, e2, hl⟩ := h
    refine ⟨a, xs, e, z, ?_, e2, OwnL.exa_ hg hl⟩
    rcases t with t | ⟨kk, as, e0, e1, e2, ok, t⟩
    · exact .inl t
    · exact .inr ⟨kk, as, e0, e1, e2, OwnL.exa_ hg ok, t⟩
  | n + 1, .dct ks vs, _, _, h => by
    unfold Own at h ⊢; obtain ⟨a, xs, B, e, t, e2, e3, hl⟩ := h
    refine ⟨a, xs, B, e, ?_, e2, e3, OwnL.exa_ hg hl⟩
    rcases t with t | ⟨kk, as, e0, e1, e2, ok, t⟩
    · exact .inl t
    · exact .inr ⟨kk, as, e0, e1, e2, OwnL.exa_ hg ok, t⟩
  | 0, .obj c ks vs, _, _, h => by unfold Own at h ⊢; obtain ⟨a, dx, xs, e, z, t, e2, hl⟩ := h; exact ⟨a, dx, xs, e, z, t, e2, OwnL.exa_ hg hl⟩
  | n + 1, .obj c ks vs, _, _, h => by unfold Own at h ⊢; obtain ⟨a, dx, xs, B, e, t, e2, e3, hl⟩ := h; exact ⟨a, dx, xs, B, e, t, e2, e3, OwnL.exa_ hg hl⟩
  | _, .exc c vs, _, _, h => by unfold Own at h; obtain ⟨a, dd, xs, _, e, _⟩ := h; rw [hg] at e; cases e
theorem OwnL.exa_ {g : G} {x : Option (Addr × Nat × Option Addr)} {y : Option (Hp × Rg) × Option (Addr × Str)} (hg : g.exa = none) {H : Hp} {S : Rg} : ∀ {n : Nat} {ds : List PL.D} {xs : List V} {A : Fp}, OwnL g H S n ds xs A → OwnL (g.exA x y) H S n ds xs A
  | _, [], _, _, h => by unfold OwnL at h ⊢; exact h
  | _, d :: ds, _, _, h => by unfold OwnL at h ⊢; obtain ⟨x, ys, B, C, e, e2, h1, h2⟩ := h; exact ⟨x, ys, B, C, e, e2, Own.exa_ hg h1, OwnL.exa_ hg h2⟩
end
mutual
theorem Own.noex {g : G} {x : Option (Addr × Nat × Option Addr)} {y : Option (Hp × Rg) × Option (Addr × Str)} {H : Hp} {S : Rg} : ∀ {n : Nat} {d : PL.D} {v : V} {A : Fp}, nEx d = true → Own (g.exA x y) H S n d v A → Own g H S n d v A
  | _, .non, _, _, _, h => by unfold Own at h ⊢; exact h
  | _, .bl _, _, _, _, h => by unfold Own at h ⊢; exact h
  | _, .int _, _, _, _, h => by unfold Own at h ⊢; exact h
  | _, .str _, _, _, _, h => by unfold Own at h ⊢; exact h
  | _, .tup l, _, _, q, h => by unfold nEx at q; unfold Own at h ⊢; obtain ⟨a, xs, e, t, tr, hl⟩ := h; exact ⟨a, xs, e, t, tr, OwnL.noex q hl⟩
  | 0, .lst l, _, _, q, h => by unfold nEx at q; unfold Own at h ⊢; obtain ⟨a, xs, e, z, t, hl⟩ := h; exact ⟨a, xs, e, z, t, OwnL.noex q hl⟩
  | n + 1, .lst l, _, _, q, h => by unfold nEx at q; unfold Own at h ⊢; obtain ⟨a, xs, B, e, t, e2, hl⟩ := h; exact ⟨a, xs, B, e, t, e2, OwnL.noex q hl⟩
  | 0, .dct ks vs, _, _, q, h => by
    unfold nEx at q; unfold Own at h ⊢; obtain ⟨a, xs, e, z, t, e2, hl⟩ := h
    refine ⟨a, xs, e, z, ?_, e2, OwnL.noex q hl⟩
    rcases t with t | ⟨kk, as, e0, e1, e2, ok, t⟩
    · exact .inl t
    · exact .inr ⟨kk, as, e0, e1, e2, OwnL.noex (keyTs_nex e1) ok, t⟩
  | n + 1, .dct ks vs, _, _, q, h => by
    unfold nEx at q; unfold Own at h ⊢; obtain ⟨a, xs, B, e, t, e2, e3, hl⟩ := h
    refine ⟨a, xs, B, e, ?_, e2, e3, OwnL.noex q hl⟩
    rcases t with t | ⟨kk, as, e0, e1, e2, ok, t⟩
    · exact .inl t
    · exact .inr ⟨kk, as, e0, e1, e2, OwnL.noex (keyTs_nex e1) ok, t⟩
  | 0, .obj c ks vs, _, _, q, h => by unfold nEx at q; unfold Own at h ⊢; obtain ⟨a, dx, xs, e, z, t, e2, hl⟩ := h; exact ⟨a, dx, xs, e, z, t, e2, OwnL.noex q hl⟩
  | n + 1, .obj c ks vs, _, _, q, h => by unfold nEx at q; unfold Own at h ⊢; obtain ⟨a, dx, xs, B, e, t, e2, e3, hl⟩ := h; exact ⟨a, dx, xs, B, e, t, e2, e3, OwnL.noex q hl⟩
  | _, .exc c vs, _, _, q, h => by unfold nEx at q; cases q
theorem OwnL.noex {g : G} {x : Option (Addr × Nat × Option Addr)} {y : Option (Hp × Rg) × Option (Addr × Str)} {H : Hp} {S : Rg} : ∀ {n : Nat} {ds : List PL.D} {xs : List V} {A : Fp}, nExL ds = true → OwnL (g.exA x y) H S n ds xs A → OwnL g H S n ds xs A
  | _, [], _, _, _, h => by unfold OwnL at h ⊢; exact h
  | _, d :: ds, _, _, q, h => by unfold nExL at q; simp only [Bool.and_eq_true] at q; unfold OwnL at h ⊢; obtain ⟨x, ys, B, C, e, e2, h1, h2⟩ := h; exact ⟨x, ys, B, C, e, e2, Own.noex q.1 h1, OwnL.noex q.2 h2⟩
end
section
variable {g : G} {xg : XG} {Γ : Fe} {X : Cx} {W W' : WX} {H H1 : Hp} {S S1 : Rg} {As As1 : List Fp} {ρ ρ1 : En} {σ : L2.St} {D : Ends} {a b c : Expr} {xa xb xc : Ex} {pos : Pos} {x : Option (Addr × Nat × Option Addr)}
theorem Rep.exa_ (hg : g.exa = none) (r : Rep g H S As ρ σ) : Rep (g.exA x) H S As ρ σ :=
  ⟨r.tab, r.sz, r.len, r.lenA, fun i s h => let ⟨v, A, h1, h2, h3⟩ := r.at_ i s h; ⟨v, A, h1, h2, h3.exa_ hg⟩, r.no, r.nd, r.dis, r.slf⟩
theorem Rep.noex (hn : ρ.all nExO = true) (r : Rep (g.exA x) H S As ρ σ) : Rep g H S As ρ σ :=
  ⟨r.tab, r.sz, r.len, r.lenA, fun i s h => let ⟨v, A, h1, h2, h3⟩ := r.at_ i s h; ⟨v, A, h1, h2, h3.noex (List.all_eq_true.mp hn _ (List.mem_of_getElem? h))⟩, r.no, r.nd, r.dis, r.slf⟩
/-- a node more is given to the region -/
theorem Rep.grow {P : Addr → Prop} (r : Rep g H S As ρ σ) (hs : ∀ q, P q → (H q).isSome = true) (hn : ∀ q, P q → q ∉ As.flatten) : Rep g H (fun a => S a ∨ P a) As ρ σ :=
  ⟨r.tab, fun a q => q.elim (r.sz a) (hs a), r.len, r.lenA, fun i s h => let ⟨v, A, h1, h2, h3⟩ := r.at_ i s h; ⟨v, A, h1, h2, h3.keep (Kp.eq (fun _ _ => rfl) (fun a q => ⟨.inl q, rfl⟩) .refl)⟩, r.no, r.nd, fun a q z => z.elim (r.dis a q) fun z => hn a z q, r.slf⟩
theorem flat_set_sub : ∀ {As : List Fp} {p : Nat} {a : Addr}, a ∈ (As.set p []).flatten → a ∈ As.flatten := fun {As p a} h => by
  obtain ⟨i, A, h1, h2⟩ := of_flat h
  rcases set_at h1 with ⟨rfl, e⟩ | ⟨_, e⟩
  · subst e; cases h2
  · exact mem_flat e h2
theorem Stp.drop {p : Nat} (hl : lockedAt p ρ = false) : Stp g.TB H S As ρ H S (As.set p []) (ρ.set p none) :=
  ⟨FrX.refl, fun _ h => h, fun _ h => h, fun _ h => .inl h, fun a h => .inl (flat_set_sub h), fun i a h => .inl (by
    have hne : p ≠ i := fun e => by subst e; exact not_locked hl h
    obtain ⟨s, A, h1, h2, h3, h4⟩ := h
    exact ⟨s, A, by rw [List.getElem?_set_ne hne]; exact h1, h2, by rw [List.getElem?_set_ne hne]; exact h3, h4⟩)⟩
theorem RFS.exa_ {p : Nat} {o : OS} (h : RFS g xg H S As ρ (outS p o) W D) : RFS (g.exA x) xg H S As ρ (outS p o) W' D := by
  cases o with
  | nx ρ' =>
    unfold outS at h ⊢
    dsimp only at h ⊢
    split at h
    · rename_i z
      rw [if_pos z]
      simp only [Bool.and_eq_true] at z
      exact fun σ' H' S' As' r s => h σ' H' S' As' (r.noex z.1) s
    · exact h.elim
  | rt d n =>
    unfold outS at h ⊢
    dsimp only at h ⊢
    split at h
    · rename_i z
      rw [if_pos z]
      exact fun v H' S' T k1 k2 k3 k4 k5 k6 k7 k8 => h v H' S' T k1 k2 k3 k4 k5 (k6.noex z) k7 k8
    · exact h.elim
  | bk _ => exact h.elim
  | ct _ => exact h.elim
  | exn _ => exact h.elim
  | bad => exact h.elim
theorem _root_.L2.PSs.pick {X : Cx} {e : List Stmt} {t' : TS} (k : ∀ D σ H, t' D σ H → ∃ t, PSs X e t ∧ t D σ H) : PSs X e t' := ⟨fun pins s σ H D I q => let ⟨_, h, z⟩ := k D σ H q; h.run pins s σ H D I z⟩
/-- a class that is raised with a text -/
structure RzK (K : PySem.W.Frag) (C : Addr) : Prop where
  is : PySem.W.excIn K C [.type "ValueError", .type "Exception", .type "BaseException", .type "object"] "ValueError.__new__" = true
  kp : PySem.W.keepIn K (.ref C) = true
  sb : PySem.W.subIn K (.ref C) (.type "BaseException") = some true
  ty : PySem.W.typeIn K (.ref C) = some (.type "type")
end
/-- its text -/
def iniB (x m : Str) (j : Nat) (p1 p2 p3 p4 p5 p6 q1 q2 q3 q4 : Pos) : List Stmt := [.Expr (.Call (.Attribute (.Name x p1) "__init__" p2) [.Name "self" p3, .Constant (.str m) j p4] [] p5) p6, .Assign [.Attribute (.Name "self" q1) "at" q2] (.Name "at" q3) q4]
structure IniT (K : PySem.W.Frag) (mg : Str → Option Value) (C D fI : Addr) (x qual : Str) (st : Stmt) (fd : FuncData) : Prop where
  gD : mg x = some (.ref D)
  db : (x == ("__debug__" : Str)) = false
  ns : ∀ p, noSuper (.Name x p) = true
  sp : PySem.W.specialIn K (.ref D) "__getattribute__" = some (some (.builtin "type.__getattribute__"))
  rd : PySem.W.readsIn K D (.type "type") = true
  fc : PySem.W.findCls K (.ref D) (.type "type") "__init__" = some (.val (.builtin "ValueError.__init__"))
  iC : PySem.W.findIn K (.ref C) "__init__" = some (some (.ref fI))
  tI : PySem.W.typeIn K (.ref fI) = some (.type "function")
  F : Fun K "__init__" qual st fI fd
  S : FnScope ["self", "at"] ["self", "at"] (defScope st)
  gl : (defScope st).names.lookup x = some .globalImplicit
  bd : ∃ (m : Str) (j : Nat) (p1 p2 p3 p4 p5 p6 q1 q2 q3 q4 : Pos), defBody st = iniB x m j p1 p2 p3 p4 p5 p6 q1 q2 q3 q4 ∧ (p2.endLine == p5.line) = true
  B : Binds K fd ["self", "at"] []
  v0 : Vis (defScope st) "self"
  v1 : Vis (defScope st) "at"
/-- a class that is raised with a number -/
structure RaK (K : PySem.W.Frag) (mg : Str → Option Value) (C : Addr) : Prop where
  ox : OexC K C
  no : PySem.W.findIn K (.ref C) "at" = some none
  ini : ∃ (D fI : Addr) (x qual : Str) (st : Stmt) (fd : FuncData), IniT K mg C D fI x qual st fd
section
variable {g : G} {xg : XG} {Γ : Fe} {X : Cx} {W : WX}
end
end PL
namespace PL
open PySem L2 PyProof.Rows
section
variable {g : G} {xg : XG} {Γ : Fe} {X : Cx} {W : WX} {H H1 : Hp} {S S1 : Rg} {As As1 : List Fp} {ρ ρ1 : En} {σ : L2.St} {D : Ends} {a b c : Expr} {xa xb xc : Ex} {pos : Pos}
end
end PL
namespace PL
open PySem PySem.Spec PyProof.Rows L2
/-- b' bears what b bears -/
def ExB (b b' : Heap) : Prop := ∀ a o, b.get? a = some o → b'.get? a = some o
theorem ExB.refl (b : Heap) : ExB b b := fun _ _ h => h
theorem ExB.trans {b b1 b2 : Heap} (h : ExB b b1) (k : ExB b1 b2) : ExB b b2 := fun a o e => k a o (h a o e)
/-- the promise of a function that was made where the heap was H0, the region S0; c: its code object -/
def kSp (g : G) (xg : XG) (c : Addr × Str) (H0 : Hp) (S0 : Rg) (F : List PL.D → Res) : Sp := fun vs H Q E =>
  ∃ S ds, LamX.Tabs g.TB H ∧ H c.1 = some (LamX.CodeO c.1 c.2) ∧ (∀ a, S a → (H a).isSome = true) ∧ Kp H0 H S0 S [] ∧ ds.length = 1 ∧ OwnL g H S 0 ds vs [] ∧ RF g xg H S (F ds) E Q
structure KOk (g : G) (xg : XG) (P : Program) (w : World) (K : PySem.W.Frag) (mg : Str → Option Value) (base : Heap) (k : Nat) (fk : Addr) (c : Addr × Str) (H0 : Hp) (S0 : Rg) (F : List PL.D → Res) : Prop where
  ex : ∃ fd ps, List.length ps = 1 ∧ FnOk P w K mg base (L2N.CX P w) k fk fd ps (kSp g xg c H0 S0 F) ∧ (∃ oc od sl, base.get? fk = some ⟨oc, od, .func fd, sl⟩) ∧ ∀ s u, BindsTo s fd ⟨[u], []⟩ (ps.zip [u])
/-- the promise of a def that is handed a function -/
def hSp (g : G) (xg : XG) (P : Program) (w : World) (K : PySem.W.Frag) (mg : Str → Option Value) (kk : Nat) (base : Heap) (F : PL.D → (List PL.D → Res) → Res) : Sp := fun vs H Q E =>
  ∃ (S : Rg) (d : PL.D) (v : V) (fk : Addr) (c : Addr × Str) (Kf : List PL.D → Res) (H0 : Hp) (S0 : Rg), vs = [v, .ref fk] ∧ LamX.Tabs g.TB H ∧ H c.1 = some (LamX.CodeO c.1 c.2) ∧ (∀ a, S a → (H a).isSome = true) ∧ Own g H S 0 d v [] ∧ Kp H0 H S0 S [] ∧
    KOk g xg P w K mg base kk fk c H0 S0 Kf ∧ RF g xg H S (F d Kf) E Q
structure HCallee (g : G) (xg : XG) (X : Cx) (x : Str) (kk : Nat) (F : PL.D → (List PL.D → Res) → Res) : Prop where
  is : ∃ f fd ps k, (∀ b, ExB X.base b → FnOk X.prog X.w X.K X.mg b (L2N.CX X.prog X.w) k f fd ps (hSp g xg X.prog X.w X.K X.mg kk b F)) ∧ Room k X.A ∧ X.mg x = some (.ref f) ∧ PySem.W.keepIn X.K (.ref f) = true ∧ Binds X.K fd ps []
/-- within a def that was handed the function at fk -/
abbrev G.kl_ (g : G) (fk : Addr) (c : Addr × Str) (H0 : Hp) (S0 : Rg) : G := g.exA (some (fk, 0, none)) (some (H0, S0), some c)
section
variable {g : G} {xg : XG} {Γ : Fe} {X : Cx} {W : WX} {a : Expr} {xa : Ex} {pos : Pos} {fk : Addr} {c : Addr × Str} {H0 : Hp} {S0 : Rg}
theorem OkV.kl_ {H H' : Hp} {S S' : Rg} {n : Nat} {d : PL.D} {v : V} {T : Fp} (hg : g.exa = none) (o : OkV g H H' S S' n d v T) : OkV (g.kl_ fk c H0 S0) H H' S S' n d v T :=
  ⟨o.ext, o.sub, o.new, o.sz, o.own.exa_ hg, o.nd, o.fr⟩
theorem RF.kl_ {H : Hp} {S : Rg} {r : Res} {E : Value → Option Addr → Hp → Prop} {Q : VK} (hg : g.exa = none) (h : RF (g.kl_ fk c H0 S0) xg H S r E Q) : RF g xg H S r E Q := by
  cases r with
  | ok d n => exact fun v H' S' T o => h v H' S' T (o.kl_ hg)
  | exn e => exact h
  | bad => exact h
open LamX in
end
section
open NdefX
variable {g : G} {xg : XG} {Γ : Fe} {P : Program} {w : World} {K : PySem.W.Frag} {mg : Str → Option Value} {base : Heap} {N ps fr : List Str} {F : NF} {f : Addr} {k : Nat} {pm ctv : Value} {params : Arguments} {body : Expr} {xb : Ex} {H0 : Hp} {S0 : Rg} {cv : Ev} {ws : List (Option V)}
end
section
open NdefX
variable {g : G} {xg : XG} {Γ : Fe} {X : Cx} {W : WX} {xa xb : Ex} {pos : Pos}
end
end PL
namespace PL
open PySem PySem.Spec PyProof.Rows L2
section
variable {g : G} {xg : XG} {Γ : Fe} {X : Cx} {W : WX} {a b : Expr} {xa xb : Ex} {pos : Pos}
def flatP (ps : List (V × V)) : List V := ps.flatMap fun p => [p.1, p.2]
structure PD (X : Cx) (pos : Pos) (keys : List (Option Expr)) (values : List Expr) (t : TA) : Prop where
  run : ∀ (pins : List (Addr × Obj)) (s : Shared) (σ : L2.St) (H : Hp) (Q : List V → Hp → Prop), Inv X pins σ H s → t σ H Q →
    wpAny (model X.prog X.w) X.A (evalPairs (pairTrees keys values X.env pos)) (fun us s' => ∃ ps H', Inv X pins σ H' s' ∧ VV ps us ∧ Q (flatP ps) H') X.xe s
end
end PL
namespace PL
open PySem L2 PyProof.Rows
section
variable {g : G} {xg : XG} {Γ : Fe} {X : Cx} {W : WX} {H H1 : Hp} {S S1 : Rg} {As As1 : List Fp} {ρ ρ1 : En} {σ : L2.St} {D : Ends} {a b c : Expr} {xa xb xc : Ex} {pos : Pos}
theorem bindN_ok {n : Nat} {Q : L2.St → Hp → Prop} : ∀ {is : List Nat} {ds : List PL.D} {xs : List V} {C : Fp} {ρ1 ρ2 : En} {σ : L2.St} {As1 : List Fp}, (∀ i ∈ is, Fre g i) → bindN n is ds ρ1 = some ρ2 → OwnL g H1 S1 n ds xs C → C.Nodup → (∀ a ∈ C, (a ∈ As.flatten ∨ H a = none) ∧ ¬ S1 a ∧ a ∉ As1.flatten) → Rep g H1 S1 As1 ρ1 σ → Stp g.TB H S As ρ H1 S1 As1 ρ1 →
    (∀ σ2 As2, Rep g H1 S1 As2 ρ2 σ2 → Stp g.TB H S As ρ H1 S1 As2 ρ2 → Q σ2 H1) → xs.length = is.length ∧ gNames is xs σ H1 Q
  | [], [], xs, _, _, _, σ, As1, _, h, o, _, _, r1, st, k => by
    cases h
    unfold OwnL at o
    rw [o.1]
    exact ⟨rfl, rfl, k σ As1 r1 st⟩
  | i :: is, [], _, _, _, _, _, _, _, h, _, _, _, _, _, _ => by cases h
  | [], d :: ds, _, _, _, _, _, _, _, h, _, _, _, _, _, _ => by cases h
  | i :: is, d :: ds, xs, C0, ρ1, ρ2, σ, As1, hf, h, o, nd, fr, r1, st, k => by
    unfold OwnL at o
    obtain ⟨x, ys, B, C, rfl, rfl, h1, h2⟩ := o
    unfold bindN at h
    split at h
    · cases h
    · rename_i hl
      obtain ⟨ndB, ndC, dis⟩ := List.nodup_append.mp nd
      obtain ⟨r2, s2⟩ := put_ok r1 st h1 ndB (fun a q => ⟨(fr a (List.mem_append_left _ q)).1, (fr a (List.mem_append_left _ q)).2.1, fun j A hA _ hq => (fr a (List.mem_append_left _ q)).2.2 (mem_flat hA hq)⟩) (Bool.eq_false_iff.mpr hl) (fun w hw e => absurd e (hf i List.mem_cons_self w hw))
      obtain ⟨a1, a2⟩ := bindN_ok (Q := Q) (fun i hi => hf i (List.mem_cons_of_mem _ hi)) h h2 ndC (fun a q => ⟨(fr a (List.mem_append_right _ q)).1, (fr a (List.mem_append_right _ q)).2.1, fun z => by
        obtain ⟨j, A, hA, hq⟩ := of_flat z
        rcases set_at hA with ⟨rfl, e⟩ | ⟨hne, e⟩
        · cases e
          exact dis a hq a q rfl
        · exact (fr a (List.mem_append_right _ q)).2.2 (mem_flat e hq)⟩) r2 s2 k
      exact ⟨by rw [List.length_cons, List.length_cons, a1], x, ys, rfl, a2⟩
end
section
variable {g : G} {xg : XG} {Γ : Fe} {X : Cx} {W : WX} {xa : Ex} {pos : Pos}
end
section
/-- what such a method promises: the object's own nodes are its to change -/
def mSp (g : G) (xg : XG) (c : Nat) (F : PL.D → Nat → List PL.D → Option (PL.D × PL.D × Nat)) : Sp := fun vs H Q E => ∃ (S : Rg) (ds : List PL.D) (x : Addr) (ks : List Nat) (fs : List PL.D) (n : Nat) (A : Fp) (ws : List V),
  TabG g H ∧ vs = .ref x :: ws ∧ (∀ a, S a → (H a).isSome = true) ∧ Own g H S (n + 1) (.obj c ks fs) (.ref x) A ∧ A.Nodup ∧ (∀ a ∈ A, ¬ S a) ∧ OwnL g H S 0 ds ws [] ∧
  match F (.obj c ks fs) (n + 1) ds with
  | some (d, s', n') => ∀ v H' S' A', FrX g.TB H [A] [] H' → (∀ a, S a → S' a) → (∀ a, S' a → S a ∨ a ∈ A ∨ H a = none) → (∀ a, S' a → (H' a).isSome = true) → Own g H' S' 0 d v [] → Own g H' S' n' s' (.ref x) A' → A'.Nodup → (∀ a ∈ A', (a ∈ A ∨ H a = none) ∧ ¬ S' a) → Q v H'
  | none => False
structure MuCallee (g : G) (xg : XG) (X : Cx) (c : Nat) (m : Str) (F : PL.D → Nat → List PL.D → Option (PL.D × PL.D × Nat)) : Prop where
  is : ∃ f fd ps k, FnOk X.prog X.w X.K X.mg X.base (L2N.CX X.prog X.w) k f fd ps (mSp g xg c F) ∧ Room k X.A ∧ Cls X.K (g.CA c) ∧ Meth X.K (g.CA c) m f ∧ Binds X.K fd ps []
variable {g : G} {xg : XG} {Γ : Fe} {X : Cx} {W : WX} {H H1 H2 : Hp} {S S1 S2 : Rg} {As As1 : List Fp} {ρ ρ1 : En} {σ : L2.St} {D : Ends} {pos : Pos}
/-- a slot left out -/
theorem Rep.less (r : Rep g H S As ρ σ) (j : Nat) : Rep g H S (As.set j []) (ρ.set j none) σ := by
  refine ⟨r.tab, r.sz, by rw [List.length_set]; exact r.len, by rw [List.length_set, List.length_set]; exact r.lenA, fun i s h => ?_, fun i h => ?_, nd_set r.nd List.nodup_nil (fun a ha => nomatch ha), fun a q => ?_, r.slf⟩
  · rcases set_at h with ⟨rfl, e⟩ | ⟨ne, h⟩
    · cases e
    · obtain ⟨v, B, h1, h2, h3⟩ := r.at_ i s h
      exact ⟨v, B, h1, by rw [List.getElem?_set_ne ne]; exact h2, h3⟩
  · rcases set_at h with ⟨rfl, e⟩ | ⟨ne, h⟩
    · have hl : j < As.length := by
        have := (List.getElem?_eq_some_iff.mp h).1
        rw [List.length_set] at this
        rw [r.lenA]
        exact this
      rw [List.getElem?_set_self hl]
    · rw [List.getElem?_set_ne ne]
      exact r.no i h
  · obtain ⟨i, B, h1, h2⟩ := of_flat q
    rcases set_at h1 with ⟨rfl, e⟩ | ⟨ne, h1⟩
    · subst e
      cases h2
    · exact r.dis a (mem_flat h1 h2)
theorem Rep.other {v : Nat} {σ2 : L2.St} (r : Rep g H S As ρ σ) (hs : g.self = none) (hv : ρ[v]? = some none) (hw : L2.wipe σ2 [v] = L2.wipe σ [v]) : Rep g H S As ρ σ2 := by
  refine ⟨r.tab, r.sz, ?_, r.lenA, fun i s h => ?_, r.no, r.nd, r.dis, fun w z => by rw [hs] at z; cases z⟩
  · rw [r.len, ← wipe_length σ [v], ← hw, wipe_length]
  · have ne : i ∉ [v] := fun q => by
      have : i = v := by simpa using q
      subst this
      rw [hv] at h
      cases h
    obtain ⟨x, A, h1, h2, h3⟩ := r.at_ i s h
    exact ⟨x, A, by rw [← wipe_out (σ := σ2) ne, hw, wipe_out ne]; exact h1, h2, h3⟩
end
end PL
namespace PL
open PySem L2 PyProof.Rows
section
variable {g : G} {H : Hp} {S : Rg}
end
def ndB : Nat → List Nat → Bool
  | 0, l => decide (l.length ≤ 1)
  | n + 1, l => decide (l.length ≤ 1) || (ndB n ((l.filter fun x => Nat.beq (x % 2) 0).map (· / 2)) && ndB n ((l.filter fun x => !Nat.beq (x % 2) 0).map (· / 2)))
section
variable {g : G} {xg : XG} {Γ : Fe} {X : Cx} {W : WX} {H H1 : Hp} {S S1 : Rg} {As As1 : List Fp} {ρ ρ1 : En} {σ : L2.St} {D : Ends}
end
section
variable {g : G} {xg : XG} {Γ : Fe} {X : Cx} {W : WX} {H : Hp} {S : Rg} {a : Expr} {xa : Ex} {pos : Pos}
end
end PL
namespace PL
open PySem L2 PyProof.Rows
end PL
namespace PL
open PySem L2 PyProof.Rows
section
variable {g : G} {X : Cx} {H : Hp} {S : Rg}
end
end PL
namespace PL
open PySem L2 PyProof.Rows
section
variable {g : G} {xg : XG} {Γ : Fe} {X : Cx} {W : WX} {H : Hp} {S : Rg} {As : List Fp} {ρ : En} {σ : L2.St} {D : Ends}
end
end PL
namespace PL
open PySem L2 PyProof.Rows
section
variable {g : G} {xg : XG} {Γ : Fe} {X : Cx} {W : WX} {H H1 : Hp} {S S1 : Rg} {As As1 : List Fp} {ρ ρ1 : En} {σ : L2.St} {D : Ends} {a b c : Expr} {xa xb xc : Ex} {pos : Pos}
end
end PL
namespace PL
open PySem L2 PyProof.Rows
section
variable {g : G} {xg : XG} {Γ : Fe} {X : Cx} {W : WX}
end
end PL
namespace PL
open PySem L2 PyProof.Rows
section
variable {g : G} {xg : XG} {Γ : Fe} {X : Cx} {W : WX}
end
end PL
namespace PL
open PySem L2 PyProof.Rows PySem.Spec
def dropA (k : List Key) (kas : List KA) : List KA := kas.filter fun p => decide (p.1 ≠ k)
theorem KRel.drop (k : List Key) : ∀ {kas : List KA} {xs : List (List Key × Addr × Value)}, KRel kas xs → KRel (dropA k kas) (withoutH xs k)
  | _, _, .nil => .nil
  | _, _, @Paired.cons _ _ _ p q ps qs ⟨h1, h2, h3⟩ t => by
    have ih := KRel.drop k (kas := ps) (xs := qs) t
    unfold dropA withoutH at *
    by_cases e : p.1 = k
    · rw [List.filter_cons_of_neg (by simp [e]), List.filter_cons_of_neg (by simp [← h1, e])]
      exact ih
    · rw [List.filter_cons_of_pos (by simp [e]), List.filter_cons_of_pos (by simp [← h1, e])]
      exact .cons ⟨h1, h2, h3⟩ ih
section
variable {g : G} {xg : XG} {Γ : Fe} {X : Cx} {W : WX} {H H1 : Hp} {S S1 : Rg} {As As1 : List Fp} {ρ ρ1 : En} {σ : L2.St} {D : Ends}
end
section
variable {g : G} {xg : XG} {Γ : Fe} {X : Cx} {W : WX} {H H1 : Hp} {S S1 : Rg} {As As1 : List Fp} {ρ ρ1 : En} {σ : L2.St} {D : Ends}
end
section
variable {g : G} {xg : XG} {Γ : Fe} {X : Cx} {W : WX} {H H1 : Hp} {S S1 : Rg} {As As1 : List Fp} {ρ ρ1 : En} {σ : L2.St} {D : Ends}
end
end PL
namespace PL
open PySem L2 PyProof.Rows

/-- what a global name is: a def, a class (its maker), a constant, none of the module's -/
inductive GK | fn (i : Nat) | hfn (i : Nat) | gfn (i : Nat) | cls (c : Nat) | con (k : Nat) | non | exc (c : Nat) | hof (i kk : Nat) | dead
  deriving DecidableEq
structure Tab where
  N : List Str
  gn : List (Str × GK)
  at_ : List (Str × Nat)
  me : List (Str × Nat)
  /-- in a maker -/
  ini : Bool := false
  /-- in an except suite -/
  sui : Bool := false
  /-- known that nothing is being shown -/
  gd : Bool := false
  /-- handed a function -/
  clo : Bool := false
  /-- the surroundings make lambdas -/
  lam : Bool := false
  /-- the names a lambda may use -/
  lg : List (Str × GK) := []
  /-- the methods that change what they are of -/
  mu : List (Str × Nat) := []
def GK.quiet : GK → GK
  | .fn _ => .dead
  | .gfn _ => .dead
  | .cls _ => .dead
  | .hof _ _ => .dead
  | k => k
/-- .. there no calls -/
def Tab.suiT (T : Tab) : Tab := { T with gn := T.gn.map fun p => (p.1, p.2.quiet), me := [], sui := true, clo := false, lam := false, mu := [] }
/-- in a block of its own; a lambda's body; a def that is handed a function -/
def Tab.inB (T : Tab) : Tab := { T with lam := false, mu := [] }
theorem look_map {α : Type} {f : α → α} {x : Str} : ∀ {l : List (Str × α)} {k : α}, (l.map fun p => (p.1, f p.2)).lookup x = some k → ∃ k0, l.lookup x = some k0 ∧ k = f k0
  | [], _, h => by cases h
  | (y, c) :: l, k, h => by
    rw [List.map_cons, List.lookup_cons] at h
    rw [List.lookup_cons]
    dsimp only at h
    split at h
    · rename_i e
      cases h
      exact ⟨c, rfl, rfl⟩
    · rename_i e
      exact look_map h
def nmOk (x : Str) : Bool := !(x == ("__debug__" : Str)) && !(x == ("__classdict__" : Str)) && !decide (x = "__name__")
def visB (s : Scope) (x : Str) : Bool := match s.names.lookup x with
  | some .local => true | some .cell => true | some .free => true | _ => false
def locB (s : Scope) (x : Str) : Bool := match s.names.lookup x with
  | some .local => true | some .cell => true | _ => false
def glB (s : Scope) (x : Str) : Bool := match s.names.lookup x with
  | some .globalImplicit => true | _ => false
def opB : Operator → Bop → Bool
  | .Add, .add => true | .Sub, .sub => true | .Mult, .mul => true | .FloorDiv, .fdiv => true | .Mod, .mod => true | .Pow, .pow => true | _, _ => false
def opC : CmpOp → Cop → Bool
  | .Eq, .eq => true | .NotEq, .ne => true | .NotEq, .nel => true | .Lt, .lt => true | .LtE, .le => true | .Gt, .gt => true | .GtE, .ge => true | .Is, .isN => true | .IsNot, .notN => true | .In, .isin => true | .NotIn, .notin => true | _, _ => false
theorem opB_eq {q : Operator} {o : Bop} (h : opB q o = true) : q = o.op := by cases q <;> cases o <;> first | rfl | cases h
theorem opC_eq {q : CmpOp} {o : Cop} (h : opC q o = true) : q = o.op := by cases q <;> cases o <;> first | rfl | cases h
def notIf : Expr → Bool
  | .IfExp _ _ _ _ => false
  | _ => true
def Bi.nm : Bi → Str
  | .len => "len" | .abs => "abs" | .sum => "sum" | .max1 => "max" | .min1 => "min" | .max2 => "max" | .min2 => "min" | .list => "list" | .tuple => "tuple" | .str => "str" | .int => "int" | .all => "all" | .any => "any" | .sorted => "sorted" | .repr => "repr" | .reprL => "repr" | .bool => "bool"
def Ty.nm : Ty → Str
  | .int => "int" | .bool => "bool" | .tuple => "tuple" | .list => "list" | .str => "str" | .dict => "dict" | .float => "float"
theorem Bi.boot (b : Bi) : bootBuiltins b.nm = some b.val := by cases b <;> decide +kernel
theorem Ty.boot (t : Ty) : bootBuiltins t.nm = some (.type t.name) := by cases t <;> decide +kernel
theorem isi_boot : bootBuiltins "isinstance" = some (.builtin "isinstance") := by decide +kernel

def ckVar (T : Tab) (s : Scope) (x : Str) (i : Nat) : Bool := decide (T.N[i]? = some x) && visB s x && nmOk x
/-- x is none of the module's, not bound here -/
def ckBlt (T : Tab) (s : Scope) (x y : Str) : Bool := decide (x = y) && glB s x && nmOk x && decide (T.gn.lookup x = some .non)
def ckGl (T : Tab) (s : Scope) (x : Str) (k : GK) : Bool := glB s x && nmOk x && decide (T.gn.lookup x = some k)
def ckList (f : Expr → Ex → Bool) : List Expr → List Ex → Bool
  | [], [] => true
  | e :: es, x :: xs => noStar e && f e x && ckList f es xs
  | _, _ => false
def ckOpt (f : Expr → Ex → Bool) : Option Expr → Ex → Bool
  | none, x => (match x with | .omit => true | _ => false)
  | some e, x => !x.isOmit && f e x
def ckNames (T : Tab) (o : Scope) : List Expr → List Nat → Bool
  | [], [] => true
  | e :: es, i :: is => (match e with | .Name x _ => decide (T.N[i]? = some x) && locB o x | _ => false) && ckNames T o es is
  | _, _ => false
def ckTg (T : Tab) (o : Scope) : Expr → List Nat → Bool
  | .Name x _, [i] => decide (T.N[i]? = some x) && locB o x
  | .Tuple es _ _, is => decide (2 ≤ is.length) && ckNames T o es is
  | _, _ => false
def ownZ : List Expr → List Nat → List (Str × Nat)
  | .Name x _ :: es, i :: is => (x, i) :: ownZ es is
  | _, _ => []
def ownOf : Expr → List Nat → List (Str × Nat)
  | .Name x p, is => ownZ [.Name x p] is
  | .Tuple es _ _, is => ownZ es is
  | _, _ => []
/-- an iterator -/
def ckI (f : Expr → Ex → Bool) (T : Tab) (s : Scope) (tg iter : Expr) (k : SK) (args : List Ex) : Bool := noSet iter && match k with
  | .seq => (match args with | [x] => f iter x | _ => false)
  | .rng1 => (match iter, args with | .Call (.Name x _) [a] [] _, [xa] => ckBlt T s x "range" && noStar a && f a xa | _, _ => false)
  | .rng2 => (match iter, args with | .Call (.Name x _) [a, b] [] _, [xa, xb] => ckBlt T s x "range" && noStar a && noStar b && f a xa && f b xb | _, _ => false)
  | .rng3 => (match iter, args with | .Call (.Name x _) [a, b, c] [] _, [xa, xb, xc] => ckBlt T s x "range" && noStar a && noStar b && noStar c && f a xa && f b xb && f c xc | _, _ => false)
  | .enum => (match tg, iter, args with | .Tuple _ _ _, .Call (.Name x _) [a] [] _, [xa] => ckBlt T s x "enumerate" && noStar a && f a xa | _, _, _ => false)
  | .zip => (match tg, iter, args with | .Tuple _ _ _, .Call (.Name x _) [a, b] [] _, [xa, xb] => ckBlt T s x "zip" && noStar a && noStar b && f a xa && f b xb | _, _, _ => false)
  | .ezip => (match tg, iter, args with | .Tuple _ _ _, .Call (.Name x _) [.Call (.Name y _) [a, b] [] _] [] _, [xa, xb] => ckBlt T s x "enumerate" && ckBlt T s y "zip" && noStar a && noStar b && f a xa && f b xb | _, _, _ => false)
  | .items => (match tg, iter, args with | .Tuple _ _ _, .Call (.Attribute o nm apos) [] [] cpos, [x] => decide (nm = "items") && noSuper o && (apos.endLine == cpos.line) && f o x | _, _, _ => false)
/-- a comprehension; fb: inside of its block -/
def ckComp (f : Expr → Ex → Bool) (fb : Expr → Ex → Bool) (T : Tab) (s : Scope) (elt tg iter : Expr) (ifs : List Expr) (isa : Int) (scope : Scope) (x : Ex) : Bool := decide (isa = 0) && match x with
  | .comp k args is xelt => (match ifs with
    | [] => ckI f T s tg iter k args && ckTg T scope tg is && decide ((ownOf tg is).map (·.2) = is) && blkC T.N s scope (ownOf tg is) && fb elt xelt
    | _ => false)
  | .compIf k args is xelt xcnd => (match ifs with
    | [c] => ckI f T s tg iter k args && ckTg T scope tg is && decide ((ownOf tg is).map (·.2) = is) && blkC T.N s scope (ownOf tg is) && fb elt xelt && notIf c && fb c xcnd
    | _ => false)
  | _ => false

def Ex.isDead : Ex → Bool
  | .dead => true
  | _ => false
def ckE : Nat → Tab → Scope → Scope → Expr → Ex → Bool
  | 0, _, _, _, _, _ => false
  | n + 1, T, o, s, e, x => if x.isDead then true else match e with
    | .Name id _ => (match x with
      | .var i => ckVar T s id i
      | .glo k => ckGl T s id (.con k)
      | _ => false)
    | .Constant (.int i) _ _ => (match x with | .con (.int j) => decide (i = j) | _ => false)
    | .Constant (.bool i) _ _ => (match x with | .con (.bl j) => decide (i = j) | _ => false)
    | .Constant (.str i) _ _ => (match x with | .con (.str j) => decide (i = j) | _ => false)
    | .Constant .none _ _ => (match x with | .con .non => true | _ => false)
    | .BoolOp op [a] _ => notIf a && ckE n T o s a x
    | .BoolOp .And (a :: b :: rest) p => (match x with | .and xa xb => notIf a && ckE n T o s a xa && ckE n T o s (.BoolOp .And (b :: rest) p) xb | _ => false)
    | .BoolOp .Or (a :: b :: rest) p => (match x with | .or xa xb => notIf a && ckE n T o s a xa && ckE n T o s (.BoolOp .Or (b :: rest) p) xb | _ => false)
    | .BinOp a op b _ => (match x with | .bin q xa xb => opB op q && ckE n T o s a xa && ckE n T o s b xb | _ => false)
    | .UnaryOp .USub a _ => (match x with | .neg xa => ckE n T o s a xa | _ => false)
    | .UnaryOp .Not a _ => (match x with | .not xa => notIf a && ckE n T o s a xa | _ => false)
    | .Compare a [op] [b] _ => (match x with | .cmp q xa xb => opC op q && noSet b && ckE n T o s a xa && ckE n T o s b xb | _ => false)
    | .Compare a [op, op2] [b, c] _ => (match x with | .cmp2 q q2 xa xb xc => opC op q && opC op2 q2 && noSet c && ckE n T o s a xa && ckE n T o s b xb && ckE n T o s c xc | _ => false)
    | .IfExp c a b _ => (match x with | .ife xc xa xb => notIf c && ckE n T o s c xc && ckE n T o s a xa && ckE n T o s b xb | _ => false)
    | .Subscript a (.Slice lo hi none _) _ => (match x with | .sl xa xl xh => ckE n T o s a xa && ckOpt (ckE n T o s) lo xl && ckOpt (ckE n T o s) hi xh | _ => false)
    | .Subscript a b _ => (match x with
      | .ix xa xb => noSlice b && ckE n T o s a xa && ckE n T o s b xb
      | _ => false)
    | .List es _ => (match x with | .lst xs => ckList (ckE n T o s) es xs | _ => false)
    | .Tuple es _ _ => (match x with | .tup xs => ckList (ckE n T o s) es xs | _ => false)
    | .Call (.Name id _) es [] _ => (match x with
      | .call f xs => ((ckGl T s id (.fn f) || (T.sui && !es.isEmpty && ckGl T s id (.hfn f))) || (T.gd && !es.isEmpty && ckGl T s id (.gfn f))) && ckList (ckE n T o s) es xs
      | .bi b xs => (!T.sui || !b.calmy) && (!decide (b = .reprL) || T.gd) && ckBlt T s id b.nm && !es.isEmpty && ckList (ckE n T o s) es xs
      | .isi xa t => (match es with | [a, .Name y _] => ckBlt T s id "isinstance" && ckBlt T s y t.nm && noStar a && ckE n T o s a xa | _ => false)
      | _ => false)
    | .ListComp elt [⟨tg, iter, ifs, isa⟩] scope _ => !T.sui && !T.clo && ckComp (ckE n T o s) (ckE n T.inB scope (relS scope s)) T s elt tg iter ifs isa scope x
    | _ => false

structure FnHx (P : Program) (w : World) (K : PySem.W.Frag) (mg : Str → Option Value) (base : Heap) (k : Nat) (f : Addr) (fd : FuncData) (ps : List Str) (sp : Addr × Obj → Sp) : Prop where
  len : ∀ p vs H Q E, sp p vs H Q E → vs.length = ps.length
  run : ∀ (A : Around) (outer : List Env) (s : Shared) (H : Hp) (args : Args) (us : List Value) (vs : List V) (Q : VK) (E : XK) (p : Addr × Obj), L2H.RoomH k A → L2H.Hot1 A p → L2H.PinOk outer H s p → Env0 P w K mg base A outer s H → BindsTo s fd args (ps.zip us) → Vals vs us → sp p vs H Q E →
    codeAny (model P w) A (.call (.ref f) args) (CR (L2N.CX P w) outer P w H s Q E) s
theorem FnHx.imp {P : Program} {w : World} {K : PySem.W.Frag} {mg : Str → Option Value} {base : Heap} {k : Nat} {f : Addr} {fd : FuncData} {ps : List Str} {sp sp' : Addr × Obj → Sp} (F : FnHx P w K mg base k f fd ps sp) (h : ∀ p vs H Q E, sp' p vs H Q E → sp p vs H Q E) : FnHx P w K mg base k f fd ps sp' :=
  ⟨fun p vs H Q E q => F.len p vs H Q E (h p vs H Q E q), fun A outer s H args us vs Q E p r hot pin e0 hb rv q => F.run A outer s H args us vs Q E p r hot pin e0 hb rv (h p vs H Q E q)⟩
/-- p is the caught exception, of the class k -/
def HotEx (K : PySem.W.Frag) (xg : XG) (p : Addr × Obj) (k : Nat) (d : Option Addr) : Prop := L2N.Zn (xg.XV k) d p.2 ∧ (∃ vs, p.2.data = .fields vs) ∧ ∃ C, xg.XV k = .ref C ∧ ExK K C
def hxSp (g : G) (xg : XG) (F : List D → Res) (p : Addr × Obj) : Sp := fun vs H Q E => ∃ k d, HotEx g.K xg p k d ∧ pSp (g.exA (some (p.1, k, d))) xg F vs H Q E
structure CalleeH (g : G) (xg : XG) (X : Cx) (x : Str) (F : List D → Res) : Prop where
  is : ∃ f fd ps k, FnHx X.prog X.w X.K X.mg X.base k f fd ps (hxSp g xg F) ∧ L2H.RoomH k X.A ∧ X.mg x = some (.ref f) ∧ PySem.W.keepIn X.K (.ref f) = true ∧ Binds X.K fd ps []
theorem exA_self {g : G} {e : Option (Addr × Nat × Option Addr)} (h : g.exa = e) : g.exA e = g := by
  subst h
  rfl
theorem run_fnHx {X : Cx} {k : Nat} {f : Addr} {fd : FuncData} {ps : List Str} {sp : Addr × Obj → Sp} {E : L2.St → XK} {pins : List (Addr × Obj)} {σ : L2.St} {H : Hp} {s : Shared} {Q : VK} {us : List Value} {vs : List V} {p : Addr × Obj} (F : FnHx X.prog X.w X.K X.mg X.base k f fd ps sp) (hr : L2H.RoomH k X.A) (hot : L2H.Hot1 X.A p) (hp : p ∈ X.pn)
    (hb : Binds X.K fd ps []) (hx : PassesAt (L2N.CX X.prog X.w) X σ (E σ)) (I : Inv X pins σ H s) (r : Vals vs us) (h : sp p vs H Q (E σ)) : wpAny (model X.prog X.w) X.A (call (.ref f) us) (EP X pins σ Q) X.xe s := by
  have hl : us.length = ps.length := by rw [← r.length]; exact F.len _ _ _ _ _ h
  have b := hb s us I.kIn (by rw [List.append_nil]; exact hl)
  rw [List.append_nil] at b
  have P1 := I.pin p (List.mem_append_left _ hp)
  have hpin : L2H.PinOk X.stack H s p := ⟨P1.1, P1.2.1, fun hm => (List.mem_cons.mp (I.stkSub p.1 hm)).elim P1.2.2.1 P1.2.2.2.1, P1.2.2.2.2⟩
  refine wpAny_call (codeAny_mono (F.run X.A X.stack s H ⟨us, []⟩ us vs Q (E σ) p hr hot hpin I.env0 b r h) fun r s' hq => ?_)
  cases r with
  | error e => exact hx pins H s e s' I hq
  | ok fl =>
    cases fl with
    | ret u => exact I.after hq
    | next => exact False.elim hq
    | brk => exact False.elim hq
    | cont => exact False.elim hq
theorem e_callH {g : G} {xg : XG} {Γ : Fe} {X : Cx} {W : WX} {x : Str} {p : Pos} {es : List Expr} {xs : List Ex} {f : Nat} {a0 : Addr} {c0 : Nat} {dd0 : Option Addr} (hK : g.K = X.K) (xo : XOk g xg Γ X) (hx : g.exa = some (a0, c0, dd0)) (hk : ∃ C, xg.XV c0 = .ref C ∧ ExK X.K C) (tk : L2N.Takes X W) (C : CalleeH g xg X x (Γ.fn f))
    (hg : Gl X x) (hdb : (x == ("__debug__" : Str)) = false) (hs : es.all noStar = true) (hn : es.isEmpty = false) (ha : PA X es (RdA g xg Γ W xs)) : PE X (.Call (.Name x p) es [] pos) (RdE g xg Γ W (.call f xs)) := by
  obtain ⟨fa, fd, ps, k, F, hr, hm, hkp, hb⟩ := C.is
  obtain ⟨oe, hmem, hz, hf, hh⟩ := xo.st _ _ _ hx (let ⟨C0, eC, _⟩ := hk; ⟨C0, eC⟩)
  refine ⟨fun pins s σ H Q I ⟨S, δ, rep, h⟩ => ?_⟩
  unfold evE at h
  refine wpAny_Call_Name_kw (ld_glob I hg hm ?_ hdb)
  cases es with
  | nil => cases hn
  | cons e es =>
    simp only [List.all_cons, Bool.and_eq_true] at hs
    have hA : RdA g xg Γ W xs σ H fun vs H1 => pSp g xg (Γ.fn f) vs H1 Q (WE W σ) := evL_rf rep h fun ds vs H1 S1 rep1 f1 ow h1 => ⟨S1, ds, rep1.tab.1, rep1.sz, ow, h1⟩
    refine PySem.W.callWith_K (h₀ := X.base) I.ok.mod.kin hkp (thn (ha.run pos pins s σ H _ I hA) fun us s1 ⟨vs, H1, I1, r, q⟩ => ⟨I1.kIn, ?_⟩) (star_cons hs.1) (plain_any hs.2)
    have hot : L2H.Hot1 X.A (a0, oe) := ⟨hh, let ⟨vs, e⟩ := hf; ⟨vs, e, hz.2.2 vs e⟩⟩
    exact run_fnHx (E := WE W) F hr hot hmem hb (L2N.passAt tk σ) I1 r ⟨c0, dd0, ⟨hz, hf, by rw [hK]; exact hk⟩, by rw [show g.exA (some ((a0, oe).1, c0, dd0)) = g from exA_self hx]; exact q⟩
structure FnGx (P : Program) (w : World) (K : PySem.W.Frag) (mg : Str → Option Value) (base : Heap) (k : Nat) (f : Addr) (fd : FuncData) (ps : List Str) (sp : Sp) : Prop where
  len : ∀ vs H Q E, sp vs H Q E → vs.length = ps.length
  run : ∀ (A : Around) (outer : List Env) (s : Shared) (H : Hp) (args : Args) (us : List Value) (vs : List V) (Q : VK) (E : XK), A.guards = some [] → Room k A → Env0 P w K mg base A outer s H → BindsTo s fd args (ps.zip us) → Vals vs us → sp vs H Q E →
    codeAny (model P w) A (.call (.ref f) args) (CR (L2N.CX P w) outer P w H s Q E) s
theorem FnGx.imp {P : Program} {w : World} {K : PySem.W.Frag} {mg : Str → Option Value} {base : Heap} {k : Nat} {f : Addr} {fd : FuncData} {ps : List Str} {sp sp' : Sp} (F : FnGx P w K mg base k f fd ps sp) (h : ∀ vs H Q E, sp' vs H Q E → sp vs H Q E) : FnGx P w K mg base k f fd ps sp' :=
  ⟨fun vs H Q E q => F.len vs H Q E (h vs H Q E q), fun A outer s H args us vs Q E hg r e0 hb rv q => F.run A outer s H args us vs Q E hg r e0 hb rv (h vs H Q E q)⟩
structure CalleeG (g : G) (xg : XG) (X : Cx) (x : Str) (F : List D → Res) : Prop where
  is : ∃ f fd ps k, FnGx X.prog X.w X.K X.mg X.base k f fd ps (pSp g xg F) ∧ Room k X.A ∧ X.mg x = some (.ref f) ∧ PySem.W.keepIn X.K (.ref f) = true ∧ Binds X.K fd ps []
theorem run_fnGx {X : Cx} {k : Nat} {f : Addr} {fd : FuncData} {ps : List Str} {sp : Sp} {E : L2.St → XK} {pins : List (Addr × Obj)} {σ : L2.St} {H : Hp} {s : Shared} {Q : VK} {us : List Value} {vs : List V} (F : FnGx X.prog X.w X.K X.mg X.base k f fd ps sp) (hg : X.A.guards = some []) (hr : Room k X.A)
    (hb : Binds X.K fd ps []) (hx : PassesAt (L2N.CX X.prog X.w) X σ (E σ)) (I : Inv X pins σ H s) (r : Vals vs us) (h : sp vs H Q (E σ)) : wpAny (model X.prog X.w) X.A (call (.ref f) us) (EP X pins σ Q) X.xe s := by
  have hl : us.length = ps.length := by rw [← r.length]; exact F.len _ _ _ _ h
  have b := hb s us I.kIn (by rw [List.append_nil]; exact hl)
  rw [List.append_nil] at b
  refine wpAny_call (codeAny_mono (F.run X.A X.stack s H ⟨us, []⟩ us vs Q (E σ) hg hr I.env0 b r h) fun r s' hq => ?_)
  cases r with
  | error e => exact hx pins H s e s' I hq
  | ok fl =>
    cases fl with
    | ret u => exact I.after hq
    | next => exact False.elim hq
    | brk => exact False.elim hq
    | cont => exact False.elim hq
theorem e_callG {g : G} {xg : XG} {Γ : Fe} {X : Cx} {W : WX} {x : Str} {p pos : Pos} {es : List Expr} {xs : List Ex} {f : Nat} (hgd : X.A.guards = some []) (tk : L2N.Takes X W) (C : CalleeG g xg X x (Γ.fn f))
    (hg : Gl X x) (hdb : (x == ("__debug__" : Str)) = false) (hs : es.all noStar = true) (hn : es.isEmpty = false) (ha : PA X es (RdA g xg Γ W xs)) : PE X (.Call (.Name x p) es [] pos) (RdE g xg Γ W (.call f xs)) := by
  obtain ⟨fa, fd, ps, k, F, hr, hm, hkp, hb⟩ := C.is
  refine ⟨fun pins s σ H Q I ⟨S, δ, rep, h⟩ => ?_⟩
  unfold evE at h
  refine wpAny_Call_Name_kw (ld_glob I hg hm ?_ hdb)
  cases es with
  | nil => cases hn
  | cons e es =>
    simp only [List.all_cons, Bool.and_eq_true] at hs
    have hA : RdA g xg Γ W xs σ H fun vs H1 => pSp g xg (Γ.fn f) vs H1 Q (WE W σ) := evL_rf rep h fun ds vs H1 S1 rep1 f1 ow h1 => ⟨S1, ds, rep1.tab.1, rep1.sz, ow, h1⟩
    refine PySem.W.callWith_K (h₀ := X.base) I.ok.mod.kin hkp (thn (ha.run pos pins s σ H _ I hA) fun us s1 ⟨vs, H1, I1, r, q⟩ => ⟨I1.kIn, ?_⟩) (star_cons hs.1) (plain_any hs.2)
    exact run_fnGx (E := WE W) F hgd hr hb (L2N.passAt tk σ) I1 r q
section
variable {g : G} {xg : XG} {Γ : Fe} {X : Cx} {W : WX} {T : Tab} {o s : Scope}
def GF (g : G) (xg : XG) (Γ : Fe) (X : Cx) (x : Str) : GK → Prop
  | .fn i => Callee g xg X x (Γ.fn i)
  | .hfn i => CalleeH g xg X x (Γ.fn i)
  | .gfn i => CalleeG g xg X x (Γ.fn i)
  | .cls c => KCallee g xg X x c (Γ.ma c)
  | .con k => ∃ v u, X.mg x = some u ∧ RelV v u ∧ ∀ H S, Own g H S 0 (Γ.gl k) v []
  | .non => X.mg x = none
  | .exc c => X.mg x = some (xg.XV c)
  | .hof i kk => HCallee g xg X x kk (Γ.hf i)
  | .dead => True
def GF0 (g : G) (xg : XG) (Γ : Fe) (P : Program) (w : World) (K : PySem.W.Frag) (mg : Str → Option Value) (base : Heap) (k : Nat) (x : Str) : GK → Prop
  | .fn i => ∃ f fd ps k', k' ≤ k ∧ FnOk P w K mg base (L2N.CX P w) k' f fd ps (pSp g xg (Γ.fn i)) ∧ mg x = some (.ref f) ∧ PySem.W.keepIn K (.ref f) = true ∧ Binds K fd ps []
  | .hfn i => ∃ f fd ps k', k' ≤ k ∧ FnHx P w K mg base k' f fd ps (hxSp g xg (Γ.fn i)) ∧ mg x = some (.ref f) ∧ PySem.W.keepIn K (.ref f) = true ∧ Binds K fd ps []
  | .gfn i => ∃ f fd ps k', k' ≤ k ∧ FnGx P w K mg base k' f fd ps (pSp g xg (Γ.fn i)) ∧ mg x = some (.ref f) ∧ PySem.W.keepIn K (.ref f) = true ∧ Binds K fd ps []
  | .cls c => ∃ f fd ps k', k' + 1 ≤ k ∧ FnOk P w K mg base (L2N.CX P w) k' f fd ps (iSp g xg c (Γ.ma c)) ∧ mg x = some (.ref (g.CA c)) ∧ Mk K (g.CA c) f ∧ Binds K fd ps []
  | .con i => ∃ v u, mg x = some u ∧ RelV v u ∧ ∀ H S, Own g H S 0 (Γ.gl i) v []
  | .non => mg x = none
  | .exc c => mg x = some (xg.XV c)
  | .hof i kk => ∃ f fd ps k', k' ≤ k ∧ (∀ b, ExB base b → FnOk P w K mg b (L2N.CX P w) k' f fd ps (hSp g xg P w K mg kk b (Γ.hf i))) ∧ mg x = some (.ref f) ∧ PySem.W.keepIn K (.ref f) = true ∧ Binds K fd ps []
  | .dead => True
def MF0 (g : G) (xg : XG) (P : Program) (w : World) (K : PySem.W.Frag) (mg : Str → Option Value) (base : Heap) (k : Nat) (c : Nat) (m : Str) (F : List D → Res) : Prop :=
  ∃ f fd ps k', k' ≤ k ∧ FnOk P w K mg base (L2N.CX P w) k' f fd ps (pSp g xg F) ∧ Cls K (g.CA c) ∧ Meth K (g.CA c) m f ∧ Binds K fd ps []
def MU0 (g : G) (xg : XG) (P : Program) (w : World) (K : PySem.W.Frag) (mg : Str → Option Value) (base : Heap) (k : Nat) (c : Nat) (m : Str) (F : PL.D → Nat → List D → Option (D × D × Nat)) : Prop :=
  ∃ f fd ps k', k' ≤ k ∧ FnOk P w K mg base (L2N.CX P w) k' f fd ps (mSp g xg c F) ∧ Cls K (g.CA c) ∧ Meth K (g.CA c) m f ∧ Binds K fd ps []
/-- the surroundings make lambdas: the code object, its table; what is known wherever the base grows -/
structure LamOk (g : G) (xg : XG) (Γ : Fe) (X : Cx) (T : Tab) : Prop where
  ex : ∃ (cm Pt : Addr) (kl : Nat), X.env.code = .ref cm ∧ LamX.TabB X.base X.mg cm Pt ∧ (Pt, X.env.qual ++ "<lambda>") ∈ g.TB ∧ (∀ p ∈ g.TB, p.1 = Pt → p.2 = X.env.qual ++ "<lambda>") ∧ (∀ x i kk, T.gn.lookup x = some (.hof i kk) → kl + 1 ≤ kk) ∧
    ∀ b, ExB X.base b → ∀ x c, T.lg.lookup x = some c → GF0 g xg Γ X.prog X.w X.K X.mg b kl x c
  fn : ∀ y, X.fn y = true
  pl : (g.exa = none ∧ g.clo = none ∧ g.cod = none) ∧ g.self = none
/-- the surroundings were handed a function -/
def CloOk (g : G) (xg : XG) (Γ : Fe) (X : Cx) : Prop := ∃ (g0 : G) (fk : Addr) (c : Addr × Str) (H0 : Hp) (S0 : Rg) (k : Nat), g = g0.kl_ fk c H0 S0 ∧ g0.exa = none ∧ KOk g0 xg X.prog X.w X.K X.mg X.base k fk c H0 S0 Γ.kl ∧ Room k X.A
/-- what is known of a body's surroundings -/
structure Cok (g : G) (xg : XG) (Γ : Fe) (X : Cx) (W : WX) (T : Tab) (o s : Scope) : Prop where
  hKP : g.K = X.K ∧ g.P = X.prog ∧ g.w = X.w
  hu : X.A.units + 65 < cLine
  cl : T.sui = false → X.calm = true
  hN : X.N = T.N
  nd : T.N.Nodup
  sc : X.env.scope = s
  fn : ∀ x, locB o x = true → Loc s x ∧ (X.fn x = true ∨ s.names.lookup x = some .local)
  tk : L2N.Takes X W
  gf : ∀ x k, T.gn.lookup x = some k → GF g xg Γ X x k
  at_ : ∀ x i, T.at_.lookup x = some i → g.AN i = x
  inj : ∀ i j, g.AN i = g.AN j → i = j
  fo : ∀ c f, Γ.fo c f = true → Cls X.K (g.CA c) ∧ NoAttr X.K (g.CA c) (g.AN f)
  me : ∀ x i, T.me.lookup x = some i → (∀ c, Γ.mh i c = true → MCallee g xg X c x (Γ.me i c)) ∧ ∀ k, g.AN k ≠ x
  ini : T.ini = false → g.self = none
  ex0 : T.sui = false → T.clo = false → g.exa = none ∧ g.clo = none
  exc : T.sui = false → ∀ a c dd, g.exa = some (a, c, dd) → c = 0
  ex1 : T.sui = true → ∃ a c dd C, g.exa = some (a, c, dd) ∧ xg.XV c = .ref C ∧ ExK X.K C
  xo : XOk g xg Γ X
  em : ∀ i j b, Γ.sub i j = some b → PySem.W.exmOne X.K (xg.XV i) (xg.XV j) = some b
  rz : ∀ c, Γ.rz c = true → ∃ C, xg.XV c = .ref C ∧ RzK X.K C
  xv0 : xg.XV 0 = .type "ValueError"
  xcl : ∀ c, isCl (xg.XV c) = true
  gd : T.gd = true → X.A.guards = some []
  lam : T.lam = true → LamOk g xg Γ X T
  clo : T.clo = true → CloOk g xg Γ X
  mu : ∀ x i, T.mu.lookup x = some i → (∀ c, Γ.muh i c = true → MuCallee g xg X c x (Γ.mu i c)) ∧ ∀ k, g.AN k ≠ x
theorem Cok.hK {g : G} {xg : XG} {Γ : Fe} {X : Cx} {W : WX} {T : Tab} {o s : Scope} (C : Cok g xg Γ X W T o s) : g.K = X.K := C.hKP.1
theorem Cok.hP {g : G} {xg : XG} {Γ : Fe} {X : Cx} {W : WX} {T : Tab} {o s : Scope} (C : Cok g xg Γ X W T o s) : g.P = X.prog ∧ g.w = X.w := C.hKP.2
theorem visB_ok {x : Str} (h : visB s x = true) : Vis s x := by
  unfold visB at h
  split at h <;> first | exact .inl (by assumption) | exact .inr (.inl (by assumption)) | exact .inr (.inr (by assumption)) | cases h
theorem locB_ok {x : Str} (h : locB s x = true) : Loc s x := by
  unfold locB at h
  split at h <;> first | exact .inl (by assumption) | exact .inr (by assumption) | cases h
theorem glB_ok {x : Str} (h : glB X.env.scope x = true) : Gl X x := by
  unfold glB at h
  split at h
  · assumption
  · cases h
theorem nmOk_ok {x : Str} (h : nmOk x = true) : (x == ("__debug__" : Str)) = false ∧ (x == ("__classdict__" : Str)) = false ∧ x ≠ "__name__" := by
  unfold nmOk at h
  simp only [Bool.and_eq_true, Bool.not_eq_true', decide_eq_false_iff_not] at h
  exact ⟨h.1.1, h.1.2, h.2⟩
theorem ckBlt_ok (C : Cok g xg Γ X W T o s) {x y : Str} (h : ckBlt T s x y = true) : x = y ∧ Gl X x ∧ X.mg x = none ∧ (x == ("__debug__" : Str)) = false ∧ x ≠ "__name__" := by
  unfold ckBlt at h
  simp only [Bool.and_eq_true, decide_eq_true_eq] at h
  obtain ⟨⟨⟨h1, h2⟩, h3⟩, h4⟩ := h
  exact ⟨h1, glB_ok (by rw [C.sc]; exact h2), C.gf _ _ h4, (nmOk_ok h3).1, (nmOk_ok h3).2.2⟩
theorem ckGl_ok (C : Cok g xg Γ X W T o s) {x : Str} {k : GK} (h : ckGl T s x k = true) : Gl X x ∧ (x == ("__debug__" : Str)) = false ∧ GF g xg Γ X x k := by
  unfold ckGl at h
  simp only [Bool.and_eq_true, decide_eq_true_eq] at h
  exact ⟨glB_ok (by rw [C.sc]; exact h.1.1), (nmOk_ok h.1.2).1, C.gf _ _ h.2⟩
theorem ckVar_ok (C : Cok g xg Γ X W T o s) {x : Str} {i : Nat} (h : ckVar T s x i = true) : X.N[i]? = some x ∧ Vis X.env.scope x ∧ (x == ("__debug__" : Str)) = false ∧ (x == ("__classdict__" : Str)) = false := by
  unfold ckVar at h
  simp only [Bool.and_eq_true, decide_eq_true_eq] at h
  exact ⟨by rw [C.hN]; exact h.1.1, by rw [C.sc]; exact visB_ok h.1.2, (nmOk_ok h.2).1, (nmOk_ok h.2).2.1⟩
theorem ckList_ok {f : Expr → Ex → Bool} (hf : ∀ e x, f e x = true → PE X e (RdE g xg Γ W x)) : ∀ {es : List Expr} {xs : List Ex}, ckList f es xs = true → PA X es (RdA g xg Γ W xs) ∧ es.all noStar = true ∧ es.isEmpty = xs.isEmpty
  | [], [], _ => ⟨a_nil, rfl, rfl⟩
  | [], _ :: _, h => by cases h
  | _ :: _, [], h => by cases h
  | e :: es, x :: xs, h => by
    unfold ckList at h
    simp only [Bool.and_eq_true] at h
    obtain ⟨h1, h2, _⟩ := ckList_ok hf h.2
    exact ⟨a_cons h.1.1 (hf _ _ h.1.2) h1, by simp [h.1.1, h2], rfl⟩
theorem ckOpt_ok {f : Expr → Ex → Bool} (hf : ∀ e x, f e x = true → PE X e (RdE g xg Γ W x)) {e : Option Expr} {x : Ex} (h : ckOpt f e x = true) : PO X e (RdO g xg Γ W x) := by
  cases e with
  | none =>
    cases x <;> first | exact o_none | cases h
  | some e =>
    unfold ckOpt at h
    simp only [Bool.and_eq_true, Bool.not_eq_true'] at h
    exact o_some h.1 (hf _ _ h.2)
theorem ckNames_ok (C : Cok g xg Γ X W T o s) : ∀ {es : List Expr} {is : List Nat}, ckNames T o es is = true → PGs X es (gNames is) ∧ (assignEach es X.env).length = is.length ∧ (assignEach es X.env).findIdx? (·.1) = none
  | [], [], _ => ⟨pgs_nil, rfl, rfl⟩
  | [], _ :: _, h => by cases h
  | _ :: _, [], h => by cases h
  | e :: es, i :: is, h => by
    unfold ckNames at h
    simp only [Bool.and_eq_true] at h
    obtain ⟨h0, h⟩ := h
    obtain ⟨h1, h2, h3⟩ := ckNames_ok C h
    split at h0
    · rename_i x p
      simp only [Bool.and_eq_true, decide_eq_true_eq] at h0
      obtain ⟨f1, f2⟩ := C.fn x h0.2
      refine ⟨pgs_cons (pg_name (by rw [C.hN]; exact C.nd) (by rw [C.hN]; exact h0.1) (by rw [C.sc]; exact f1) (by rw [C.sc]; exact f2)) h1 rfl, ?_, ?_⟩
      · show (assignEach es X.env).length + 1 = _
        rw [h2]
        rfl
      · show List.findIdx? _ ((false, _) :: assignEach es X.env) = none
        rw [List.findIdx?_cons, h3]
        rfl
    · cases h0
theorem ckTg_ok (C : Cok g xg Γ X W T o s) (hsu : T.sui = false) {e : Expr} {is : List Nat} (h : ckTg T o e is = true) : PG X e (gT X.K is) := by
  unfold ckTg at h
  split at h
  · rename_i x p i
    simp only [Bool.and_eq_true, decide_eq_true_eq] at h
    obtain ⟨f1, f2⟩ := C.fn x h.2
    exact pg_name (by rw [C.hN]; exact C.nd) (by rw [C.hN]; exact h.1) (by rw [C.sc]; exact f1) (by rw [C.sc]; exact f2)
  · rename_i es k p
    simp only [Bool.and_eq_true, decide_eq_true_eq] at h
    obtain ⟨h1, h2, h3⟩ := ckNames_ok C h.2
    have : gT X.K is = gTup X.K is.length (gNames is) := by
      unfold gT
      split
      · have := h.1
        simp at this
      · rfl
    rw [this]
    exact pg_tup (C.cl hsu) h1 h2 h3
  · cases h
theorem rg_step {i j : Int} {c : Nat} (ha : -(2 ^ 61) ≤ i) (ha' : i < 2 ^ 61) (hb : -(2 ^ 61) ≤ j) (hb' : j < 2 ^ 61) (hc : c < 1000000) : RgC i j ((c + 1 : Nat) : Int) (stepN i j (c + 1)) := by
  have c0 : ((c + 1 : Nat) : Int) > 0 := by omega
  have sz : Builtin.Range.rangeSize i j ((c + 1 : Nat) : Int) = (stepN i j (c + 1) : Nat) := by
    unfold Builtin.Range.rangeSize stepN
    rw [if_pos c0]
    split
    · have := Int.ediv_nonneg (a := j - i - 1) (b := ((c + 1 : Nat) : Int)) (by omega) (by omega)
      omega
    · rfl
  have le : (stepN i j (c + 1) : Int) ≤ 2 ^ 62 := by
    unfold stepN
    split
    · have := Int.ediv_nonneg (a := j - i - 1) (b := ((c + 1 : Nat) : Int)) (by omega) (by omega)
      have := Int.ediv_le_self (a := j - i - 1) ((c + 1 : Nat) : Int) (by omega)
      omega
    · decide
  refine ⟨by omega, by omega, ?_, sz⟩
  unfold Builtin.Range.small
  rw [sz]
  simp only [Builtin.Range.rangeFitsLong, Bool.and_eq_true, Bool.or_eq_true, decide_eq_true_eq, beq_iff_eq, c0, if_true]
  omega
theorem i_rng3 {tg a b c : Expr} {xa xb xc : Ex} {pos : Pos} {x : Str} {p : Pos} (hx : x = "range") (hg : Gl X x) (hm : X.mg x = none) (hs : noStar a = true) (hs2 : noStar b = true) (hs3 : noStar c = true) (ha : PA X [a, b, c] (RdA g xg Γ W [xa, xb, xc])) : PI X tg (.Call (.Name x p) [a, b, c] [] pos) (RdI g xg Γ W .rng3 [xa, xb, xc]) := by
  subst hx
  refine ⟨fun pins s σ H R I h => (pi_range3 hg hm ha (star_cons hs) (by rw [star_cons hs2, star_cons hs3]; rfl)).run pins s σ H R I ?_⟩
  refine RdI.args h fun ds vs its H1 S1 sz o e q => ?_
  unfold items at e
  split at e <;> first | (cases e; done) | skip
  all_goals first | (rename_i h1; cases h1; done) | skip
  · split at e
    · rename_i i j _ z
      obtain rfl := Option.some.inj e
      obtain ⟨v, us, rfl, o1, o2⟩ : ∃ v us, vs = v :: us ∧ Own g H1 S1 0 (.int i) v [] ∧ OwnL g H1 S1 0 [.int j, .int (-1)] us [] := by
        unfold OwnL at o
        obtain ⟨x, ys, B, C, rfl, e, h1, h2⟩ := o
        have e1 := h1.zero
        have e2 := h2.zero
        subst e1
        subst e2
        exact ⟨x, ys, rfl, h1, h2⟩
      obtain ⟨v2, v3, rfl, o2, o3⟩ := own2 o2
      rw [own_int_v o1, own_int_v o2, own_int_v o3]
      simp only [Bool.and_eq_true] at z
      have z1 := small_bd z.1
      have z2 := small_bd z.2
      refine ⟨i, j, -1, _, rfl, RgC.neg (by omega) (by omega) (by omega) (by omega), q _ ?_⟩
      have el : ((List.range (i - j).toNat).map fun k => PL.D.int (i - (k : Nat))).length = (i - j).toNat := by rw [List.length_map, List.length_range]
      refine ⟨fun _ => True, YFn fun k => .int (i + (k : Nat) * (-1)), by rw [el]; exact walk_rangeC, fun _ _ => trivial, fun k x H' H'' hi kz _ ⟨e1, e2⟩ => ?_⟩
      subst e1
      subst e2
      rw [el] at hi
      refine ⟨.int (i + (k : Nat) * (-1)), ?_, Ext.refl _, .inl own_int⟩
      rw [List.getElem?_map, List.getElem?_range hi]
      simp only [Option.map_some, Option.some.injEq, PL.D.int.injEq]
      omega
    · cases e
  · split at e
    · rename_i i j c _ z
      obtain rfl := Option.some.inj e
      obtain ⟨v, us, rfl, o1, o2⟩ : ∃ v us, vs = v :: us ∧ Own g H1 S1 0 (.int i) v [] ∧ OwnL g H1 S1 0 [.int j, .int ((c + 1 : Nat) : Int)] us [] := by
        unfold OwnL at o
        obtain ⟨x, ys, B, C, rfl, e, h1, h2⟩ := o
        have e1 := h1.zero
        have e2 := h2.zero
        subst e1
        subst e2
        exact ⟨x, ys, rfl, h1, h2⟩
      obtain ⟨v2, v3, rfl, o2, o3⟩ := own2 o2
      rw [own_int_v o1, own_int_v o2, own_int_v o3]
      simp only [Bool.and_eq_true, decide_eq_true_eq] at z
      have z1 := small_bd z.1.1
      have z2 := small_bd z.1.2
      refine ⟨i, j, ((c + 1 : Nat) : Int), _, rfl, rg_step z1.1 z1.2 z2.1 z2.2 z.2, q _ ?_⟩
      have el : ((List.range (stepN i j (c + 1))).map fun k => PL.D.int (i + (k : Nat) * ((c + 1 : Nat) : Int))).length = stepN i j (c + 1) := by rw [List.length_map, List.length_range]
      refine ⟨fun _ => True, YFn fun k => .int (i + (k : Nat) * ((c + 1 : Nat) : Int)), by rw [el]; exact walk_rangeC, fun _ _ => trivial, fun k x H' H'' hi kz _ ⟨e1, e2⟩ => ?_⟩
      subst e1
      subst e2
      rw [el] at hi
      refine ⟨.int (i + (k : Nat) * ((c + 1 : Nat) : Int)), ?_, Ext.refl _, .inl own_int⟩
      rw [List.getElem?_map, List.getElem?_range hi]
      rfl
    · cases e
theorem ckI_ok (C : Cok g xg Γ X W T o s) {f : Expr → Ex → Bool} (hf : ∀ e x, f e x = true → PE X e (RdE g xg Γ W x)) {tg iter : Expr} {k : SK} {args : List Ex} (h : ckI f T s tg iter k args = true) : PI X tg iter (RdI g xg Γ W k args) ∧ noSet iter = true := by
  unfold ckI at h
  simp only [Bool.and_eq_true] at h
  obtain ⟨h0, h⟩ := h
  refine ⟨?_, h0⟩
  cases k with
  | seq =>
    dsimp only at h
    split at h
    · exact i_seq C.hK C.hP (hf _ _ h)
    · cases h
  | rng1 =>
    dsimp only at h
    split at h
    · simp only [Bool.and_eq_true] at h
      obtain ⟨rfl, b1, b2, b3, b4⟩ := ckBlt_ok C h.1.1
      exact i_rng1 b1 b2 h.1.2 (hf _ _ h.2)
    · cases h
  | rng2 =>
    dsimp only at h
    split at h
    · simp only [Bool.and_eq_true] at h
      obtain ⟨⟨⟨⟨h1, h2⟩, h3⟩, h4⟩, h5⟩ := h
      obtain ⟨rfl, b1, b2, b3, b4⟩ := ckBlt_ok C h1
      exact i_rng2 b1 b2 h2 h3 (a_cons h2 (hf _ _ h4) (a_cons h3 (hf _ _ h5) a_nil))
    · cases h
  | rng3 =>
    dsimp only at h
    split at h
    · simp only [Bool.and_eq_true] at h
      obtain ⟨⟨⟨⟨⟨⟨h1, h2⟩, h3⟩, h4⟩, h5⟩, h6⟩, h7⟩ := h
      obtain ⟨rfl, b1, b2, b3, b4⟩ := ckBlt_ok C h1
      exact i_rng3 rfl b1 b2 h2 h3 h4 (a_cons h2 (hf _ _ h5) (a_cons h3 (hf _ _ h6) (a_cons h4 (hf _ _ h7) a_nil)))
    · cases h
  | enum =>
    dsimp only at h
    split at h
    · simp only [Bool.and_eq_true] at h
      obtain ⟨rfl, b1, b2, b3, b4⟩ := ckBlt_ok C h.1.1
      exact i_enum b1 b2 h.1.2 (hf _ _ h.2)
    · cases h
  | zip =>
    dsimp only at h
    split at h
    · simp only [Bool.and_eq_true] at h
      obtain ⟨⟨⟨⟨h1, h2⟩, h3⟩, h4⟩, h5⟩ := h
      obtain ⟨rfl, b1, b2, b3, b4⟩ := ckBlt_ok C h1
      exact i_zip C.hK b1 b2 h2 h3 (a_cons h2 (hf _ _ h4) (a_cons h3 (hf _ _ h5) a_nil))
    · cases h
  | ezip =>
    dsimp only at h
    split at h
    · simp only [Bool.and_eq_true] at h
      obtain ⟨⟨⟨⟨⟨h1, hz⟩, h2⟩, h3⟩, h4⟩, h5⟩ := h
      obtain ⟨rfl, b1, b2, b3, b4⟩ := ckBlt_ok C h1
      obtain ⟨rfl, c1, c2, c3, c4⟩ := ckBlt_ok C hz
      exact i_ez b1 b2 c1 c2 h2 h3 (a_cons h2 (hf _ _ h4) (a_cons h3 (hf _ _ h5) a_nil))
    · cases h
  | items =>
    dsimp only at h
    split at h
    · simp only [Bool.and_eq_true, decide_eq_true_eq] at h
      obtain ⟨⟨⟨rfl, h2⟩, h3⟩, h4⟩ := h
      exact i_items C.hP h2 h3 (hf _ _ h4)
    · cases h
theorem relS_local {sc o : Scope} {x : Str} {k : NameKind} (h : o.names.lookup x = some k) (hk : k ≠ .free) : (relS o sc).names.lookup x = some k := lookup_relS_keep hk h
/-- a block's surroundings -/
theorem Cok.blk (C : Cok g xg Γ X W T o s) (hsu : T.sui = false) (hcl : T.clo = false) (sh : Shared) (H : Hp) (scope : Scope) (A : Addr) (cl : List (Str × Addr)) (fp : List Addr) : Cok g xg Γ (X.blk sh H scope (compEnvC scope cl A X.env) fp) W0 T.inB scope (relS scope s) := by
  refine ⟨C.hKP, C.hu, C.cl, C.hN, C.nd, ?_, fun x h => ?_, takes0N, fun x k h => ?_, C.at_, C.inj, C.fo, fun x i h => ?_, C.ini, C.ex0, C.exc, (fun z => by rw [show T.inB.sui = T.sui from rfl, hsu] at z; cases z), ⟨fun a c dd z ⟨D, e⟩ => (by rw [C.exc hsu a c dd z, C.xv0] at e; cases e), C.xo.sb⟩, C.em, C.rz, C.xv0, C.xcl, C.gd, (fun z => nomatch z), (fun z => by rw [show T.inB.clo = T.clo from rfl, hcl] at z; cases z), (fun x i z => nomatch z)⟩
  · show relabel scope X.env = _
    rw [← C.sc]
    rfl
  · rcases locB_ok h with h | h
    · exact ⟨.inl (relS_local h (by decide)), .inr (relS_local h (by decide))⟩
    · exact ⟨.inr (relS_local h (by decide)), .inl (by show (scope.names.lookup x == some .cell) = true; rw [h]; rfl)⟩
  · have := C.gf x k h
    cases k with
    | fn i => exact ⟨this.is⟩
    | hfn i => exact ⟨this.is⟩
    | gfn i => exact ⟨this.is⟩
    | cls c => exact ⟨this.is⟩
    | con k => exact this
    | non => exact this
    | exc c => exact this
    | hof i kk => exact ⟨this.is⟩
    | dead => exact this
  · obtain ⟨h1, h2⟩ := C.me x i h
    exact ⟨fun c hc => ⟨(h1 c hc).is⟩, h2⟩
/-- .. a try's body's -/
theorem Cok.tr (C : Cok g xg Γ X W T o s) (hsu : T.sui = false) {W' : WX} {pn : List (Addr × Obj)} {xe : Value → Shared → Prop} (tk : L2N.Takes (X.tr pn xe) W') : Cok g xg Γ (X.tr pn xe) W' T o s := by
  refine ⟨C.hKP, C.hu, C.cl, C.hN, C.nd, C.sc, C.fn, tk, fun x k h => ?_, C.at_, C.inj, C.fo, fun x i h => ?_, C.ini, C.ex0, C.exc, (fun z => by rw [hsu] at z; cases z), ⟨fun a c dd z ⟨D, e⟩ => (by rw [C.exc hsu a c dd z, C.xv0] at e; cases e), C.xo.sb⟩, C.em, C.rz, C.xv0, C.xcl, C.gd, (fun z => ⟨(C.lam z).ex, (C.lam z).fn, (C.lam z).pl⟩), (fun z => C.clo z), (fun x i h => let ⟨h1, h2⟩ := C.mu x i h; ⟨fun c hc => ⟨(h1 c hc).is⟩, h2⟩)⟩
  · have := C.gf x k h
    cases k with
    | fn i => exact ⟨this.is⟩
    | hfn i => exact ⟨this.is⟩
    | gfn i => exact ⟨this.is⟩
    | cls c => exact ⟨this.is⟩
    | con k => exact this
    | non => exact this
    | exc c => exact this
    | hof i kk => exact ⟨this.is⟩
    | dead => exact this
  · obtain ⟨h1, h2⟩ := C.me x i h
    exact ⟨fun c hc => ⟨(h1 c hc).is⟩, h2⟩
/-- .. an except suite's -/
theorem Cok.suite (C : Cok g xg Γ X W T o s) (hsu : T.sui = false) (hcl : T.clo = false) {a : Addr} {oe : Obj} {k : Nat} {d : Option Addr} {pn : List (Addr × Obj)} (hk : ∃ C, xg.XV k = .ref C ∧ ExK X.K C) (hz : L2N.Zn (xg.XV k) d oe) (hf : ∃ vs, oe.data = .fields vs) :
    Cok (g.exA (some (a, k, d))) xg Γ (X.suite a ((a, oe) :: pn)) W0 T.suiT o s := by
  obtain ⟨D, eD, hD⟩ := hk
  refine ⟨C.hKP, C.hu, (fun z => nomatch z), C.hN, C.nd, C.sc, C.fn, takes0N, fun x q h => ?_, C.at_, C.inj, C.fo, (fun x i h => nomatch h), C.ini, (fun z => nomatch z), (fun z => nomatch z), fun _ => ⟨a, k, d, D, rfl, eD, hD⟩, ⟨fun a' c' dd' z _ => ?_, C.xo.sb⟩, C.em, C.rz, C.xv0, C.xcl, C.gd, (fun z => nomatch z), (fun z => nomatch z), (fun x i z => nomatch z)⟩
  · obtain ⟨k0, h0, rfl⟩ := look_map h
    have := C.gf x k0 h0
    cases k0 with
    | fn i => exact True.intro
    | gfn i => exact True.intro
    | hfn i =>
      obtain ⟨f, fd, ps, k', F, hr, r⟩ := this.is
      exact ⟨f, fd, ps, k', F, ⟨hr.dp, hr.un⟩, r⟩
    | cls c => exact True.intro
    | con k =>
      obtain ⟨v, u, h1, h2, h3⟩ := this
      exact ⟨v, u, h1, h2, fun H S => (h3 H S).exa_ (C.ex0 hsu hcl).1⟩
    | non => exact this
    | exc c => exact this
    | hof i kk => exact True.intro
    | dead => exact True.intro
  · cases z
    exact ⟨oe, List.mem_cons_self, hz, hf, rfl⟩
theorem ckNames_inB {o : Scope} : ∀ {es : List Expr} {is : List Nat}, ckNames T.inB o es is = ckNames T o es is
  | [], [] => rfl
  | [], _ :: _ => rfl
  | _ :: _, [] => rfl
  | e :: es, i :: is => by
    unfold ckNames
    rw [ckNames_inB (es := es) (is := is)]
    rfl
theorem ckTg_inB {o : Scope} {e : Expr} {is : List Nat} : ckTg T.inB o e is = ckTg T o e is := by
  unfold ckTg
  split
  · rfl
  · rw [ckNames_inB]
  · rfl
/-- a comprehension's parts -/
theorem ckPr {T : Tab} {f : Expr → Ex → Bool} {o s : Scope} {tg iter : Expr} {k : SK} {args : List Ex} {is : List Nat} (h1 : ckI f T s tg iter k args = true) (h2 : ckTg T o tg is = true) : k.isPr = true → 2 ≤ is.length := fun hp => by
  have key : ∀ e, ckTg T o e is = true → (∃ a b c, e = .Tuple a b c) → 2 ≤ is.length := fun e h ⟨a, b, c, q⟩ => by
    subst q
    unfold ckTg at h
    simp only [Bool.and_eq_true, decide_eq_true_eq] at h
    exact h.1
  refine key tg h2 ?_
  unfold ckI at h1
  cases k <;> first | (cases hp; done) | skip
  all_goals (simp only [Bool.and_eq_true] at h1)
  all_goals first | (exact absurd h1.2 Bool.false_ne_true) | (revert h1; split <;> intro h1)
  all_goals first | (exact ⟨_, _, _, rfl⟩) | (exact absurd h1.2 (by simp))
theorem ckComp_ok (C : Cok g xg Γ X W T o s) (hsu : T.sui = false) (hcl : T.clo = false) {f fb : Expr → Ex → Bool} (hf : ∀ e x, f e x = true → PE X e (RdE g xg Γ W x)) {elt tg iter : Expr} {ifs : List Expr} {isa : Int} {scope : Scope} {x : Ex}
    (hb : ∀ (sh : Shared) (H : Hp) (A : Addr) (cl : List (Str × Addr)) (fp : List Addr) e x, fb e x = true → PE (X.blk sh H scope (compEnvC scope cl A X.env) fp) e (RdE g xg Γ W0 x) ∧ (notIf e = true → PT (X.blk sh H scope (compEnvC scope cl A X.env) fp) e (RdT g xg Γ W0 x)))
    (h : ckComp f fb T s elt tg iter ifs isa scope x = true) : isa = 0 ∧ noSet iter = true ∧
    ((∃ k args is xelt own, x = .comp k args is xelt ∧ ifs = [] ∧ ((k.isPr = true → 2 ≤ is.length) ∧ PI X tg iter (RdI g xg Γ W k args)) ∧ BlkOk X.N X.env.scope scope own ∧ own.map (·.2) = is ∧
      (∀ (s : Shared) (H : Hp) (C : Addr) (cl : List (Str × Addr)) (fp : List Addr), PG (X.blk s H scope (compEnvC scope cl C X.env) fp) tg (gT X.K is)) ∧
      (∀ (s : Shared) (H : Hp) (C : Addr) (cl : List (Str × Addr)) (fp : List Addr), PE (X.blk s H scope (compEnvC scope cl C X.env) fp) elt (RdE g xg Γ W0 xelt))) ∨
     (∃ k args is xelt xcnd cnd own, x = .compIf k args is xelt xcnd ∧ ifs = [cnd] ∧ ((k.isPr = true → 2 ≤ is.length) ∧ PI X tg iter (RdI g xg Γ W k args)) ∧ BlkOk X.N X.env.scope scope own ∧ own.map (·.2) = is ∧
      (∀ (s : Shared) (H : Hp) (C : Addr) (cl : List (Str × Addr)) (fp : List Addr), PG (X.blk s H scope (compEnvC scope cl C X.env) fp) tg (gT X.K is)) ∧
      (∀ (s : Shared) (H : Hp) (C : Addr) (cl : List (Str × Addr)) (fp : List Addr), PT (X.blk s H scope (compEnvC scope cl C X.env) fp) cnd (RdT g xg Γ W0 xcnd)) ∧
      (∀ (s : Shared) (H : Hp) (C : Addr) (cl : List (Str × Addr)) (fp : List Addr), PE (X.blk s H scope (compEnvC scope cl C X.env) fp) elt (RdE g xg Γ W0 xelt)))) := by
  unfold ckComp at h
  simp only [Bool.and_eq_true, decide_eq_true_eq] at h
  obtain ⟨h0, h⟩ := h
  split at h
  · rename_i k args is xelt
    split at h
    · simp only [Bool.and_eq_true, decide_eq_true_eq] at h
      obtain ⟨⟨⟨⟨h1, h2⟩, h3⟩, h4⟩, h5⟩ := h
      obtain ⟨i1, i2⟩ := ckI_ok C hf h1
      exact ⟨h0, i2, .inl ⟨k, args, is, xelt, _, rfl, rfl, ⟨ckPr h1 h2, i1⟩, blkOk_by (by rw [C.hN, C.sc]; exact h4), h3, fun sh H A cl fp => ckTg_ok (C.blk hsu hcl sh H scope A cl fp) hsu (by rw [ckTg_inB]; exact h2), fun sh H A cl fp => (hb sh H A cl fp _ _ h5).1⟩⟩
    · cases h
  · rename_i k args is xelt xcnd
    split at h
    · rename_i c
      simp only [Bool.and_eq_true, decide_eq_true_eq] at h
      obtain ⟨⟨⟨⟨⟨⟨h1, h2⟩, h3⟩, h4⟩, h5⟩, h6⟩, h7⟩ := h
      obtain ⟨i1, i2⟩ := ckI_ok C hf h1
      exact ⟨h0, i2, .inr ⟨k, args, is, xelt, xcnd, c, _, rfl, rfl, ⟨ckPr h1 h2, i1⟩, blkOk_by (by rw [C.hN, C.sc]; exact h4), h3, fun sh H A cl fp => ckTg_ok (C.blk hsu hcl sh H scope A cl fp) hsu (by rw [ckTg_inB]; exact h2), fun sh H A cl fp => (hb sh H A cl fp _ _ h7).2 h6, fun sh H A cl fp => (hb sh H A cl fp _ _ h5).1⟩⟩
    · cases h
  · cases h
end
end PL
namespace PL
open PySem L2 PyProof.Rows
section
variable {g : G} {xg : XG} {Γ : Fe}
/-- what a passed test gives -/
structure Ck (g : G) (xg : XG) (Γ : Fe) (X : Cx) (W : WX) (e : Expr) (x : Ex) : Prop where
  pe : PE X e (RdE g xg Γ W x)
  pt : notIf e = true → PT X e (RdT g xg Γ W x)
  pw : ∀ op vs p, e = .BoolOp op vs p → PW X e (RdT g xg Γ W x)
theorem Ck.leaf {X : Cx} {W : WX} {e : Expr} {x : Ex} (hK : g.K = X.K) (h : PE X e (RdE g xg Γ W x)) (hl : isLeaf e = true) : Ck g xg Γ X W e x := ⟨h, fun _ => t_leaf hK hl h, fun op vs p q => by subst q; cases hl⟩
theorem Ck.bool {X : Cx} {W : WX} {op : BoolOp} {vs : List Expr} {p : Pos} {x : Ex} (h : PE X (.BoolOp op vs p) (RdE g xg Γ W x)) (hw : PW X (.BoolOp op vs p) (RdT g xg Γ W x)) : Ck g xg Γ X W (.BoolOp op vs p) x :=
  ⟨h, fun _ => ⟨fun pins s σ H Q I q => hw.run _ pins s σ H Q I q⟩, fun _ _ _ _ => hw⟩
theorem Ck.dead {X : Cx} {W : WX} {e : Expr} : Ck g xg Γ X W e .dead := by
  have k : ∀ {σ : L2.St} {H : Hp} {Q : VK}, RdE g xg Γ W .dead σ H Q → False := fun ⟨S, δ, _, h⟩ => by unfold evE at h; exact h
  have kt : ∀ {σ : L2.St} {H : Hp} {Q : Bool → Hp → Prop}, RdT g xg Γ W .dead σ H Q → False := fun ⟨S, δ, _, h⟩ => by unfold evT evE at h; exact h
  exact ⟨⟨fun pins s σ H Q I h => (k h).elim⟩, fun _ => ⟨fun pins s σ H Q I h => (kt h).elim⟩, fun op vs p _ => ⟨fun wh pins s σ H Q I h => (kt h).elim⟩⟩
theorem isDead_eq {x : Ex} (h : x.isDead = true) : x = .dead := by cases x <;> first | rfl | cases h
theorem ckE_ok : ∀ (n : Nat) (T : Tab) (o s : Scope) (e : Expr) (x : Ex) (X : Cx) (W : WX), Cok g xg Γ X W T o s → ckE n T o s e x = true → Ck g xg Γ X W e x
  | 0, _, _, _, _, _, _, _, _, h => by cases h
  | n + 1, T, o, s, e, x, X, W, C, h => by
    have ih : ∀ e x, ckE n T o s e x = true → Ck g xg Γ X W e x := fun e x h => ckE_ok n T o s e x X W C h
    have ihE : ∀ e x, ckE n T o s e x = true → PE X e (RdE g xg Γ W x) := fun e x h => (ih e x h).pe
    have hK := C.hK
    have hu := C.hu
    unfold ckE at h
    split at h
    · rename_i hd
      rw [isDead_eq hd]
      exact Ck.dead
    rename_i hd0
    clear hd0
    split at h
    · -- Name
      split at h
      · obtain ⟨h1, h2, h3, h4⟩ := ckVar_ok C h
        exact .leaf hK (e_var h1 h2 h3 h4) rfl
      · obtain ⟨h1, h2, v, u, h3, h4, h5⟩ := ckGl_ok C h
        exact .leaf hK (e_glo h1 h3 h4 h2 h5) rfl
      · cases h
    · split at h
      · have := of_decide_eq_true h; subst this; exact .leaf hK e_con_int rfl
      · cases h
    · split at h
      · have := of_decide_eq_true h; subst this; exact .leaf hK e_con_bl rfl
      · cases h
    · split at h
      · have := of_decide_eq_true h; subst this; exact .leaf hK e_con_str rfl
      · cases h
    · split at h
      · exact .leaf hK e_con_non rfl
      · cases h
    · -- BoolOp [a]
      simp only [Bool.and_eq_true] at h
      have k := ih _ _ h.2
      rename_i op a p
      refine .bool (e_one k.pe) ?_
      cases op with
      | And => exact pw_and1 (k.pt h.1)
      | Or => exact pw_or1 (k.pt h.1)
    · split at h
      · simp only [Bool.and_eq_true] at h
        have k1 := ih _ _ h.1.2
        have k2 := ih _ _ h.2
        exact .bool (e_and k1.pe k2.pe) (t_and (k1.pt h.1.1) (k2.pw _ _ _ rfl))
      · cases h
    · split at h
      · simp only [Bool.and_eq_true] at h
        have k1 := ih _ _ h.1.2
        have k2 := ih _ _ h.2
        exact .bool (e_or k1.pe k2.pe) (t_or (k1.pt h.1.1) (k2.pw _ _ _ rfl))
      · cases h
    · split at h
      · simp only [Bool.and_eq_true] at h
        have := opB_eq h.1.1
        subst this
        exact .leaf hK (e_bin hK _ (ihE _ _ h.1.2) (ihE _ _ h.2)) rfl
      · cases h
    · split at h
      · exact .leaf hK (e_neg (ihE _ _ h)) rfl
      · cases h
    · split at h
      · simp only [Bool.and_eq_true] at h
        have k := ih _ _ h.2
        exact ⟨e_not k.pe, fun _ => t_not (k.pt h.1), fun _ _ _ q => by cases q⟩
      · cases h
    · split at h
      · simp only [Bool.and_eq_true] at h
        have := opC_eq h.1.1.1
        subst this
        exact ⟨e_cmp hK C.hP hu _ h.1.1.2 (ihE _ _ h.1.2) (ihE _ _ h.2), fun _ => t_cmp hK C.hP hu _ h.1.1.2 (ihE _ _ h.1.2) (ihE _ _ h.2), fun _ _ _ q => by cases q⟩
      · cases h
    · split at h
      · simp only [Bool.and_eq_true] at h
        obtain ⟨⟨⟨⟨⟨h1, h2⟩, h3⟩, h4⟩, h5⟩, h6⟩ := h
        have := opC_eq h1
        subst this
        have := opC_eq h2
        subst this
        exact ⟨e_cmp2 hK C.hP hu _ _ h3 (ihE _ _ h4) (ihE _ _ h5) (ihE _ _ h6), fun _ => t_cmp2 hK C.hP hu _ _ h3 (ihE _ _ h4) (ihE _ _ h5) (ihE _ _ h6), fun _ _ _ q => by cases q⟩
      · cases h
    · split at h
      · simp only [Bool.and_eq_true] at h
        exact ⟨e_ife ((ih _ _ h.1.1.2).pt h.1.1.1) (ihE _ _ h.1.2) (ihE _ _ h.2), fun q => Bool.noConfusion q, fun _ _ _ q => by cases q⟩
      · cases h
    · -- slice
      split at h
      · simp only [Bool.and_eq_true] at h
        exact .leaf hK (e_sl hK (ihE _ _ h.1.1) (ckOpt_ok ihE h.1.2) (ckOpt_ok ihE h.2)) rfl
      · cases h
    · split at h
      · simp only [Bool.and_eq_true] at h
        exact .leaf hK (e_ix hK C.hP hu h.1.1 (ihE _ _ h.1.2) (ihE _ _ h.2)) rfl
      · cases h
    · split at h
      · exact .leaf hK (e_lst (ckList_ok ihE h).1) rfl
      · cases h
    · split at h
      · exact .leaf hK (e_tup (ckList_ok ihE h).1) rfl
      · cases h
    · split at h
      · simp only [Bool.and_eq_true] at h
        obtain ⟨a1, a2, a3⟩ := ckList_ok ihE h.2
        rcases Bool.or_eq_true_iff.mp h.1 with h4 | h4
        rcases Bool.or_eq_true_iff.mp h4 with h4 | h4
        · obtain ⟨h1, h2, h3⟩ := ckGl_ok C h4
          exact .leaf hK (e_call C.tk h3 h1 h2 a2 a3 a1) rfl
        · simp only [Bool.and_eq_true, Bool.not_eq_true'] at h4
          obtain ⟨h1, h2, h3⟩ := ckGl_ok C h4.2
          obtain ⟨a0, c0, dd0, C0, x1, x2, x3⟩ := C.ex1 h4.1.1
          exact .leaf hK (e_callH hK C.xo x1 ⟨C0, x2, x3⟩ C.tk h3 h1 h2 a2 h4.1.2 a1) rfl
        · simp only [Bool.and_eq_true, Bool.not_eq_true'] at h4
          obtain ⟨h1, h2, h3⟩ := ckGl_ok C h4.2
          exact .leaf hK (e_callG (C.gd h4.1.1) C.tk h3 h1 h2 a2 h4.1.2 a1) rfl
      · rename_i b xs
        simp only [Bool.and_eq_true] at h
        obtain ⟨⟨⟨⟨hsu, hgd⟩, h1⟩, h2⟩, h3⟩ := h
        have hsu' : b.calmy = true → X.calm = true := fun z => C.cl (by
          rw [z] at hsu
          simpa using hsu)
        have hgd' : b = .reprL → X.A.guards = some [] := fun z => C.gd (by
          subst z
          simpa using hgd)
        obtain ⟨rfl, b1, b2, b3, b4⟩ := ckBlt_ok C h1
        obtain ⟨a1, a2, a3⟩ := ckList_ok ihE h3
        clear h3
        revert h2 a1 a2
        rename_i es _ _
        cases es with
        | nil => intro h2; cases h2
        | cons e es => intro h2 a1 a2; exact .leaf hK (e_bi (y := .omit) hK C.hP b hsu' C.hu hgd' b1 b2 b.boot b4 b3 a2 a1) rfl
      · split at h
        · simp only [Bool.and_eq_true] at h
          obtain ⟨⟨⟨h1, h2⟩, h3⟩, h4⟩ := h
          obtain ⟨rfl, b1, b2, b3, b4⟩ := ckBlt_ok C h1
          obtain ⟨rfl, c1, c2, c3, c4⟩ := ckBlt_ok C h2
          exact .leaf hK (e_isi hK C.hP _ b1 b2 isi_boot b4 b3 c1 c2 (Ty.boot _) c4 c3 h3 (ihE _ _ h4)) rfl
        · cases h
      · cases h
    · -- a comprehension
      rename_i elt tg iter ifs isa scope pos
      simp only [Bool.and_eq_true, Bool.not_eq_true'] at h
      obtain ⟨⟨hsu, hcl⟩, h⟩ := h
      have hb : ∀ (sh : Shared) (H : Hp) (A : Addr) (cl : List (Str × Addr)) (fp : List Addr) e x, ckE n T.inB scope (relS scope s) e x = true → Ck g xg Γ (X.blk sh H scope (compEnvC scope cl A X.env) fp) W0 e x := fun sh H A cl fp e x h => ckE_ok n T.inB _ _ e x _ W0 (C.blk hsu hcl sh H scope A cl fp) h
      obtain ⟨rfl, hs, hh⟩ := ckComp_ok C hsu hcl (fb := ckE n T.inB scope (relS scope s)) ihE (fun sh H A cl fp e x h => ⟨(hb sh H A cl fp e x h).pe, (hb sh H A cl fp e x h).pt⟩) h
      rcases hh with ⟨k, args, is, xelt, own, rfl, rfl, i1, bo, e0, hg, he⟩ | ⟨k, args, is, xelt, xcnd, cnd, own, rfl, rfl, i1, bo, e0, hg, ht, he⟩
      · exact .leaf hK (e_comp hK (C.cl hsu) (by rw [C.hN]; exact C.nd) i1 bo e0 hg he hs) rfl
      · exact .leaf hK (e_compIf hK (C.cl hsu) (by rw [C.hN]; exact C.nd) i1 bo e0 hg ht he hs) rfl
    · cases h
end
end PL
namespace PL
open PySem L2 PyProof.Rows
def swNames (s : Scope) (ts : List Expr) : List Str := ts.filterMap fun
  | .Name id pos => if s.names.lookup id == some .local && pos.line == (ts.head?.map (·.pos.line)).getD 0 then some id else none
  | _ => none
def swRes (s : Scope) (ts : List Expr) (e : Expr) : Option (Option (List Str)) := match e with
  | .Tuple vs _ _ =>
    if !(ts.length == 2 || ts.length == 3) || vs.length != ts.length then some none
    else if vs.any (fun | .Starred .. => true | _ => false) then some none
    else if (swNames s ts).length != ts.length || (swNames s ts).eraseDups.length != (swNames s ts).length then some none
    else if vs.all (foldedForSure 8) then some none
    else if vs.all (constantsAlone 8) then none
    else some (some (swNames s ts))
  | _ => some none
theorem blockFn {env : PySem.Env} (hk : env.scope.kind = .function) : env.blockKind = .function := by unfold Env.blockKind; rw [hk]; rfl
theorem swRes_ok {env : PySem.Env} {ts : List Expr} {e : Expr} {r : Option (List Str)} {k : Nat} {p : Pos} (hk : env.scope.kind = .function) (h : swRes env.scope ts e = some r) : swappedStores [.Tuple ts k p] e env = pure r := by
  have hb := blockFn hk
  unfold swRes at h
  split at h
  · rename_i vs k2 p2
    unfold swappedStores
    dsimp only
    rw [hb]
    split at h
    · rename_i c1
      cases h
      rw [if_pos (by rw [c1]; rfl)]
    · rename_i c1
      rw [if_neg (by simpa using c1)]
      split at h
      · rename_i c2
        cases h
        exact if_pos c2
      · rename_i c2
        refine (if_neg c2).trans ?_
        split at h
        · rename_i c3
          cases h
          exact if_pos c3
        · rename_i c3
          refine (if_neg c3).trans ?_
          split at h
          · rename_i c4
            cases h
            rw [if_pos c4]
          · rename_i c4
            rw [if_neg c4]
            split at h
            · cases h
            · rename_i c5
              cases h
              rw [if_neg c5]
              rfl
  · rename_i hne
    cases h
    unfold swappedStores
    cases e <;> first | rfl | exact absurd rfl (hne _ _ _)

def swB (s : Scope) (y : Str) (py pos : Pos) (scope : Scope) : Bool := s.names.lookup y == some .local && py.line == pos.line && !(scope.names.any fun (n, k) => n == y && (k == .local || k == .cell))
theorem swB_ok {env : PySem.Env} {elt : Expr} {gs : List Comprehension} {scope : Scope} {pos py : Pos} {y : Str} {l : Nat} (hk : env.scope.kind = .function) : swapsWith (.ListComp elt gs scope pos) (some (.Name y py)) l env = pure (swB env.scope y py pos scope) := by
  have hb := blockFn hk
  show (pure (env.blockKind == .function && env.kindOf y == some .local && py.line == pos.line && !(scope.names.any fun (n, k) => n == y && (k == .local || k == .cell))) : Sem Bool) = _
  rw [hb]
  rfl
/-- slot i may be stored to -/
def freB (T : Tab) (i : Nat) : Bool := !T.ini || decide (i ≠ 0)
theorem freB_ok {g : G} {xg : XG} {Γ : Fe} {X : Cx} {W : WX} {T : Tab} {o s : Scope} (C : Cok g xg Γ X W T o s) {i : Nat} (h : freB T i = true) : Fre g i := by
  intro w hw
  unfold freB at h
  cases e : T.ini with
  | false => rw [C.ini e] at hw; cases hw
  | true => rw [e] at h; simpa using h
theorem freBs_ok {g : G} {xg : XG} {Γ : Fe} {X : Cx} {W : WX} {T : Tab} {o s : Scope} (C : Cok g xg Γ X W T o s) {is : List Nat} (h : is.all (freB T) = true) : ∀ i ∈ is, Fre g i := fun i hi => freB_ok C (List.all_eq_true.mp h i hi)
def ckB (f : Stmt → PL.St → Bool) : List Stmt → List PL.St → Bool
  | [], [] => true
  | s :: ss, x :: xs => f s x && ckB f ss xs
  | _, _ => false
/-- a path; ps from its end -/
def ckPath (f : Expr → Ex → Bool) (T : Tab) (s : Scope) (j : Nat) : List Pa → Expr → Bool
  | [], e => (match e with | .Name x _ => ckVar T s x j | _ => false)
  | p :: ps, e => (match e, p with
    | .Subscript o i _, .ix xi => noSlice i && f i xi && ckPath f T s j ps o
    | _, _ => false)
def ckNms (T : Tab) (s : Scope) : List Expr → List Nat → Bool
  | [], [] => true
  | e :: es, i :: is => (match e with | .Name x _ => ckVar T s x i | _ => false) && ckNms T s es is
  | _, _ => false
def isDeadS : PL.St → Bool
  | .dead => true
  | _ => false
def ckS : Nat → Tab → Scope → Stmt → PL.St → Bool
  | 0, _, _, _, _ => false
  | n + 1, T, s, st, x => if isDeadS x then true else match st with
    | .Assign [.Name id p2] e _ => (match x with
      | .asg i xe _ => freB T i && decide (T.N[i]? = some id) && locB s id && (match e with
        | .ListComp elt [⟨tg, iter, ifs, isa⟩] scope cpos => if swB s id p2 cpos scope then !T.sui && !T.clo && ckComp (ckE n T s s) (ckE n T.inB scope (relS scope s)) T s elt tg iter ifs isa scope xe else ckE n T s s e xe
        | e => noComp e && ckE n T s s e xe)
      | _ => false)
    | .Assign [.Tuple es _ _] e _ => (match x with
      | .asgs is xe _ => !T.sui && is.all (freB T) && ckNames T s es is && decide (swRes s es e = some none) && ckE n T s s e xe
      | _ => false)
    | .Assign [.Subscript o i _] e _ => (match x with
      | .setp j ps xi xe _ => noComp e && noSlice i && ckPath (ckE n T s s) T s j ps.reverse o && ckE n T s s i xi && ckE n T s s e xe
      | _ => false)
    | .Return none _ => (match x with | .retN => true | _ => false)
    | .Return (some e) _ => (match x with
      | .ret xe => ckE n T s s e xe
      | .retv i => (match e with | .Name id _ => ckVar T s id i | _ => false)
      | .rett is => (match e with | .Tuple es _ _ => ckNms T s es is | _ => false)
      | _ => false)
    | .If c bs cs _ => (match x with | .ife xc xs ys => notIf c && ckE n T s s c xc && ckB (ckS n T s) bs xs && ckB (ckS n T s) cs ys | _ => false)
    | .While c bs [] _ => (match x with | .whl xc xs => !T.sui && notIf c && ckE n T s s c xc && ckB (ckS n T s) bs xs | _ => false)
    | .For tg iter bs [] _ => (match x with
      | .fo k args is _ _ ys => !T.sui && is.all (freB T) && ckI (ckE n T s s) T s tg iter k args && ckTg T s tg is && ckB (ckS n T s) bs ys
      | _ => false)
    | .Expr e _ => (match x with
      | .pass => (match e with | .Constant (.str _) _ _ => true | _ => false)
      | .ex xe => noComp e && ckE n T s s e xe
      | .app j ps xe _ => (match e with
        | .Call (.Attribute o nm apos) [a] [] cpos => decide (nm = "append") && noSuper o && noStar a && (apos.endLine == cpos.line) && ckPath (ckE n T s s) T s j ps.reverse o && ckE n T s s a xe
        | _ => false)
      | .ext j ps xe => (match e with
        | .Call (.Attribute o nm apos) [a] [] cpos => decide (nm = "extend") && noSuper o && noStar a && (apos.endLine == cpos.line) && ckPath (ckE n T s s) T s j ps.reverse o && ckE n T s s a xe
        | _ => false)
      | _ => false)
    | .AugAssign (.Name id _) op e _ => (match x with
      | .aug i xe => freB T i && opB op .add && decide (T.N[i]? = some id) && locB s id && ckE n T s s e xe
      | _ => false)
    | .Pass _ => (match x with | .pass => true | _ => false)
    | .Break _ => (match x with | .brk => true | _ => false)
    | .Continue _ => (match x with | .cont => true | _ => false)
    | _ => false
section
variable {g : G} {xg : XG} {Γ : Fe}
theorem ckB_ok {X : Cx} {W : WX} {f : Stmt → PL.St → Bool} (hf : ∀ s x, f s x = true → PS X s (RdS g xg Γ W x)) : ∀ {ss : List Stmt} {xs : List PL.St}, ckB f ss xs = true → PSs X ss (RdB g xg Γ W xs)
  | [], [], _ => b_nil
  | [], _ :: _, h => by cases h
  | _ :: _, [], h => by cases h
  | s :: ss, x :: xs, h => by
    unfold ckB at h
    simp only [Bool.and_eq_true] at h
    exact b_cons (hf _ _ h.1) (ckB_ok hf h.2)
theorem ckPath_ok {X : Cx} {W : WX} {T : Tab} {o s : Scope} {f : Expr → Ex → Bool} {j : Nat} (C : Cok g xg Γ X W T o s) (hf : ∀ e x, f e x = true → PE X e (RdE g xg Γ W x)) : ∀ {ps : List Pa} {e : Expr}, ckPath f T s j ps e = true → PE X e (RdP g Γ j ps.reverse)
  | [], e, h => by
    unfold ckPath at h
    split at h
    · obtain ⟨h1, h2, h3, h4⟩ := ckVar_ok C h
      exact p_var h1 h2 h3 h4
    · cases h
  | p :: ps, e, h => by
    unfold ckPath at h
    split at h
    · simp only [Bool.and_eq_true] at h
      rw [List.reverse_cons]
      exact p_ix C.hK h.1.1 (ckPath_ok C hf h.2) (hf _ _ h.1.2)
    · cases h
theorem ckNms_ok {X : Cx} {W : WX} {T : Tab} {o s : Scope} (C : Cok g xg Γ X W T o s) : ∀ {es : List Expr} {is : List Nat}, ckNms T s es is = true → NmsAt X.N X.env es is
  | [], [], _ => .nil
  | [], _ :: _, h => by cases h
  | _ :: _, [], h => by cases h
  | e :: es, i :: is, h => by
    unfold ckNms at h
    simp only [Bool.and_eq_true] at h
    obtain ⟨h0, h⟩ := h
    split at h0
    · obtain ⟨h1, h2, h3, h4⟩ := ckVar_ok C h0
      exact .cons h1 h2 h3 h4 (ckNms_ok C h)
    · cases h0
theorem ckS_ok : ∀ (n : Nat) (g : G) (T : Tab) (s : Scope) (st : Stmt) (x : PL.St) (X : Cx) (W : WX), Cok g xg Γ X W T s s → (T.sui = false → PassesOwn (model X.prog X.w) X.A X.env X.xe) → (T.sui = false → ∀ c, Γ.ra c = true → (∃ C, xg.XV c = .ref C ∧ RaK X.K X.mg C) ∧ Room 3 X.A) → X.stack = X.env :: X.outer → X.env.frame = some X.env.locals → s.kind = .function → ckS n T s st x = true → PS X st (RdS g xg Γ W x)
  | 0, _, _, _, _, _, _, _, _, _, _, _, _, _, h => by cases h
  | n + 1, g, T, s, st, x, X, W, C, hp, hra, hst, hfr, hk, h => by
    have ihE : ∀ e x, ckE n T s s e x = true → PE X e (RdE g xg Γ W x) := fun e x h => (ckE_ok n T s s e x X W C h).pe
    have ihT : ∀ e x, notIf e = true → ckE n T s s e x = true → PT X e (RdT g xg Γ W x) := fun e x h1 h => (ckE_ok n T s s e x X W C h).pt h1
    have ihS : ∀ st x, ckS n T s st x = true → PS X st (RdS g xg Γ W x) := fun st x h => ckS_ok n g T s st x X W C hp hra hst hfr hk h
    have hK := C.hK
    have hN : X.N.Nodup := by rw [C.hN]; exact C.nd
    have hsc := C.sc
    unfold ckS at h
    split at h
    · rename_i hd
      have : x = .dead := by cases x <;> first | rfl | cases hd
      subst this
      exact ⟨fun pins s σ H D I h => by
        obtain ⟨ρ, S, As, _, h⟩ := h
        unfold exS at h
        exact h.elim⟩
    rename_i hd0
    clear hd0
    split at h
    · -- name = e
      rename_i id p2 e pos
      split at h
      · simp only [Bool.and_eq_true, decide_eq_true_eq] at h
        obtain ⟨⟨⟨hz, h1⟩, h2⟩, h3⟩ := h
        replace hz := freB_ok C hz
        obtain ⟨f1, f2⟩ := C.fn _ h2
        rw [← C.hN] at h1
        rw [← hsc] at f1 f2
        split at h3
        · rename_i elt tg iter ifs isa scope cpos
          split at h3
          · rename_i hsw
            simp only [Bool.and_eq_true, Bool.not_eq_true'] at h3
            obtain ⟨⟨hsu, hcl⟩, h3⟩ := h3
            have hb : ∀ (sh : Shared) (H : Hp) (A : Addr) (cl : List (Str × Addr)) (fp : List Addr) e x, ckE n T.inB scope (relS scope s) e x = true → Ck g xg Γ (X.blk sh H scope (compEnvC scope cl A X.env) fp) W0 e x := fun sh H A cl fp e x h => ckE_ok n T.inB _ _ e x _ W0 (C.blk hsu hcl sh H scope A cl fp) h
            obtain ⟨rfl, hs, hh⟩ := ckComp_ok C hsu hcl (fb := ckE n T.inB scope (relS scope s)) ihE (fun sh H A cl fp e x h => ⟨(hb sh H A cl fp e x h).pe, (hb sh H A cl fp e x h).pt⟩) h3
            have hyl := hsw
            unfold swB at hyl
            simp only [Bool.and_eq_true, beq_iff_eq] at hyl
            replace hyl := hyl.1.1
            have hsw2 : ∀ (elt : Expr) (gs : List Comprehension) (l : Nat), (swapsWith (.ListComp elt gs scope cpos) (some (.Name id p2)) l X.env : Sem Bool) = pure true := fun elt gs l => by rw [swB_ok (by rw [hsc]; exact hk), hsc, hsw]
            rcases hh with ⟨k, args, is, xelt, own, rfl, rfl, i1, bo, e0, hg, he⟩ | ⟨k, args, is, xelt, xcnd, cnd, own, rfl, rfl, i1, bo, e0, hg, ht, he⟩
            · exact s_asgLc hK (C.cl hsu) hN h1 (by rw [hsc]; exact hyl) (hsw2 _ _ _) i1 bo e0 hg he hs hz
            · exact s_asgLcIf hK (C.cl hsu) hN h1 (by rw [hsc]; exact hyl) (hsw2 _ _ _) i1 bo e0 hg ht he hs hz
          · rename_i hsw
            exact s_asgSw hN h1 f1 (ihE _ _ h3) (by rw [swB_ok (by rw [hsc]; exact hk), hsc, Bool.eq_false_iff.mpr hsw]) f2 hz
        · simp only [Bool.and_eq_true] at h3
          exact s_asgSw hN h1 f1 (ihE _ _ h3.2) (noSwap h3.1) f2 hz
      · cases h
    · split at h
      · simp only [Bool.and_eq_true, decide_eq_true_eq, Bool.not_eq_true'] at h
        obtain ⟨⟨⟨⟨hsu, hz⟩, h1⟩, h2⟩, h3⟩ := h
        obtain ⟨n1, n2, n3⟩ := ckNames_ok C h1
        rename_i e _ _ _ _ _
        exact s_asgs hK (C.cl hsu) n1 n2 n3 (ihE _ _ h3) (by cases e <;> rfl) (swRes_ok (by rw [hsc]; exact hk) (by rw [hsc]; exact h2)) (freBs_ok C hz)
      · cases h
    · split at h
      · simp only [Bool.and_eq_true] at h
        obtain ⟨⟨⟨⟨h1, h2⟩, h3⟩, h4⟩, h5⟩ := h
        have hp := ckPath_ok C ihE h3
        rw [List.reverse_reverse] at hp
        exact s_setp C.inj h1 h2 hp (ihE _ _ h4) (ihE _ _ h5)
      · cases h
    · split at h
      · exact s_retN
      · cases h
    · split at h
      · exact s_ret (ihE _ _ h)
      · split at h
        · obtain ⟨h1, h2, h3, h4⟩ := ckVar_ok C h
          exact s_retv h1 h2 h3 h4
        · cases h
      · split at h
        · exact s_rett (ckNms_ok C h)
        · cases h
      · cases h
    · split at h
      · simp only [Bool.and_eq_true] at h
        exact s_ife (ihT _ _ h.1.1.1 h.1.1.2) (ckB_ok ihS h.1.2) (ckB_ok ihS h.2)
      · cases h
    · split at h
      · simp only [Bool.and_eq_true, Bool.not_eq_true'] at h
        exact s_whl (hp h.1.1.1) (ihT _ _ h.1.1.2 h.1.2) (ckB_ok ihS h.2)
      · cases h
    · split at h
      · simp only [Bool.and_eq_true, Bool.not_eq_true'] at h
        obtain ⟨⟨⟨⟨hsu, h1⟩, h2⟩, h3⟩, h4⟩ := h
        obtain ⟨i1, i2⟩ := ckI_ok C ihE h2
        exact s_fo (ckPr h2 h3) hK (hp hsu) (C.cl hsu) i1 (ckTg_ok C hsu h3) (ckB_ok ihS h4) i2 (freBs_ok C h1)
      · cases h
    · split at h
      · split at h
        · exact s_doc
        · cases h
      · simp only [Bool.and_eq_true] at h
        exact s_ex (ihE _ _ h.2) h.1
      · split at h
        · simp only [Bool.and_eq_true, decide_eq_true_eq] at h
          obtain ⟨⟨⟨⟨⟨h1, h2⟩, h3⟩, h4⟩, h5⟩, h6⟩ := h
          have hp := ckPath_ok C ihE h5
          rw [List.reverse_reverse] at hp
          exact s_app C.inj h1 h2 h3 h4 hp (ihE _ _ h6)
        · cases h
      · split at h
        · simp only [Bool.and_eq_true, decide_eq_true_eq] at h
          obtain ⟨⟨⟨⟨⟨h1, h2⟩, h3⟩, h4⟩, h5⟩, h6⟩ := h
          have hp := ckPath_ok C ihE h5
          rw [List.reverse_reverse] at hp
          exact s_ext hK C.inj h1 h2 h3 h4 hp (ihE _ _ h6)
        · cases h
      · cases h
    · split at h
      · simp only [Bool.and_eq_true, decide_eq_true_eq] at h
        obtain ⟨⟨⟨⟨hz, h0⟩, h1⟩, h2⟩, h3⟩ := h
        have e0 := opB_eq h0
        subst e0
        obtain ⟨f1, f2⟩ := C.fn _ h2
        rw [← C.hN] at h1
        rw [← hsc] at f1 f2
        exact s_aug hN h1 f1 (ihE _ _ h3) f2 (freB_ok C hz)
      · cases h
    · split at h
      · exact s_pass
      · cases h
    · split at h
      · exact s_brk
      · cases h
    · split at h
      · exact s_cont
      · cases h
    · cases h
end
end PL
namespace PL
open PySem L2 PyProof.Rows
section
variable {g : G} {xg : XG} {Γ : Fe} {P : Program} {w : World} {K : PySem.W.Frag} {mg : Str → Option Value} {base : Heap} {k : Nat} {T : Tab}
/-- what is known of the exceptions' classes -/
structure XF (g : G) (xg : XG) (Γ : Fe) (K : PySem.W.Frag) : Prop where
  exa : g.exa = none ∧ g.clo = none ∧ g.cod = none
  sb : ∀ i j b, Γ.sub i j = some b → (∃ C, xg.XV i = .ref C ∧ ExK K C) ∧ isCl (xg.XV j) = true ∧ PySem.W.kitOne K (xg.XV i) (xg.XV j) = some b
  em : ∀ i j b, Γ.sub i j = some b → PySem.W.exmOne K (xg.XV i) (xg.XV j) = some b
  rz : ∀ c, Γ.rz c = true → ∃ C, xg.XV c = .ref C ∧ RzK K C
  xv0 : xg.XV 0 = .type "ValueError"
  xcl : ∀ c, isCl (xg.XV c) = true
/-- what is known of the module's names -/
structure Gok (g : G) (xg : XG) (Γ : Fe) (P : Program) (w : World) (K : PySem.W.Frag) (mg : Str → Option Value) (base : Heap) (k : Nat) (T : Tab) : Prop where
  hKP : g.K = K ∧ g.P = P ∧ g.w = w
  gf : ∀ x c, T.gn.lookup x = some c → GF0 g xg Γ P w K mg base k x c
  at_ : ∀ x i, T.at_.lookup x = some i → g.AN i = x
  inj : ∀ i j, g.AN i = g.AN j → i = j
  fo : ∀ c f, Γ.fo c f = true → Cls K (g.CA c) ∧ NoAttr K (g.CA c) (g.AN f)
  me : ∀ x i, T.me.lookup x = some i → (∀ c, Γ.mh i c = true → MF0 g xg P w K mg base k c x (Γ.me i c)) ∧ ∀ k, g.AN k ≠ x
  slf : g.self = none
  sui : T.sui = false
  xf : XF g xg Γ K
  ra : ∀ c, Γ.ra c = true → (∃ C, xg.XV c = .ref C ∧ RaK K mg C) ∧ 3 ≤ k
  mu : ∀ x i, T.mu.lookup x = some i → (∀ c, Γ.muh i c = true → MU0 g xg P w K mg base k c x (Γ.mu i c)) ∧ ∀ k, g.AN k ≠ x
theorem Gok.hK {g : G} {xg : XG} {Γ : Fe} {P : Program} {w : World} {K : PySem.W.Frag} {mg : Str → Option Value} {base : Heap} {k : Nat} {T : Tab} (G : Gok g xg Γ P w K mg base k T) : g.K = K := G.hKP.1
def Tab.names (T : Tab) (N : List Str) : Tab := { T with N := N, gd := false, clo := false, lam := false }
def Tab.namesG (T : Tab) (N : List Str) : Tab := { T with N := N, gd := true, clo := false, lam := false }
theorem Gok.cok (G : Gok g xg Γ P w K mg base k T) {N ps : List Str} {qual : Str} {scope : Scope} {f : Addr} {cdv : Value} {A : Around} {outer : List Env} {s : Shared} {H : Hp} {E : XK} (S : FnScope N ps scope) (hr : Room k (A.deeper (envOfC qual scope s.heap.objs.size f cdv))) :
    Cok g xg Γ (cxOf (L2N.CX P w) P w K mg base N qual scope f cdv A outer s H E) (fun cls d _ H => E cls d H) (T.names N) scope scope := by
  refine ⟨G.hKP, ?_, fun _ => rfl, rfl, S.nd, rfl, fun x h => ⟨locB_ok h, .inl rfl⟩, L2N.takes_of rfl rfl rfl rfl, fun x c h => ?_, G.at_, G.inj, G.fo, fun x i h => ?_, fun _ => G.slf, fun _ _ => ⟨G.xf.exa.1, G.xf.exa.2.1⟩, (fun _ a c dd z => by rw [G.xf.exa.1] at z; cases z), (fun z => by rw [show (T.names N).sui = T.sui from rfl, G.sui] at z; cases z), ⟨fun a c dd z _ => (by rw [G.xf.exa.1] at z; cases z), G.xf.sb⟩, G.xf.em, G.xf.rz, G.xf.xv0, G.xf.xcl, (fun z => nomatch z), (fun z => nomatch z), (fun z => nomatch z), (fun x i h => let ⟨h1, h2⟩ := G.mu x i h; ⟨fun c hc => let ⟨f, fd, ps, k', hk, F, r⟩ := h1 c hc; ⟨f, fd, ps, k', F, hr.mono hk, r⟩, h2⟩)⟩
  · have := hr.un
    show (A.deeper _).units + 65 < cLine
    omega
  · have := G.gf x c h
    cases c with
    | fn i =>
      obtain ⟨f, fd, ps, k', hk, F, h1, h2, h3⟩ := this
      exact ⟨f, fd, ps, k', F, hr.mono hk, h1, h2, h3⟩
    | hfn i =>
      obtain ⟨f, fd, ps, k', hk, F, h1, h2, h3⟩ := this
      exact ⟨f, fd, ps, k', F, L2H.roomH_of (hr.mono hk), h1, h2, h3⟩
    | gfn i =>
      obtain ⟨f, fd, ps, k', hk, F, h1, h2, h3⟩ := this
      exact ⟨f, fd, ps, k', F, hr.mono hk, h1, h2, h3⟩
    | cls c =>
      obtain ⟨f, fd, ps, k', hk, F, h1, h2, h3⟩ := this
      exact ⟨f, fd, ps, k', F, hr.mono hk, h1, h2, h3⟩
    | con i => exact this
    | non => exact this
    | exc c => exact this
    | hof i kk =>
      obtain ⟨f, fd, ps, k', hk, F, h1, h2, h3⟩ := this
      exact ⟨f, fd, ps, k', F, hr.mono hk, h1, h2, h3⟩
    | dead => exact this
  · obtain ⟨h1, h2⟩ := G.me x i h
    refine ⟨fun c hc => ?_, h2⟩
    obtain ⟨f, fd, ps, k', hk, F, h1, h2, h3⟩ := h1 c hc
    exact ⟨f, fd, ps, k', F, hr.mono hk, h1, h2, h3⟩
theorem Gok.cokG (G : Gok g xg Γ P w K mg base k T) {N ps : List Str} {qual : Str} {scope : Scope} {f : Addr} {cdv : Value} {A : Around} {outer : List Env} {s : Shared} {H : Hp} {E : XK} (S : FnScope N ps scope) (hgd : A.guards = some []) (hr : Room k (A.deeper (envOfC qual scope s.heap.objs.size f cdv))) :
    Cok g xg Γ (cxOf (L2N.CX P w) P w K mg base N qual scope f cdv A outer s H E) (fun cls d _ H => E cls d H) (T.namesG N) scope scope := by
  refine ⟨G.hKP, ?_, fun _ => rfl, rfl, S.nd, rfl, fun x h => ⟨locB_ok h, .inl rfl⟩, L2N.takes_of rfl rfl rfl rfl, fun x c h => ?_, G.at_, G.inj, G.fo, fun x i h => ?_, fun _ => G.slf, fun _ _ => ⟨G.xf.exa.1, G.xf.exa.2.1⟩, (fun _ a c dd z => by rw [G.xf.exa.1] at z; cases z), (fun z => by rw [show (T.namesG N).sui = T.sui from rfl, G.sui] at z; cases z), ⟨fun a c dd z _ => (by rw [G.xf.exa.1] at z; cases z), G.xf.sb⟩, G.xf.em, G.xf.rz, G.xf.xv0, G.xf.xcl, (fun _ => hgd), (fun z => nomatch z), (fun z => nomatch z), (fun x i h => let ⟨h1, h2⟩ := G.mu x i h; ⟨fun c hc => let ⟨f, fd, ps, k', hk, F, r⟩ := h1 c hc; ⟨f, fd, ps, k', F, hr.mono hk, r⟩, h2⟩)⟩
  · have := hr.un
    show (A.deeper _).units + 65 < cLine
    omega
  · have := G.gf x c h
    cases c with
    | fn i =>
      obtain ⟨f, fd, ps, k', hk, F, h1, h2, h3⟩ := this
      exact ⟨f, fd, ps, k', F, hr.mono hk, h1, h2, h3⟩
    | hfn i =>
      obtain ⟨f, fd, ps, k', hk, F, h1, h2, h3⟩ := this
      exact ⟨f, fd, ps, k', F, L2H.roomH_of (hr.mono hk), h1, h2, h3⟩
    | gfn i =>
      obtain ⟨f, fd, ps, k', hk, F, h1, h2, h3⟩ := this
      exact ⟨f, fd, ps, k', F, hr.mono hk, h1, h2, h3⟩
    | cls c =>
      obtain ⟨f, fd, ps, k', hk, F, h1, h2, h3⟩ := this
      exact ⟨f, fd, ps, k', F, hr.mono hk, h1, h2, h3⟩
    | con i => exact this
    | non => exact this
    | exc c => exact this
    | hof i kk =>
      obtain ⟨f, fd, ps, k', hk, F, h1, h2, h3⟩ := this
      exact ⟨f, fd, ps, k', F, hr.mono hk, h1, h2, h3⟩
    | dead => exact this
  · obtain ⟨h1, h2⟩ := G.me x i h
    refine ⟨fun c hc => ?_, h2⟩
    obtain ⟨f, fd, ps, k', hk, F, h1, h2, h3⟩ := h1 c hc
    exact ⟨f, fd, ps, k', F, hr.mono hk, h1, h2, h3⟩
theorem flat_nil : ∀ {n : Nat}, (List.replicate n ([] : Fp)).flatten = []
  | 0 => rfl
  | n + 1 => by rw [List.replicate_succ, List.flatten_cons, flat_nil]; rfl
/-- the start of a body -/
theorem rep_start {H : Hp} {S : Rg} {N : List Str} (hs : g.self = none) (tb : TabG g H) : ∀ {ds : List PL.D} {vs : List V}, (∀ a, S a → (H a).isSome = true) → OwnL g H S 0 ds vs [] → ds.length ≤ N.length →
    Rep g H S (List.replicate N.length []) (ds.map (fun d => some ⟨d, 0, false⟩) ++ List.replicate (N.length - ds.length) none) (L2.start N vs) := fun {ds vs} sz ow hl => by
  have e := ow.length
  refine ⟨tb, sz, ?_, ?_, fun i s h => ?_, fun i h => ?_, by rw [flat_nil]; exact List.nodup_nil, (fun a q => by rw [flat_nil] at q; cases q), fun w hw => by rw [hs] at hw; cases hw⟩
  · unfold L2.start
    simp only [List.length_append, List.length_map, List.length_replicate, e]
  · simp only [List.length_append, List.length_map, List.length_replicate]
    omega
  · have hi : i < ds.length := by
      rcases Nat.lt_or_ge i ds.length with z | z
      · exact z
      · rw [List.getElem?_append_right (by simpa using z), List.getElem?_replicate] at h
        split at h <;> cases h
    rw [List.getElem?_append_left (by simpa using hi), List.getElem?_map, List.getElem?_eq_getElem hi] at h
    simp only [Option.map_some, Option.some.injEq] at h
    subst h
    obtain ⟨v, B, h1, h2, _⟩ := ow.get (i := i) (d := ds[i]) (List.getElem?_eq_getElem hi)
    have := h2.zero
    subst this
    refine ⟨v, [], ?_, ?_, h2⟩
    · unfold L2.start
      rw [List.getElem?_append_left (by rw [List.length_map]; omega), List.getElem?_map, h1]
      rfl
    · rw [List.getElem?_replicate, if_pos (by omega)]
  · have hi : i < N.length := by
      have := (List.getElem?_eq_some_iff.mp h).1
      simp only [List.length_append, List.length_map, List.length_replicate] at this
      omega
    rw [List.getElem?_replicate, if_pos hi]
theorem okXN {x qual : Str} {st : Stmt} {f : Addr} {fd : FuncData} {N ps : List Str} {k : Nat} {sp : Sp} (F : Fun K x qual st f fd) (S : FnScope N ps (defScope st)) (len : ∀ vs H Q E, sp vs H Q E → vs.length = ps.length)
    (hbody : ∀ (cdv : Value) (A : Around) (outer : List Env) (s : Shared) (H : Hp) (vs : List V) (Q : VK) (E : XK), Room k (A.deeper (envOfC qual (defScope st) s.heap.objs.size f cdv)) → sp vs H Q E →
      ∃ t, PSs (cxOf (L2N.CX P w) P w K mg base N qual (defScope st) f cdv A outer s H E) (defBody st) t ∧ t { nx := fun _ H' => Q .non H', rt := Q } (L2.start N vs) H) : FnOk P w K mg base (L2N.CX P w) (k + 1) f fd ps sp := by
  obtain ⟨oc, od, kV, doc, pm, an, cdv, ct, osl, rfl, lk, hcd⟩ := F.ex
  exact fn_of lk hcd S len fun A outer s H vs Q E hr hsp => hbody cdv A outer s H vs Q E hr hsp
theorem fn_ok (G : Gok g xg Γ P w K mg base k T) {x qual : Str} {st : Stmt} {f : Addr} {fd : FuncData} {N ps : List Str} {xs : List PL.St} (F : Fun K x qual st f fd) (S : FnScope N ps (defScope st)) (hc : ckB (ckS 60 (T.names N) (defScope st)) (defBody st) xs = true) :
    FnOk P w K mg base (L2N.CX P w) (k + 1) f fd ps (pSp g xg (runF Γ N.length ps.length xs)) := by
  have hN : ps.length ≤ N.length := by
    have := congrArg List.length S.pre
    rw [List.length_take] at this
    omega
  refine okXN F S (fun vs H Q E ⟨S0, ds, tb, sz, ow, h⟩ => ?_) fun cdv A outer s H vs Q E hr ⟨S0, ds, tb, sz, ow, h⟩ => ?_
  · have e := ow.length
    unfold runF at h
    split at h
    · rename_i hl
      omega
    · exact h.elim
  · refine ⟨RdB g xg Γ (fun cls d _ H => E cls d H) xs, ckB_ok (fun st' x' h' => ckS_ok 60 g (T.names N) _ st' x' _ _ (G.cok S hr) (fun _ => passes_of rfl) (fun _ c z => ⟨(G.ra c z).1, hr.mono (G.ra c z).2⟩) rfl rfl S.kind h') hc, ?_⟩
    unfold runF at h
    split at h
    · rename_i hl
      rw [← hl] at h
      have r0 := rep_start (N := N) G.slf ⟨tb, fun t z => (by rw [G.xf.exa.2.2] at z; cases z)⟩ sz ow (by omega)
      refine ⟨_, S0, _, r0, ?_⟩
      have ext : ∀ {H' : Hp}, FrX g.TB H (List.replicate N.length ([] : Fp)) (ds.map (fun d => some ⟨d, 0, false⟩) ++ List.replicate (N.length - ds.length) none) H' → Ext g.TB H H' :=
        fun {H'} k => ⟨fun a o e n => k.st a o e n (.inl (by rw [flat_nil]; simp)), k.dom, k.tab⟩
      cases eo : exB Γ xs (ds.map (fun d => some ⟨d, 0, false⟩) ++ List.replicate (N.length - ds.length) none) with
      | nx ρ' =>
        rw [eo] at h
        intro σ' H' S' As' r' s'
        refine h .non H' S' [] ⟨ext s'.fr, s'.sub, fun a q => ?_, r'.sz, own_non, List.nodup_nil, fun a q => nomatch q⟩
        rcases s'.new a q with z | z | z
        · exact .inl z
        · rw [flat_nil] at z; cases z
        · exact .inr z
      | rt d n =>
        rw [eo] at h
        intro v H' S' T' k1 k2 k3 k4 k5 k6 k7 k8
        refine h v H' S' T' ⟨ext k1, k3, fun a q => ?_, k5, k6, k7, fun a q => ?_⟩
        · rcases k4 a q with z | z | z
          · exact .inl z
          · rw [flat_nil] at z; cases z
          · exact .inr z
        · refine ⟨?_, (k8 a q).1⟩
          rcases (k8 a q).2 with z | z
          · rw [flat_nil] at z; cases z
          · exact z
      | exn e =>
        rw [eo] at h
        exact fun cls dd σ' H' k1 k2 => h cls dd H' (ext k1) k2
      | bk ρ' => rw [eo] at h; exact h.elim
      | ct ρ' => rw [eo] at h; exact h.elim
      | bad => rw [eo] at h; exact h.elim
    · exact h.elim

theorem mem_lookup' {α : Type} : ∀ {l : List (Str × α)} {n : Str} {c : α}, l.lookup n = some c → ∃ m, (m, c) ∈ l
  | [], _, _, h => by cases h
  | (m, d) :: l, n, c, h => by
    rw [List.lookup_cons] at h
    split at h
    · cases h; exact ⟨m, List.mem_cons_self⟩
    · obtain ⟨z, hz⟩ := mem_lookup' h
      exact ⟨z, List.mem_cons_of_mem _ hz⟩
def Fe.addFn (Γ : Fe) (i : Nat) (F : List PL.D → Res) : Fe := { Γ with fn := fun j => if j = i then F else Γ.fn j }
theorem MU0.up {c : Nat} {m : Str} {F : PL.D → Nat → List PL.D → Option (PL.D × PL.D × Nat)} {k' : Nat} (hk : k ≤ k') (h : MU0 g xg P w K mg base k c m F) : MU0 g xg P w K mg base k' c m F := by
  obtain ⟨f, fd, ps, j, hj, r⟩ := h
  exact ⟨f, fd, ps, j, Nat.le_trans hj hk, r⟩
theorem GF0.up {x : Str} {c : GK} {k' : Nat} (hk : k ≤ k') (h : GF0 g xg Γ P w K mg base k x c) : GF0 g xg Γ P w K mg base k' x c := by
  cases c with
  | fn i => obtain ⟨f, fd, ps, j, hj, r⟩ := h; exact ⟨f, fd, ps, j, Nat.le_trans hj hk, r⟩
  | hfn i => obtain ⟨f, fd, ps, j, hj, r⟩ := h; exact ⟨f, fd, ps, j, Nat.le_trans hj hk, r⟩
  | gfn i => obtain ⟨f, fd, ps, j, hj, r⟩ := h; exact ⟨f, fd, ps, j, Nat.le_trans hj hk, r⟩
  | cls c => obtain ⟨f, fd, ps, j, hj, r⟩ := h; exact ⟨f, fd, ps, j, Nat.le_trans hj hk, r⟩
  | con i => exact h
  | non => exact h
  | exc c => exact h
  | hof i kk => obtain ⟨f, fd, ps, j, hj, r⟩ := h; exact ⟨f, fd, ps, j, Nat.le_trans hj hk, r⟩
  | dead => exact h
theorem Gok.addFn (G : Gok g xg Γ P w K mg base k T) {x : Str} {f : Addr} {fd : FuncData} {ps : List Str} {F : List PL.D → Res} (i : Nat) (hF : FnOk P w K mg base (L2N.CX P w) (k + 1) f fd ps (pSp g xg F)) (hm : mg x = some (.ref f)) (hk : PySem.W.keepIn K (.ref f) = true) (hb : Binds K fd ps [])
    (hi : (T.gn.all fun p => !decide (p.2 = .fn i) && !decide (p.2 = .hfn i) && !decide (p.2 = .gfn i)) = true) : Gok g xg (Γ.addFn i F) P w K mg base (k + 1) { T with gn := (x, .fn i) :: T.gn } := by
  refine ⟨G.hKP, fun y c h => ?_, G.at_, G.inj, G.fo, fun y j h => ?_, G.slf, G.sui, ⟨G.xf.exa, G.xf.sb, G.xf.em, G.xf.rz, G.xf.xv0, G.xf.xcl⟩, fun c z => ⟨(G.ra c z).1, Nat.le_succ_of_le (G.ra c z).2⟩, (fun x i h => let ⟨h1, h2⟩ := G.mu x i h; ⟨fun c hc => (h1 c hc).up (Nat.le_succ k), h2⟩)⟩
  · have h' : List.lookup y ((x, GK.fn i) :: T.gn) = some c := h
    rw [List.lookup_cons] at h'
    split at h'
    · rename_i e
      cases h'
      obtain rfl := eq_of_beq e
      refine ⟨f, fd, ps, k + 1, Nat.le_refl _, ?_, hm, hk, hb⟩
      show FnOk P w K mg base (L2N.CX P w) (k + 1) f fd ps (pSp g xg (if i = i then F else Γ.fn i))
      rw [if_pos rfl]
      exact hF
    · have h0 := (G.gf y c h').up (Nat.le_succ k)
      cases c with
      | fn j =>
        have hne : j ≠ i := fun e => by
          subst e
          obtain ⟨z, hz⟩ := mem_lookup' h'
          have := List.all_eq_true.mp hi _ hz
          simp at this
        obtain ⟨f, fd, ps, j', hj, r, r2⟩ := h0
        refine ⟨f, fd, ps, j', hj, ?_, r2⟩
        show FnOk P w K mg base (L2N.CX P w) j' f fd ps (pSp g xg (if j = i then F else Γ.fn j))
        rw [if_neg hne]
        exact r
      | hfn j =>
        have hne : j ≠ i := fun e => by
          subst e
          obtain ⟨z, hz⟩ := mem_lookup' h'
          have := List.all_eq_true.mp hi _ hz
          simp at this
        obtain ⟨f, fd, ps, j', hj, r, r2⟩ := h0
        refine ⟨f, fd, ps, j', hj, ?_, r2⟩
        show FnHx P w K mg base j' f fd ps (hxSp g xg (if j = i then F else Γ.fn j))
        rw [if_neg hne]
        exact r
      | gfn j =>
        have hne : j ≠ i := fun e => by
          subst e
          obtain ⟨z, hz⟩ := mem_lookup' h'
          have := List.all_eq_true.mp hi _ hz
          simp at this
        obtain ⟨f, fd, ps, j', hj, r, r2⟩ := h0
        refine ⟨f, fd, ps, j', hj, ?_, r2⟩
        show FnGx P w K mg base j' f fd ps (pSp g xg (if j = i then F else Γ.fn j))
        rw [if_neg hne]
        exact r
      | cls c => exact h0
      | con j => exact h0
      | non => exact h0
      | exc c => exact h0
      | hof j kk => exact h0
      | dead => exact h0
  · obtain ⟨h1, h2⟩ := G.me y j h
    refine ⟨fun c hc => ?_, h2⟩
    obtain ⟨f, fd, ps, j', hj, r⟩ := h1 c hc
    exact ⟨f, fd, ps, j', Nat.le_trans hj (Nat.le_succ k), r⟩
/-- the attributes' names, and others for the numbers that stand for none -/
def anOf (l : List Str) (i : Nat) : Str := match l[i]? with
  | some x => x
  | none => ⟨Array.replicate (1000 + i) 0⟩
theorem anOf_inj {l : List Str} (h1 : l.Nodup) (h2 : (l.all fun x => decide (x.cps.size < 1000)) = true) : ∀ i j, anOf l i = anOf l j → i = j := by
  intro i j h
  unfold anOf at h
  have sm : ∀ {x : Str} {k : Nat}, l[k]? = some x → x.cps.size < 1000 := fun {x k} e => of_decide_eq_true (List.all_eq_true.mp h2 x (List.mem_of_getElem? e))
  cases ei : l[i]? with
  | some x =>
    cases ej : l[j]? with
    | some y =>
      rw [ei, ej] at h
      dsimp only at h
      subst h
      obtain ⟨hi, ei⟩ := List.getElem?_eq_some_iff.mp ei
      obtain ⟨hj, ej⟩ := List.getElem?_eq_some_iff.mp ej
      exact (List.getElem_inj h1).mp (ei.trans ej.symm)
    | none =>
      rw [ei, ej] at h
      dsimp only at h
      have := sm ei
      rw [h] at this
      simp at this
      omega
  | none =>
    cases ej : l[j]? with
    | some y =>
      rw [ei, ej] at h
      dsimp only at h
      have := sm ej
      rw [← h] at this
      simp at this
      omega
    | none =>
      rw [ei, ej] at h
      dsimp only at h
      have := congrArg (fun x : Str => x.cps.size) h
      simp at this
      omega
theorem Gok.first (hK : g.K = K ∧ g.P = P ∧ g.w = w) (inj : ∀ i j, g.AN i = g.AN j → i = j) (hfo : ∀ c f, Γ.fo c f = true → False) (hs : g.self = none) (xf : XF g xg Γ K) (hra : ∀ c, Γ.ra c = true → False) : Gok g xg Γ P w K mg base 0 { N := [], gn := [], at_ := [], me := [] } :=
  ⟨hK, (fun _ _ h => nomatch h), (fun _ _ h => nomatch h), inj, (fun c f h => (hfo c f h).elim), (fun _ _ h => nomatch h), hs, rfl, xf, (fun c h => (hra c h).elim), (fun _ _ h => nomatch h)⟩
theorem Gok.addC (G : Gok g xg Γ P w K mg base k T) {x : Str} {c : GK} (h : GF0 g xg Γ P w K mg base k x c) : Gok g xg Γ P w K mg base k { T with gn := (x, c) :: T.gn } := by
  refine ⟨G.hKP, fun y c' h' => ?_, G.at_, G.inj, G.fo, G.me, G.slf, G.sui, G.xf, G.ra, G.mu⟩
  have h'' : List.lookup y ((x, c) :: T.gn) = some c' := h'
  rw [List.lookup_cons] at h''
  split at h''
  · rename_i e
    cases h''
    obtain rfl := eq_of_beq e
    exact h
  · exact G.gf y c' h''
theorem Gok.addNon (G : Gok g xg Γ P w K mg base k T) {x : Str} (h : mg x = none) : Gok g xg Γ P w K mg base k { T with gn := (x, .non) :: T.gn } := G.addC h
end
end PL
namespace PL
open PySem L2 PyProof.Rows
def lI (ns : List Int) : List D := ns.map D.int
/-- the written part has no list -/
def noLst (K : PySem.W.Frag) : Bool := K.all fun p => match p.2.cls with
  | .type t => !(t == "list")
  | _ => true
theorem noLst_no : ∀ {K : PySem.W.Frag}, noLst K = true → ∀ {a : Addr} {o : Obj}, K.lookup a = some o → o.cls = .type "list" → False
  | [], _, _, _, h, _ => by cases h
  | (b, p) :: K, hn, a, o, h, hc => by
    unfold noLst at hn
    rw [List.all_cons, Bool.and_eq_true] at hn
    rw [List.lookup_cons] at h
    split at h
    · cases h
      have := hn.1
      dsimp only at this
      rw [hc] at this
      simp at this
    · exact noLst_no (K := K) hn.2 h hc
theorem own_ints {g : G} {H : Hp} {S : Rg} : ∀ ns : List Int, OwnL g H S 0 (lI ns) (ns.map V.int) []
  | [] => OwnL.nil
  | n :: ns => OwnL.cons (A := []) (B := []) own_int (own_ints ns)
theorem log2_of_bits {z : Int} (h : Builtin.Int.intBits z ≤ 1048576) : z.natAbs.log2 < 1048576 := by
  unfold Builtin.Int.intBits at h
  split at h
  · rename_i e
    have : z = 0 := by simpa using e
    subst this
    decide
  · omega
end PL
namespace PL
open PySem PySem.Spec L2 PyProof.Rows
structure FnG (P : Program) (w : World) (K : PySem.W.Frag) (mg : Str → Option Value) (base : Heap) (k : Nat) (f : Addr) (fd : FuncData) (ps : List Str) (sp : Sp) : Prop where
  run : ∀ (A : Around) (s : Shared) (H : Hp) (args : Args) (us : List Value) (vs : List V) (Q : VK) (E : XK), A.guards = some [] → Room k A → Env0 P w K mg base A [] s H → BindsTo s fd args (ps.zip us) → Vals vs us → sp vs H Q E →
    codeAny (model P w) A (.call (.ref f) args) (CR (L2N.CX P w) [] P w H s Q E) s
section
variable {g : G} {xg : XG} {Γ : Fe} {P : Program} {w : World} {K : PySem.W.Frag} {mg : Str → Option Value} {base : Heap} {k : Nat} {T : Tab}
/-- one run of a def, from its body -/
theorem run_body {x qual : Str} {st : Stmt} {f : Addr} {fd : FuncData} {N ps : List Str} {A : Around} {outer : List Env} {s : Shared} {H : Hp} {args : Args} {us : List Value} {vs : List V} {Q : VK} {E : XK} (F : Fun K x qual st f fd) (S : FnScope N ps (defScope st))
    (hr : Room (k + 1) A) (e0 : Env0 P w K mg base A outer s H) (hb : BindsTo s fd args (ps.zip us)) (r : Vals vs us) (hl : vs.length = ps.length)
    (body : ∀ cdv : Value, Room k (A.deeper (envOfC qual (defScope st) s.heap.objs.size f cdv)) → ∃ t, PSs (cxOf (L2N.CX P w) P w K mg base N qual (defScope st) f cdv A outer s H E) (defBody st) t ∧ t { nx := fun _ H' => Q .non H', rt := Q } (L2.start N vs) H) :
    codeAny (model P w) A (.call (.ref f) args) (CR (L2N.CX P w) outer P w H s Q E) s := by
  obtain ⟨oc, od, kV, doc, pm, an, cdv, ct, osl, rfl, look, code⟩ := F.ex
  have stays : ∀ b o, base.get? b = some o → s.heap.get? b = some o := fun b o q => (e0.bs b o q).1
  have there := e0.mod.kin.keeps stays
  obtain ⟨t, walk, ready⟩ := body cdv (hr.deeper _)
  have kinds : ∀ y ∈ ps.zip us, (defScope st).names.lookup y.1 = some .local ∨ ((defScope st).names.lookup y.1 = some .cell ∧ ((cellsFrom (s.heap.objs.size + 1) (defScope st).names []).lookup y.1).isSome = true) := by
    rintro ⟨y, v⟩ hy
    refine (S.par y (List.of_mem_zip hy).1).imp id fun q => ⟨q, ?_⟩
    exact PySem.W.cellsFrom_some _ _ _ (.inl q)
  apply codeAny_call_function hr.depth (there _ _ look) rfl S.co S.gen rfl (PySem.W.codeRec_of there code)
  apply hb
  apply wpAny_newFunctionEnv_cells S.kind kinds
  intro env he s1 fresh
  subst he
  refine ⟨(e0.mod.nolimit.keeps stays).keeps fresh.toInCall.keep, codeAny_func ?_⟩
  have I := inv_start (CX := L2N.CX P w) (E := E) S hr.hd e0 hl r fresh
  refine wpAny_mono (walk.run [] s1 (L2.start N vs) H _ I ready) ?_ fun _ _ q => q
  intro fl s' z
  cases fl with
  | next => obtain ⟨σ', H', J, q⟩ := z; exact ⟨.non, H', J.os, J.bare, J.base, J.hok, rfl, q⟩
  | brk => obtain ⟨_, _, _, q⟩ := z; exact q.elim
  | cont => obtain ⟨_, _, _, q⟩ := z; exact q.elim
  | ret u => obtain ⟨v, σ', H', J, rv, q⟩ := z; exact ⟨v, H', J.os, J.bare, J.base, J.hok, rv, q⟩
theorem fn_okG (G : Gok g xg Γ P w K mg base k T) {x qual : Str} {st : Stmt} {f : Addr} {fd : FuncData} {N ps : List Str} {xs : List PL.St} (F : Fun K x qual st f fd) (S : FnScope N ps (defScope st)) (hc : ckB (ckS 60 (T.namesG N) (defScope st)) (defBody st) xs = true) :
    FnG P w K mg base (k + 1) f fd ps (pSp g xg (runF Γ N.length ps.length xs)) := by
  have hN : ps.length ≤ N.length := by
    have := congrArg List.length S.pre
    rw [List.length_take] at this
    omega
  refine ⟨fun A s H args us vs Q E hgd hr e0 hb r ⟨S0, ds, tb, sz, ow, h⟩ => ?_⟩
  have e := ow.length
  unfold runF at h
  split at h
  · rename_i hl
    refine run_body F S hr e0 hb r (by omega) fun cdv hr2 => ?_
    refine ⟨RdB g xg Γ (fun cls d _ H => E cls d H) xs, ckB_ok (fun st' x' h' => ckS_ok 60 g (T.namesG N) _ st' x' _ _ (G.cokG S hgd hr2) (fun _ => passes_of rfl) (fun _ c z => ⟨(G.ra c z).1, hr2.mono (G.ra c z).2⟩) rfl rfl S.kind h') hc, ?_⟩
    rw [← hl] at h
    have r0 := rep_start (N := N) G.slf ⟨tb, fun t z => (by rw [G.xf.exa.2.2] at z; cases z)⟩ sz ow (by omega)
    refine ⟨_, S0, _, r0, ?_⟩
    have ext : ∀ {H' : Hp}, FrX g.TB H (List.replicate N.length ([] : Fp)) (ds.map (fun d => some ⟨d, 0, false⟩) ++ List.replicate (N.length - ds.length) none) H' → Ext g.TB H H' :=
      fun {H'} k => ⟨fun a o e n => k.st a o e n (.inl (by rw [flat_nil]; simp)), k.dom, k.tab⟩
    cases eo : exB Γ xs (ds.map (fun d => some ⟨d, 0, false⟩) ++ List.replicate (N.length - ds.length) none) with
    | nx ρ' =>
      rw [eo] at h
      intro σ' H' S' As' r' s'
      refine h .non H' S' [] ⟨ext s'.fr, s'.sub, fun a q => ?_, r'.sz, own_non, List.nodup_nil, fun a q => nomatch q⟩
      rcases s'.new a q with z | z | z
      · exact .inl z
      · rw [flat_nil] at z; cases z
      · exact .inr z
    | rt d n =>
      rw [eo] at h
      intro v H' S' T' k1 k2 k3 k4 k5 k6 k7 k8
      refine h v H' S' T' ⟨ext k1, k3, fun a q => ?_, k5, k6, k7, fun a q => ?_⟩
      · rcases k4 a q with z | z | z
        · exact .inl z
        · rw [flat_nil] at z; cases z
        · exact .inr z
      · refine ⟨?_, (k8 a q).1⟩
        rcases (k8 a q).2 with z | z
        · rw [flat_nil] at z; cases z
        · exact z
    | exn e =>
      rw [eo] at h
      exact fun cls dd σ' H' k1 k2 => h cls dd H' (ext k1) k2
    | bk ρ' => rw [eo] at h; exact h.elim
    | ct ρ' => rw [eo] at h; exact h.elim
    | bad => rw [eo] at h; exact h.elim
  · exact h.elim
/-- the law's call, the script the only thing that is tracked -/
theorem call_law {mb : Str → Option Value} {fa a : Addr} {fd : FuncData} {x : Str} {F : List D → Res} {s₁ : Shared} {vs : List Value} {ns : List Int} (hnl : noLst K = true)
    (KX : K.In s₁.heap) (hns : s₁.heap.Ns mainGlobals mg) (hbn : s₁.heap.Ns builtinsNs mb) (hbb : ∀ x : Str, x ≠ "__name__" → mb x = bootBuiltins x) (hlim : s₁.heap.NoLimit) (hg : s₁.gens = #[])
    (ha : s₁.heap.get? a = some { cls := .type "list", data := .seq vs.toArray }) (hi : IntsAre vs ns) (hl : ns.length ≤ sizeLine) (hr : Room k callerA) (htb : g.TB = [])
    (hF : ∀ base : Heap, K.In base → base.Ns mainGlobals mg → FnG P w K mg base k fa fd [x] (pSp g xg F)) (bind : ∀ (s : Shared) (u : Value), BindsTo s fd ⟨[u], []⟩ [(x, u)]) (law : ∃ m, F [.lst (lI ns)] = .ok (.bl true) m) :
    codeAny (model P w) callerA (.call (.ref fa) ⟨[.ref a], []⟩) (fun r s' => r = .ok (.ret (.bool true)) ∧ OldK s₁.heap s'.heap ∧ s'.os = s₁.os ∧ AllBare s'.gens) s₁ := by
  obtain ⟨H, hH⟩ : ∃ H : Hp, H = fun b => if b = a then some (.frz { cls := .type "list", data := .seq vs.toArray } (.lst (ns.map V.int))) else none := ⟨_, rfl⟩
  have Ha : H a = some (.frz { cls := .type "list", data := .seq vs.toArray } (.lst (ns.map V.int))) := by rw [hH]; exact if_pos rfl
  have Hn : ∀ b, b ≠ a → H b = none := fun b q => by rw [hH]; exact if_neg q
  clear hH
  have off : ∀ b o, b ≠ a → s₁.heap.get? b = some o → (hidT s₁.heap H).get? b = some o := fun b o q e => hidT_get e (Hn b q)
  have offN : ∀ b m, s₁.heap.Ns b m → (hidT s₁.heap H).Ns b m := by
    rintro b m ⟨o, es, ep, e, d, rest⟩
    refine ⟨o, es, ep, off b o (fun q => ?_) e, d, rest⟩
    subst q
    rw [ha] at e
    cases e
    cases d
  have kin : K.In (hidT s₁.heap H) := fun b o e => off b o (fun q => by
    subst q
    have z := KX _ _ e
    rw [ha] at z
    cases z
    exact noLst_no hnl e rfl) (KX b o e)
  have len := hi.length
  have rel := vals_ints hi
  have hok : HOk P w H s₁.heap := fun b u z => by
    by_cases q : b = a
    · subst q
      rw [Ha] at z
      cases z
      exact ⟨ha, by rw [List.length_map]; exact hl, vs, _, rel, ha⟩
    · rw [Hn b q] at z
      cases z
  obtain ⟨mc, l1, l2⟩ := hlim
  have e0 : Env0 P w K mg (hidT s₁.heap H) callerA [] s₁ H :=
    { frames := rfl
      mod := ⟨kin, offN _ _ hns, ⟨mb, offN _ _ hbn, hbb⟩, ⟨mc, offN _ _ l1, l2⟩⟩
      bs := fun _ _ e => of_hidT e
      bsz := Nat.le_of_eq (hidT_size _ _)
      funs := trivial
      frf := fun b z => nomatch z
      hok := hok
      bare := .of_eq hg }
  have sp : pSp g xg F [.ref a] H (fun v _ => v = .bl true) fun _ _ _ => False := by
    obtain ⟨m, e⟩ := law
    refine ⟨fun b => b = a, [.lst (lI ns)], fun p hp => (by rw [htb] at hp; cases hp), fun b z => ?_, OwnL.one (by unfold Own; exact ⟨a, _, rfl, rfl, .inr ⟨_, Ha⟩, own_ints ns⟩), ?_⟩
    · have : b = a := z
      subst this
      rw [Ha]
      rfl
    · rw [e]
      exact fun v H' S' T o => own_bl_v o.own
  refine codeAny_mono ((hF _ kin (offN _ _ hns)).run callerA s₁ H ⟨[.ref a], []⟩ [.ref a] [.ref a] _ _ rfl hr e0 (bind s₁ (.ref a)) (.cons rfl .nil) sp) fun r s' z => ?_
  cases r with
  | error e =>
    obtain ⟨_, _, _, _, _, _, _, _, _, _, _, _, q⟩ := z
    exact q.elim
  | ok fl =>
    cases fl with
    | next => exact False.elim z
    | brk => exact False.elim z
    | cont => exact False.elim z
    | ret u =>
      obtain ⟨v, H', os, bare, un, hok', rv, q⟩ := z
      have qv : v = .bl true := q
      subst qv
      have ru : u = Value.bool true := rv
      subst ru
      refine ⟨rfl, OldK.of_keep fun b o e => ?_, os, bare⟩
      by_cases q : b = a
      · subst q
        have z1 := un.frzs _ _ _ Ha
        obtain ⟨h1, _⟩ := hok' _ _ z1
        rw [ha] at e
        cases e
        exact h1
      · exact un.keep b o e (Hn b q) (fun z => nomatch z) (fun z => nomatch z)
end
theorem law_walkG {l : PySem.W.OpenLaw} {n k : Nat} {q : Program} {loose : List Str} {XP : (Str → Option Value) → Heap → Prop} {YP : World → Heap → Prop} {d : DefRec} {K : Params → PySem.W.Frag} {x : Str} {F : List D → Res}
    (hn : l.most = some n) (hn2 : n ≤ 63) (hdf : d.params.defaults = []) (hr : Room k callerA) (hY : ∀ (w : World) (h : Heap), YP w h → (K w.params).In h) (hK : ∀ p, noLst (K p) = true)
    (hF : ∀ ns : List Int, ns.length ≤ 63 → (∀ z ∈ ns, z.natAbs.log2 < 1048576) → ∃ m, F [.lst (lI ns)] = .ok (.bl true) m)
    (hO : ∀ (w : World) (mg : Str → Option Value) (fa : Addr) (h : Heap), (K w.params).In h → h.Ns mainGlobals mg → mg d.name = some (.ref fa) →
      ∃ (g : G) (xg : XG) (fd : FuncData), (g.K = K w.params ∧ g.TB = []) ∧ (∀ (s : Shared) (u : Value), BindsTo s fd ⟨[u], []⟩ [(x, u)]) ∧
        ∀ base : Heap, (K w.params).In base → base.Ns mainGlobals mg → FnG l.prog w (K w.params) mg base k fa fd [x] (pSp g xg F)) :
    PySem.W.WalkO q loose XP YP l.row.toRowW d [] (fun f vs => PySem.call f vs) := by
  refine Att.attach_callB hn hdf fun w _ _ mg mb fa _ _ _ _ a vs ns Gd Y _ _ _ hmg hobj hints hlen hbits hg => ?_
  obtain ⟨g, xg, fd, hgg, bind, fn⟩ := hO w mg fa _ (hY w _ Y) Gd.T.g hmg
  exact call_law (hK _) (hY w _ Y) Gd.T.g Gd.T.b Gd.T.builtins Gd.T.nolimit hg hobj hints (Nat.le_trans hlen (Nat.le_trans hn2 (by decide))) hr hgg.2 fn bind (hF ns (Nat.le_trans hlen hn2) fun z hz => log2_of_bits (hbits z hz))
end PL
namespace PL
open PySem L2
section
variable (Γ : Fe) (δ : Ev) (ρ : En)
@[simp] theorem ev_var (i : Nat) : evE Γ (.var i) δ = match δ[i]? with | some (some d) => .ok d 0 | _ => .bad := by first | rfl | rw [evE] | rw [evL]
@[simp] theorem ev_con (d : D) : evE Γ (.con d) δ = .ok d 0 := by first | rfl | rw [evE] | rw [evL]
@[simp] theorem ev_glo (k : Nat) : evE Γ (.glo k) δ = .ok (Γ.gl k) 0 := by first | rfl | rw [evE] | rw [evL]
@[simp] theorem ev_bin (o : Bop) (a b : Ex) : evE Γ (.bin o a b) δ = (evE Γ a δ).bind fun x => (evE Γ b δ).bind fun y => binD o x y := by first | rfl | rw [evE] | rw [evL]
def negD (x : D) : Res := match x with | .int i => .ok (.int (-i)) 0 | _ => .bad
@[simp] theorem ev_neg (a : Ex) : evE Γ (.neg a) δ = (evE Γ a δ).bind negD := by first | rfl | rw [evE] | rw [evL]
@[simp] theorem negD_int (i : Int) : negD (.int i) = .ok (.int (-i)) 0 := rfl
@[simp] theorem ev_cmp (o : Cop) (a b : Ex) : evE Γ (.cmp o a b) δ = (evE Γ a δ).bind fun x => (evE Γ b δ).bind fun y => cmpD o x y := by first | rfl | rw [evE] | rw [evL]
def chnD (k : D) (r : Res) : Res := match k with
    | .bl true => r
    | .bl false => .ok (.bl false) 0
    | _ => .bad
@[simp] theorem chnD_bl (b : Bool) (r : Res) : chnD (.bl b) r = if b then r else .ok (.bl false) 0 := by cases b <;> rfl
@[simp] theorem ev_cmp2 (o p : Cop) (a b c : Ex) : evE Γ (.cmp2 o p a b c) δ = (evE Γ a δ).bind fun x => (evE Γ b δ).bind fun y => (cmpD o x y).bind fun k => chnD k ((evE Γ c δ).bind fun z => cmpD p y z) := rfl
@[simp] theorem ev_cmp3 (o p q : Cop) (a b c d : Ex) : evE Γ (.cmp3 o p q a b c d) δ = (evE Γ a δ).bind fun x => (evE Γ b δ).bind fun y => (cmpD o x y).bind fun k => chnD k ((evE Γ c δ).bind fun z => (cmpD p y z).bind fun k2 => chnD k2 ((evE Γ d δ).bind fun u => cmpD q z u)) := rfl
@[simp] theorem ev_nset (a : Ex) : evE Γ (.nset a) δ = (evE Γ a δ).bind nsetD := by first | rfl | rw [evE]
@[simp] theorem ev_sset (a : Ex) : evE Γ (.sset a) δ = (evE Γ a δ).bind ssetD := by first | rfl | rw [evE]
@[simp] theorem ev_lrng1 (a : Ex) : evE Γ (.lrng1 a) δ = (evE Γ a δ).bind fun x => lrngD (.int 0) x := by first | rfl | rw [evE]
@[simp] theorem ev_lrng (a b : Ex) : evE Γ (.lrng a b) δ = (evE Γ a δ).bind fun x => (evE Γ b δ).bind fun y => lrngD x y := by first | rfl | rw [evE]
@[simp] theorem ev_dct0 : evE Γ .dct0 δ = .ok (.dct [] []) 9 := by first | rfl | rw [evE]
@[simp] theorem lrngD_int (i j : Int) : lrngD (.int i) (.int j) = if smallI i && smallI j && decide ((j - i).toNat ≤ szLine) then .ok (.lst (rngD i (j - i).toNat)) 10 else .bad := rfl
def andD (x : D) (r : Res) : Res := match x with | .bl true => r | .bl false => .ok (.bl false) 0 | _ => .bad
def orD (x : D) (r : Res) : Res := match x with | .bl true => .ok (.bl true) 0 | .bl false => r | _ => .bad
def notD (x : D) : Res := match x with | .bl c => .ok (.bl (!c)) 0 | _ => .bad
@[simp] theorem andD_t (r : Res) : andD (.bl true) r = r := rfl
@[simp] theorem andD_f (r : Res) : andD (.bl false) r = .ok (.bl false) 0 := rfl
@[simp] theorem orD_t (r : Res) : orD (.bl true) r = .ok (.bl true) 0 := rfl
@[simp] theorem orD_f (r : Res) : orD (.bl false) r = r := rfl
@[simp] theorem szLine_num : szLine = 16777216 := rfl
@[simp] theorem andD_bl (b : Bool) (r : Res) : andD (.bl b) r = if b then r else .ok (.bl false) 0 := by cases b <;> rfl
@[simp] theorem orD_bl (b : Bool) (r : Res) : orD (.bl b) r = if b then .ok (.bl true) 0 else r := by cases b <;> rfl
@[simp] theorem notD_bl (b : Bool) : notD (.bl b) = .ok (.bl (!b)) 0 := rfl
@[simp] theorem ev_and (a b : Ex) : evE Γ (.and a b) δ = (evE Γ a δ).bind fun x => andD x (evE Γ b δ) := by first | rfl | rw [evE] | rw [evL]
@[simp] theorem ev_or (a b : Ex) : evE Γ (.or a b) δ = (evE Γ a δ).bind fun x => orD x (evE Γ b δ) := by first | rfl | rw [evE] | rw [evL]
@[simp] theorem ev_not (a : Ex) : evE Γ (.not a) δ = (evE Γ a δ).bind notD := by first | rfl | rw [evE] | rw [evL]
@[simp] theorem ev_ife (c a b : Ex) : evE Γ (.ife c a b) δ = ((evE Γ c δ).bindT truD).bind fun k => if k then evE Γ a δ else evE Γ b δ := by first | rfl | rw [evE] | rw [evL]
@[simp] theorem ev_ix (a b : Ex) : evE Γ (.ix a b) δ = (evE Γ a δ).bind fun x => (evE Γ b δ).bind fun y => ixD x y := by first | rfl | rw [evE] | rw [evL]
@[simp] theorem ev_sl (a lo hi : Ex) : evE Γ (.sl a lo hi) δ = (evE Γ a δ).bind fun x => optI (if lo.isOmit then none else some (evE Γ lo δ)) fun l => optI (if hi.isOmit then none else some (evE Γ hi δ)) fun h => slD x l h := by first | rfl | rw [evE] | rw [evL]
@[simp] theorem ev_fld (a : Ex) (f : Nat) : evE Γ (.fld a f) δ = (evE Γ a δ).bind fun x => fldD Γ.fo f x := by first | rfl | rw [evE] | rw [evL]
@[simp] theorem ev_isE (a : Ex) (cs : List Nat) : evE Γ (.isE a cs) δ = (evE Γ a δ).bind fun x => isED Γ.sub cs x := by first | rfl | rw [evE] | rw [evL]
@[simp] theorem ev_dg1 (a k : Ex) : evE Γ (.dg1 a k) δ = (evE Γ a δ).bind fun x => match x with
    | .dct ks vs => (evE Γ k δ).bind fun y => dgD ks vs y .non
    | _ => .bad := by first | rfl | rw [evE]
@[simp] theorem ev_dg2 (a k e : Ex) : evE Γ (.dg2 a k e) δ = (evE Γ a δ).bind fun x => match x with
    | .dct ks vs => (evE Γ k δ).bind fun y => (evE Γ e δ).bind fun z => dgD ks vs y z
    | _ => .bad := by first | rfl | rw [evE]
@[simp] theorem ev_atE (a : Ex) : evE Γ (.atE a) δ = (evE Γ a δ).bind fun x => atED x := by first | rfl | rw [evE] | rw [evL]
@[simp] theorem isED_exc (f : Nat → Nat → Option Bool) (cs : List Nat) (c : Nat) (vs : List D) : isED f cs (.exc c vs) = match anyS (f c) cs with | some b => .ok (.bl b) 0 | none => .bad := rfl
@[simp] theorem anyS_nil (f : Nat → Option Bool) : anyS f [] = some false := rfl
@[simp] theorem anyS_cons (f : Nat → Option Bool) (c : Nat) (cs : List Nat) : anyS f (c :: cs) = match f c with | some true => some true | some false => anyS f cs | none => none := rfl
@[simp] theorem atED_exc (c : Nat) (d : D) : atED (.exc c [d]) = .ok d 0 := rfl
@[simp] theorem ev_rev (a : Ex) : evE Γ (.rev a) δ = (evE Γ a δ).bind fun x => revD x := by first | rfl | rw [evE] | rw [evL]
@[simp] theorem rev_lst (l : List D) : revD (.lst l) = .ok (.lst l.reverse) 1 := rfl
@[simp] theorem ev_isi (a : Ex) (t : Ty) : evE Γ (.isi a t) δ = (evE Γ a δ).bind fun x => isiD t x := by first | rfl | rw [evE] | rw [evL]
@[simp] theorem ev_call (f : Nat) (es : List Ex) : evE Γ (.call f es) δ = (evL Γ es δ).bind fun l => Γ.fn f l := by first | rfl | rw [evE] | rw [evL]
def methD (Γ : Fe) (m : Nat) (x : D) (r : RL) : Res := match x with
    | .obj c ks vs => if Γ.mh m c then r.bind fun l => Γ.me m c (.obj c ks vs :: l) else .bad
    | _ => .bad
@[simp] theorem ev_meth (m : Nat) (a : Ex) (es : List Ex) : evE Γ (.meth m a es) δ = (evE Γ a δ).bind fun x => methD Γ m x (evL Γ es δ) := by first | rfl | rw [evE] | rw [evL]
@[simp] theorem ev_mk (c : Nat) (es : List Ex) : evE Γ (.mk c es) δ = (evL Γ es δ).bind fun l => Γ.ma c l := by first | rfl | rw [evE] | rw [evL]
@[simp] theorem ev_bi (b : Bi) (es : List Ex) : evE Γ (.bi b es) δ = (evL Γ es δ).bind fun l => biD b l := by first | rfl | rw [evE] | rw [evL]
def bmR (m : Bm) (x : D) (r : RL) : Res := match x with
    | .lst d => r.bind fun l => bmD m d l
    | .tup d => match m with
      | .count => r.bind fun l => bmD .count d l
      | _ => .bad
    | _ => .bad
@[simp] theorem ev_bm (m : Bm) (a : Ex) (es : List Ex) : evE Γ (.bm m a es) δ = (evE Γ a δ).bind fun x => bmR m x (evL Γ es δ) := by first | rfl | rw [evE] | rw [evL]
@[simp] theorem bmR_tup (d : List D) (r : RL) : bmR .count (.tup d) r = r.bind fun l => bmD .count d l := rfl
@[simp] theorem bmR_lst (m : Bm) (d : List D) (r : RL) : bmR m (.lst d) r = r.bind fun l => bmD m d l := rfl
@[simp] theorem ev_tup (es : List Ex) : evE Γ (.tup es) δ = (evL Γ es δ).bindN newT := by first | rfl | rw [evE] | rw [evL]
@[simp] theorem ev_dctc (e : Ex) : evE Γ (.dctc e) δ = (evE Γ e δ).bind dctcD := by first | rfl | rw [evE] | rw [evL]
@[simp] theorem ev_lst (es : List Ex) : evE Γ (.lst es) δ = (evL Γ es δ).bindN newL := by first | rfl | rw [evE] | rw [evL]
def compD (k : SK) (l : List D) (f : List D → RL) : Res := match items k l with
    | none => .bad
    | some xs => (f xs).bindN newL
@[simp] theorem ev_comp (k : SK) (args : List Ex) (tg : List Nat) (elt : Ex) : evE Γ (.comp k args tg elt) δ = (evL Γ args δ).bind fun l => compD k l fun xs => compL tg (evE Γ elt) (fun _ => .ok true) xs (wipeE δ tg) := by first | rfl | rw [evE] | rw [evL]
@[simp] theorem ev_compIf (k : SK) (args : List Ex) (tg : List Nat) (elt cond : Ex) : evE Γ (.compIf k args tg elt cond) δ = (evL Γ args δ).bind fun l => compD k l fun xs => compL tg (evE Γ elt) (fun δ => evT Γ cond δ) xs (wipeE δ tg) := by first | rfl | rw [evE] | rw [evL]
@[simp] theorem evL_nil : evL Γ [] δ = .ok [] := by first | rfl | rw [evE] | rw [evL]
def consR (r : Res) (q : RL) : RL := match r with
    | .ok d n => match q with
      | .ok l => .ok ((d, n) :: l)
      | .exn x => .exn x
      | .bad => .bad
    | .exn x => .exn x
    | .bad => .bad
@[simp] theorem evL_cons (e : Ex) (es : List Ex) : evL Γ (e :: es) δ = consR (evE Γ e δ) (evL Γ es δ) := by first | rfl | rw [evE] | rw [evL]
@[simp] theorem consR_ok (d : D) (n : Nat) (l : List (D × Nat)) : consR (.ok d n) (.ok l) = .ok ((d, n) :: l) := rfl
@[simp] theorem evT_eq (e : Ex) : evT Γ e δ = (evE Γ e δ).bindT truD := rfl
end
section
variable (i j : Int)
@[simp] theorem bin_add : binD .add (.int i) (.int j) = .ok (.int (i + j)) 0 := rfl
@[simp] theorem bin_sub : binD .sub (.int i) (.int j) = .ok (.int (i - j)) 0 := rfl
@[simp] theorem bin_mul : binD .mul (.int i) (.int j) = if mulOk i j then .ok (.int (i * j)) 0 else .bad := rfl
@[simp] theorem bin_fdiv : binD .fdiv (.int i) (.int j) = if divOk j then .ok (.int (i.fdiv j)) 0 else .bad := rfl
@[simp] theorem bin_mod : binD .mod (.int i) (.int j) = if j = 0 then .bad else .ok (.int (i.fmod j)) 0 := by
  show (if decide (j ≠ 0) then _ else _) = _
  by_cases h : j = 0 <;> simp [h]
@[simp] theorem bin_pow : binD .pow (.int i) (.int j) = if powOk i j then .ok (.int (i ^ j.toNat)) 0 else .bad := rfl
@[simp] theorem bin_addL (a b : List D) : binD .add (.lst a) (.lst b) = if decide (a.length + b.length ≤ szLine) then .ok (.lst (a ++ b)) 1 else .bad := rfl
@[simp] theorem bin_addT (a b : List D) : binD .add (.tup a) (.tup b) = if decide (a.length + b.length ≤ szLine) then .ok (.tup (a ++ b)) 0 else .bad := rfl
@[simp] theorem bin_mulL (a : List D) (k : Int) : binD .mul (.lst a) (.int k) = if smallI k && decide (a.length * k.toNat ≤ szLine) then .ok (.lst (List.replicate k.toNat a).flatten) 1 else .bad := rfl
@[simp] theorem bin_mulT (a : List D) (k : Int) : binD .mul (.tup a) (.int k) = if decide (k = 1) then .ok (.tup a) 0 else if !a.isEmpty && decide (2 ≤ k) && decide (k ≤ 1000) && decide (a.length ≤ 1000) then .ok (.tup (List.replicate k.toNat a).flatten) 0 else .bad := rfl
@[simp] theorem ix_lst (l : List D) (k : Int) : ixD (.lst l) (.int k) = atD l k := rfl
@[simp] theorem ix_tup (l : List D) (k : Int) : ixD (.tup l) (.int k) = atD l k := rfl
theorem atD_nat (l : List D) (k : Nat) : atD l (k : Int) = match l[k]? with | some d => .ok d 0 | none => .bad := by
  unfold atD atI ixN
  rw [if_pos (by omega)]
  by_cases h : k < l.length
  · rw [if_pos (by omega)]
    show (match l[(k : Int).toNat]? with | some d => Res.ok d 0 | none => .bad) = _
    rw [Int.toNat_natCast]
  · rw [if_neg (by omega), List.getElem?_eq_none (by omega)]
    rfl
@[simp] theorem atD_0 (l : List D) : atD l 0 = match l[0]? with | some d => .ok d 0 | none => .bad := atD_nat l 0
@[simp] theorem atD_1 (l : List D) : atD l 1 = match l[1]? with | some d => .ok d 0 | none => .bad := atD_nat l 1
@[simp] theorem atD_2 (l : List D) : atD l 2 = match l[2]? with | some d => .ok d 0 | none => .bad := atD_nat l 2
@[simp] theorem atD_3 (l : List D) : atD l 3 = match l[3]? with | some d => .ok d 0 | none => .bad := atD_nat l 3
@[simp] theorem atD_4 (l : List D) : atD l 4 = match l[4]? with | some d => .ok d 0 | none => .bad := atD_nat l 4
@[simp] theorem cmp_lt : cmpD .lt (.int i) (.int j) = .ok (.bl (decide (i < j))) 0 := rfl
@[simp] theorem cmp_le : cmpD .le (.int i) (.int j) = .ok (.bl (decide (i ≤ j))) 0 := rfl
@[simp] theorem cmp_gt : cmpD .gt (.int i) (.int j) = .ok (.bl (decide (j < i))) 0 := rfl
@[simp] theorem cmp_ge : cmpD .ge (.int i) (.int j) = .ok (.bl (decide (j ≤ i))) 0 := rfl
@[simp] theorem cmp_eq (x y : D) : cmpD .eq x y = if shp 60 x && shp 60 y then .ok (.bl (eqD x y)) 0 else .bad := by unfold cmpD; rfl
@[simp] theorem cmp_ne (x y : D) : cmpD .ne x y = if shp 60 x && shp 60 y then .ok (.bl (!eqD x y)) 0 else .bad := by unfold cmpD; rfl
@[simp] theorem cmp_nel (l : List D) : cmpD .nel (.lst l) (.lst []) = .ok (.bl (!l.isEmpty)) 0 := by unfold cmpD; rfl
@[simp] theorem cmp_isN (x : D) : cmpD .isN x .non = .ok (.bl x.isNon) 0 := by unfold cmpD; rfl
@[simp] theorem cmp_notN (x : D) : cmpD .notN x .non = .ok (.bl (!x.isNon)) 0 := by unfold cmpD; rfl
@[simp] theorem cmp_isB (a b : Bool) : cmpD .isN (.bl a) (.bl b) = .ok (.bl (decide (a = b))) 0 := rfl
@[simp] theorem cmp_notB (a b : Bool) : cmpD .notN (.bl a) (.bl b) = .ok (.bl (!decide (a = b))) 0 := rfl
@[simp] theorem isNon_non : D.non.isNon = true := rfl
@[simp] theorem isNon_int : (D.int i).isNon = false := rfl
@[simp] theorem isNon_tup (l : List D) : (D.tup l).isNon = false := rfl
@[simp] theorem isNon_lst (l : List D) : (D.lst l).isNon = false := rfl
@[simp] theorem isNon_obj (c : Nat) (k : List Nat) (l : List D) : (D.obj c k l).isNon = false := rfl
@[simp] theorem shp_int (n : Nat) : shp n (.int i) = true := by unfold shp; rfl
@[simp] theorem shp_bl (n : Nat) (b : Bool) : shp n (.bl b) = true := by unfold shp; rfl
@[simp] theorem shp_non (n : Nat) : shp n .non = true := by unfold shp; rfl
@[simp] theorem eq_int : eqD (.int i) (.int j) = decide (i = j) := by unfold eqD; rfl
@[simp] theorem eq_bl (a b : Bool) : eqD (.bl a) (.bl b) = (a == b) := by unfold eqD; rfl
@[simp] theorem tru_bl (b : Bool) : truD (.bl b) = .ok b := rfl
@[simp] theorem tru_int : truD (.int i) = .ok (i != 0) := rfl
@[simp] theorem tru_non : truD .non = .ok false := rfl
@[simp] theorem tru_lst (l : List D) : truD (.lst l) = .ok (!l.isEmpty) := rfl
@[simp] theorem tru_tup (l : List D) : truD (.tup l) = .ok (!l.isEmpty) := rfl
@[simp] theorem imm_int (n : Nat) : immB n (.int i) = true := by cases n <;> (unfold immB; rfl)
@[simp] theorem imm_bl (n : Nat) (b : Bool) : immB n (.bl b) = true := by cases n <;> (unfold immB; rfl)
@[simp] theorem imm_non (n : Nat) : immB n .non = true := by cases n <;> (unfold immB; rfl)
@[simp] theorem imm_str (n : Nat) (s : Str) : immB n (.str s) = true := by cases n <;> (unfold immB; rfl)
@[simp] theorem imm_tup (n : Nat) (l : List D) : immB n (.tup l) = immBL n l := by cases n <;> (unfold immB; rfl)
@[simp] theorem immL_nil (n : Nat) : immBL n [] = true := by unfold immBL; rfl
@[simp] theorem immL_cons (n : Nat) (d : D) (l : List D) : immBL n (d :: l) = (immB n d && immBL n l) := by rw [immBL]
@[simp] theorem isi_int_int : isiD .int (.int i) = .ok (.bl true) 0 := rfl
@[simp] theorem isi_int_bl (b : Bool) : isiD .int (.bl b) = .ok (.bl true) 0 := rfl
@[simp] theorem isi_bool_bl (b : Bool) : isiD .bool (.bl b) = .ok (.bl true) 0 := rfl
@[simp] theorem isi_bool_int : isiD .bool (.int i) = .ok (.bl false) 0 := rfl
@[simp] theorem isi_tuple_tup (l : List D) : isiD .tuple (.tup l) = .ok (.bl true) 0 := rfl
@[simp] theorem isi_list_lst (l : List D) : isiD .list (.lst l) = .ok (.bl true) 0 := rfl
@[simp] theorem isi_tuple_int : isiD .tuple (.int i) = .ok (.bl false) 0 := rfl
@[simp] theorem isi_list_int : isiD .list (.int i) = .ok (.bl false) 0 := rfl
@[simp] theorem isi_int_tup (l : List D) : isiD .int (.tup l) = .ok (.bl false) 0 := rfl
@[simp] theorem isi_int_lst (l : List D) : isiD .int (.lst l) = .ok (.bl false) 0 := rfl
@[simp] theorem isi_tuple_lst (l : List D) : isiD .tuple (.lst l) = .ok (.bl false) 0 := rfl
@[simp] theorem isi_list_tup (l : List D) : isiD .list (.tup l) = .ok (.bl false) 0 := rfl
@[simp] theorem isi_bool_tup (l : List D) : isiD .bool (.tup l) = .ok (.bl false) 0 := rfl
@[simp] theorem isi_bool_lst (l : List D) : isiD .bool (.lst l) = .ok (.bl false) 0 := rfl
@[simp] theorem bi_len (l : List D) : biD .len [.lst l] = .ok (.int (l.length : Nat)) 0 := rfl
@[simp] theorem bi_lenT (l : List D) : biD .len [.tup l] = .ok (.int (l.length : Nat)) 0 := rfl
@[simp] theorem bi_abs : biD .abs [.int i] = .ok (.int (if i < 0 then -i else i)) 0 := rfl
@[simp] theorem bi_max2 : biD .max2 [.int i, .int j] = .ok (.int (if j > i then j else i)) 0 := rfl
@[simp] theorem bi_min2 : biD .min2 [.int i, .int j] = .ok (.int (if j < i then j else i)) 0 := rfl
@[simp] theorem bi_list (l : List D) : biD .list [.lst l] = .ok (.lst l) 1 := rfl
@[simp] theorem bi_listT (l : List D) : biD .list [.tup l] = .ok (.lst l) 1 := rfl
@[simp] theorem bi_tuple (l : List D) : biD .tuple [.lst l] = .ok (.tup l) 0 := rfl
@[simp] theorem bi_tupleT (l : List D) : biD .tuple [.tup l] = .ok (.tup l) 0 := rfl
@[simp] theorem bi_intI : biD .int [.int i] = .ok (.int i) 0 := rfl
@[simp] theorem bi_intB (b : Bool) : biD .int [.bl b] = .ok (.int (if b then 1 else 0)) 0 := rfl
theorem unI_lI : ∀ ns : List Int, unI (lI ns) = some ns
  | [] => rfl
  | n :: ns => by
    show (unI (lI ns)).map (n :: ·) = _
    rw [unI_lI ns]
    rfl
@[simp] theorem bi_sumI (ns : List Int) : biD .sum [.lst (lI ns)] = .ok (.int ns.sum) 0 := by
  show (match unI (lI ns) with | some ns => Res.ok (.int ns.sum) 0 | none => .bad) = _
  rw [unI_lI]
@[simp] theorem bi_sumT (ns : List Int) : biD .sum [.tup (lI ns)] = .ok (.int ns.sum) 0 := by
  show (match unI (lI ns) with | some ns => Res.ok (.int ns.sum) 0 | none => .bad) = _
  rw [unI_lI]
@[simp] theorem bi_max1 (n : Int) (ns : List Int) : biD .max1 [.lst (lI (n :: ns))] = .ok (.int (ns.foldl max n)) 0 := by
  show (match unI (lI (n :: ns)) with | some (n :: ns) => Res.ok (.int (ns.foldl max n)) 0 | _ => .bad) = _
  rw [unI_lI]
@[simp] theorem bi_min1 (n : Int) (ns : List Int) : biD .min1 [.lst (lI (n :: ns))] = .ok (.int (ns.foldl min n)) 0 := by
  show (match unI (lI (n :: ns)) with | some (n :: ns) => Res.ok (.int (ns.foldl min n)) 0 | _ => .bad) = _
  rw [unI_lI]
@[simp] theorem bi_sortedI (ns : List Int) : biD .sorted [.lst (lI ns)] = .ok (.lst (lI (srtI ns))) 1 := by
  show (match unI (lI ns) with | some ns => Res.ok (.lst ((srtI ns).map D.int)) 1 | none => (match unR (lI ns) with | some rs => Res.ok (.lst ((rs.mergeSort fun a b => decide (a ≤ b)).map fun (r : List Int) => .lst (r.map D.int))) 1 | none => .bad)) = _
  rw [unI_lI]
  rfl
@[simp] theorem nset_I (ns : List Int) : nsetD (.lst (lI ns)) = if decide (ns.length < 4000) then .ok (.int ((ssI ns).length : Nat)) 0 else .bad := by
  show (match unI (lI ns) with | some ns => (if decide (ns.length < 4000) then Res.ok (.int ((ssI ns).length : Nat)) 0 else .bad) | none => .bad) = _
  rw [unI_lI]
@[simp] theorem sset_I (ns : List Int) : ssetD (.lst (lI ns)) = if decide (ns.length < 4000) && decide ((ssI ns).length < 64) then .ok (.lst (lI (ssI ns))) 1 else .bad := by
  show (match unI (lI ns) with | some ns => (if decide (ns.length < 4000) && decide ((ssI ns).length < 64) then Res.ok (.lst ((ssI ns).map D.int)) 1 else .bad) | none => .bad) = _
  rw [unI_lI]
  rfl
@[simp] theorem sset_T (ns : List Int) : ssetD (.tup (lI ns)) = if decide (ns.length < 4000) && decide ((ssI ns).length < 64) then .ok (.lst (lI (ssI ns))) 1 else .bad := by
  show (match unI (lI ns) with | some ns => (if decide (ns.length < 4000) && decide ((ssI ns).length < 64) then Res.ok (.lst ((ssI ns).map D.int)) 1 else .bad) | none => .bad) = _
  rw [unI_lI]
  rfl
theorem unR_rows : ∀ rs : List (List Int), unR (rs.map fun r => D.lst (lI r)) = some rs
  | [] => rfl
  | r :: rs => by
    rw [List.map_cons, unR, unI_lI, unR_rows rs]
@[simp] theorem bi_sortedR (r : List Int) (rs : List (List Int)) : biD .sorted [.lst ((r :: rs).map fun r => D.lst (lI r))] = .ok (.lst (((r :: rs).mergeSort fun a b => decide (a ≤ b)).map fun r => .lst (lI r))) 1 := by
  show (match unI ((r :: rs).map fun r => D.lst (lI r)) with | some ns => Res.ok (.lst ((srtI ns).map D.int)) 1 | none => (match unR ((r :: rs).map fun r => D.lst (lI r)) with | some rs => Res.ok (.lst ((rs.mergeSort fun a b => decide (a ≤ b)).map fun (r : List Int) => .lst (r.map D.int))) 1 | none => .bad)) = _
  rw [unR_rows]
  rfl
@[simp] theorem cmp_ltI (a b : List Int) : cmpD .lt (.lst (lI a)) (.lst (lI b)) = .ok (.bl (decide (a < b))) 0 := by
  show (match unI (lI a), unI (lI b) with | some xs, some ys => Res.ok (.bl (decide (xs < ys))) 0 | _, _ => .bad) = _
  rw [unI_lI, unI_lI]
theorem bi_reprL {d : D} {x : Str} (h : shwD d = some x) : biD .reprL [d] = .ok (.str x) 0 := by
  cases d with
  | lst l =>
    show (match shwD (.lst l) with | some x => Res.ok (.str x) 0 | none => .bad) = _
    rw [h]
  | tup l =>
    show (match shwD (.tup l) with | some x => Res.ok (.str x) 0 | none => .bad) = _
    rw [h]
  | _ => cases h
@[simp] theorem bi_reprLI : biD .reprL [.int i] = if decide (i.natAbs.log2 < 1920) then .ok (.str (toString i)) 0 else .bad := rfl
@[simp] theorem bi_reprLB (b : Bool) : biD .reprL [.bl b] = .ok (.str (if b then "True" else "False")) 0 := rfl
@[simp] theorem bi_reprLN : biD .reprL [.non] = .ok (.str "None") 0 := rfl
@[simp] theorem bi_boolI : biD .bool [.int i] = .ok (.bl (i != 0)) 0 := rfl
@[simp] theorem bi_boolB (b : Bool) : biD .bool [.bl b] = .ok (.bl b) 0 := rfl
@[simp] theorem bi_reprI : biD .repr [.int i] = if decide (i.natAbs.log2 < 1920) then .ok (.str (toString i)) 0 else .bad := rfl
@[simp] theorem bi_reprB (b : Bool) : biD .repr [.bl b] = .ok (.str (if b then "True" else "False")) 0 := rfl
@[simp] theorem bi_reprN : biD .repr [.non] = .ok (.str "None") 0 := rfl
theorem unB_lB : ∀ ns : List Bool, unB (ns.map D.bl) = some ns
  | [] => rfl
  | n :: ns => by
    show (unB (ns.map D.bl)).map (n :: ·) = _
    rw [unB_lB ns]
    rfl
@[simp] theorem bi_allB (ns : List Bool) : biD .all [.lst (ns.map D.bl)] = .ok (.bl (ns.all id)) 0 := by
  show (match unB (ns.map D.bl) with | some ns => Res.ok (.bl (ns.all id)) 0 | none => .bad) = _
  rw [unB_lB]
@[simp] theorem bi_anyB (ns : List Bool) : biD .any [.lst (ns.map D.bl)] = .ok (.bl (ns.any id)) 0 := by
  show (match unB (ns.map D.bl) with | some ns => Res.ok (.bl (ns.any id)) 0 | none => .bad) = _
  rw [unB_lB]
theorem flat_lI (ns : List Int) : (lI ns).all flatD = true := by simp [lI, flatD]
theorem cnt_lI (i : Int) : ∀ ns : List Int, (lI ns).countP (fun e => eqD e (.int i)) = ns.count i
  | [] => rfl
  | n :: ns => by
    show (D.int n :: lI ns).countP _ = _
    rw [List.countP_cons, cnt_lI i ns, List.count_cons]
    congr 1
@[simp] theorem bm_count (ns : List Int) : bmD .count (lI ns) [.int i] = .ok (.int (ns.count i : Nat)) 0 := by
  show (if (lI ns).all flatD && flatD (.int i) then _ else _) = _
  rw [flat_lI, cnt_lI]
  rfl
theorem inD_lI : ∀ ns : List Int, inD (.int i) (lI ns) = decide (i ∈ ns)
  | [] => rfl
  | n :: ns => by
    show (eqD (.int n) (.int i) || inD (.int i) (lI ns)) = _
    rw [inD_lI ns]
    unfold eqD
    by_cases h : n = i
    · subst h; simp
    · have h' : ¬ i = n := fun e => h e.symm
      simp [h, h']
@[simp] theorem cmp_inI (ns : List Int) : cmpD .isin (.int i) (.lst (lI ns)) = .ok (.bl (decide (i ∈ ns))) 0 := by
  unfold cmpD
  dsimp only
  rw [flat_lI, inD_lI]
  rfl
@[simp] theorem cmp_ninI (ns : List Int) : cmpD .notin (.int i) (.lst (lI ns)) = .ok (.bl (!decide (i ∈ ns))) 0 := by
  unfold cmpD
  dsimp only
  rw [flat_lI, inD_lI]
  rfl
@[simp] theorem sl_lst (l : List D) (lo hi : Option Int) : slD (.lst l) lo hi = .ok (.lst (cutD l lo hi)) 1 := rfl
@[simp] theorem sl_tup (l : List D) (lo hi : Option Int) : slD (.tup l) lo hi = .ok (.tup (cutD l lo hi)) 0 := rfl
@[simp] theorem optI_none (f : Option Int → Res) : optI none f = f none := rfl
@[simp] theorem optI_some (n : Nat) (f : Option Int → Res) : optI (some (.ok (.int i) n)) f = f (some i) := rfl
@[simp] theorem omit_omit : Ex.omit.isOmit = true := rfl
@[simp] theorem omit_var (k : Nat) : (Ex.var k).isOmit = false := rfl
@[simp] theorem omit_con (d : D) : (Ex.con d).isOmit = false := rfl
@[simp] theorem omit_bin (o : Bop) (a b : Ex) : (Ex.bin o a b).isOmit = false := rfl
@[simp] theorem omit_neg (a : Ex) : (Ex.neg a).isOmit = false := rfl
@[simp] theorem omit_ix (a b : Ex) : (Ex.ix a b).isOmit = false := rfl
@[simp] theorem omit_bi (b : Bi) (l : List Ex) : (Ex.bi b l).isOmit = false := rfl
@[simp] theorem omit_call (b : Nat) (l : List Ex) : (Ex.call b l).isOmit = false := rfl
end
/-- the usual cut -/
theorem cut_to (l : List D) (k : Nat) : cutD l none (some (k : Int)) = l.take k := by
  unfold cutD
  rw [HT.sIx_nat]
  show (l.drop 0).take (min k l.length - 0) = l.take k
  rw [List.drop_zero, Nat.sub_zero]
  by_cases h : k ≤ l.length
  · rw [Nat.min_eq_left h]
  · rw [Nat.min_eq_right (by omega), List.take_of_length_le (Nat.le_refl _), List.take_of_length_le (by omega)]
@[simp] theorem fn_add (Γ : Fe) (i j : Nat) (F : List D → Res) : (Γ.addFn i F).fn j = if j = i then F else Γ.fn j := rfl
end PL
namespace PL
open PySem L2
section
variable (Γ : Fe) (ρ : En)
@[simp] theorem viewA_nil : viewA [] = [] := rfl
@[simp] theorem viewA_some (d : D) (n : Nat) (b : Bool) (ρ : En) : viewA (some ⟨d, n, b⟩ :: ρ) = some d :: viewA ρ := rfl
@[simp] theorem viewA_slot (s : Sl) (ρ : En) : viewA (some s :: ρ) = some s.d :: viewA ρ := rfl
@[simp] theorem viewA_none (ρ : En) : viewA (none :: ρ) = none :: viewA ρ := rfl
@[simp] theorem viewF_nil (l : List Nat) (k : Nat) : viewF l k [] = [] := rfl
@[simp] theorem viewF_z (l : List Nat) (k : Nat) (d : D) (b : Bool) (ρ : En) : viewF l k (some ⟨d, 0, b⟩ :: ρ) = some d :: viewF l (k + 1) ρ := by
  show (if (0 : Nat) = 0 ∨ l.contains k = true then some d else none) :: _ = _
  rw [if_pos (.inl rfl)]
@[simp] theorem viewF_some (l : List Nat) (k : Nat) (d : D) (n : Nat) (b : Bool) (ρ : En) : viewF l k (some ⟨d, n, b⟩ :: ρ) = (if n = 0 ∨ l.contains k then some d else none) :: viewF l (k + 1) ρ := rfl
@[simp] theorem viewF_none (l : List Nat) (k : Nat) (ρ : En) : viewF l k (none :: ρ) = none :: viewF l (k + 1) ρ := rfl
@[simp] theorem frzs_nil (l : List Nat) (k : Nat) : frzs l k [] = [] := rfl
@[simp] theorem frzs_some (l : List Nat) (k : Nat) (d : D) (n : Nat) (b : Bool) (ρ : En) : frzs l k (some ⟨d, n, b⟩ :: ρ) = some ⟨d, if l.contains k then 0 else n, b⟩ :: frzs l (k + 1) ρ := by
  show (if l.contains k = true then some (Sl.mk d 0 b) else some ⟨d, n, b⟩) :: _ = _
  split <;> rfl
@[simp] theorem frzs_none (l : List Nat) (k : Nat) (ρ : En) : frzs l k (none :: ρ) = none :: frzs l (k + 1) ρ := rfl
@[simp] theorem locks_nil (l : List Nat) (v : Bool) (k : Nat) : locks l v k [] = [] := rfl
@[simp] theorem locks_some (l : List Nat) (v : Bool) (k : Nat) (d : D) (n : Nat) (b : Bool) (ρ : En) : locks l v k (some ⟨d, n, b⟩ :: ρ) = some ⟨d, n, if l.contains k then v else b⟩ :: locks l v (k + 1) ρ := by
  show (if l.contains k = true then some (Sl.mk d n v) else some ⟨d, n, b⟩) :: _ = _
  split <;> rfl
@[simp] theorem locks_none (l : List Nat) (v : Bool) (k : Nat) (ρ : En) : locks l v k (none :: ρ) = none :: locks l v (k + 1) ρ := rfl
def immP (r : Res) (ρ : En) : OP := match r with
    | .ok d n => if immB n d then .ok d n ρ else .bad
    | .exn x => .exn x
    | .bad => .bad
def fzP (r : Res) (ρ : En) : OP := match r with
    | .ok d n => .ok d n ρ
    | .exn x => .exn x
    | .bad => .bad
@[simp] theorem evP_imm (e : Ex) : evP Γ e .imm ρ = immP (evE Γ e (viewA ρ)) ρ := by unfold evP immP; rfl
@[simp] theorem evP_fz (e : Ex) (l : List Nat) : evP Γ e (.fz l) ρ = fzP (evE Γ e (viewF l 0 ρ)) (frzs l 0 ρ) := by unfold evP fzP; rfl
@[simp] theorem immP_ok (d : D) (n : Nat) : immP (.ok d n) ρ = if immB n d then .ok d n ρ else .bad := rfl
@[simp] theorem immP_exn (x : Exn) : immP (.exn x) ρ = .exn x := rfl
@[simp] theorem fzP_ok (d : D) (n : Nat) : fzP (.ok d n) ρ = .ok d n ρ := rfl
@[simp] theorem fzP_exn (x : Exn) : fzP (.exn x) ρ = .exn x := rfl
@[simp] theorem OP.bind_exn (x : Exn) (f : D → Nat → En → OS) : (OP.exn x).bind f = .exn x := rfl
@[simp] theorem putS_eq (i : Nat) (d : D) (n : Nat) : putS i d n ρ = if lockedAt i ρ then .bad else .nx (ρ.set i (some ⟨d, n, false⟩)) := rfl
@[simp] theorem locked_0n (ρ : En) : lockedAt 0 (none :: ρ) = false := rfl
@[simp] theorem locked_0 (d : D) (n : Nat) (b : Bool) (ρ : En) : lockedAt 0 (some ⟨d, n, b⟩ :: ρ) = b := rfl
@[simp] theorem locked_0s (s : Sl) (ρ : En) : lockedAt 0 (some s :: ρ) = s.lk := rfl
@[simp] theorem locked_s (i : Nat) (o : Option Sl) (ρ : En) : lockedAt (i + 1) (o :: ρ) = lockedAt i ρ := rfl
def lkO : Option Sl → Bool
  | none => false
  | some s => s.lk
@[simp] theorem lkO_none : lkO none = false := rfl
@[simp] theorem lkO_some (s : Sl) : lkO (some s) = s.lk := rfl
@[simp] theorem locked_0o (o : Option Sl) (ρ : En) : lockedAt 0 (o :: ρ) = lkO o := by cases o <;> rfl
@[simp] theorem viewA_cons (o : Option Sl) (ρ : En) : viewA (o :: ρ) = o.map Sl.d :: viewA ρ := rfl
@[simp] theorem locked_1 (o : Option Sl) (ρ : En) : lockedAt 1 (o :: ρ) = lockedAt 0 ρ := rfl
@[simp] theorem locked_2 (o : Option Sl) (ρ : En) : lockedAt 2 (o :: ρ) = lockedAt 1 ρ := rfl
@[simp] theorem locked_3 (o : Option Sl) (ρ : En) : lockedAt 3 (o :: ρ) = lockedAt 2 ρ := rfl
@[simp] theorem locked_4 (o : Option Sl) (ρ : En) : lockedAt 4 (o :: ρ) = lockedAt 3 ρ := rfl
@[simp] theorem locked_5 (o : Option Sl) (ρ : En) : lockedAt 5 (o :: ρ) = lockedAt 4 ρ := rfl
@[simp] theorem locked_6 (o : Option Sl) (ρ : En) : lockedAt 6 (o :: ρ) = lockedAt 5 ρ := rfl
@[simp] theorem locked_7 (o : Option Sl) (ρ : En) : lockedAt 7 (o :: ρ) = lockedAt 6 ρ := rfl
@[simp] theorem locked_8 (o : Option Sl) (ρ : En) : lockedAt 8 (o :: ρ) = lockedAt 7 ρ := rfl
@[simp] theorem locked_9 (o : Option Sl) (ρ : En) : lockedAt 9 (o :: ρ) = lockedAt 8 ρ := rfl
@[simp] theorem locked_10 (o : Option Sl) (ρ : En) : lockedAt 10 (o :: ρ) = lockedAt 9 ρ := rfl
@[simp] theorem locked_11 (o : Option Sl) (ρ : En) : lockedAt 11 (o :: ρ) = lockedAt 10 ρ := rfl
@[simp] theorem locked_12 (o : Option Sl) (ρ : En) : lockedAt 12 (o :: ρ) = lockedAt 11 ρ := rfl

@[simp] theorem exB_nil : exB Γ [] ρ = .nx ρ := by unfold exB; rfl
@[simp] theorem exB_cons (s : St) (ss : List St) : exB Γ (s :: ss) ρ = (exS Γ s ρ).seq (exB Γ ss) := by rw [exB]
@[simp] theorem ex_asg (i : Nat) (e : Ex) (f : Fz) : exS Γ (.asg i e f) ρ = (evP Γ e f ρ).bind fun d n ρ1 => putS i d n ρ1 := by rw [exS]
def unpS (tg : List Nat) (d : D) (ρ1 : En) : OS := match d with
    | .tup l => (match bindS tg l ρ1 with | some ρ2 => .nx ρ2 | none => .bad)
    | .lst l => (match bindS tg l ρ1 with | some ρ2 => .nx ρ2 | none => .bad)
    | _ => .bad
@[simp] theorem ex_asgs (tg : List Nat) (e : Ex) (f : Fz) : exS Γ (.asgs tg e f) ρ = (evP Γ e f ρ).bind fun d n ρ1 => unpS tg d ρ1 := by rw [exS]; congr 1
@[simp] theorem unpS_tup (tg : List Nat) (l : List D) (ρ1 : En) : unpS tg (.tup l) ρ1 = match bindS tg l ρ1 with | some ρ2 => .nx ρ2 | none => .bad := rfl
@[simp] theorem unpS_lst (tg : List Nat) (l : List D) (ρ1 : En) : unpS tg (.lst l) ρ1 = match bindS tg l ρ1 with | some ρ2 => .nx ρ2 | none => .bad := rfl
@[simp] theorem bindS_nil : bindS [] [] ρ = some ρ := rfl
@[simp] theorem bindS_cons (i : Nat) (is : List Nat) (d : D) (ds : List D) : bindS (i :: is) (d :: ds) ρ = if lockedAt i ρ then none else bindS is ds (ρ.set i (some ⟨d, 0, false⟩)) := rfl
def parS (i j : Nat) (r : RL) (ρ : En) : OS := match r with
    | .ok [(d1, n1), (d2, n2)] => if immB n1 d1 && immB n2 d2 && decide (i ≠ j) then (putS i d1 n1 ρ).seq (putS j d2 n2) else .bad
    | .exn x => .exn x
    | _ => .bad
@[simp] theorem ex_par (i j : Nat) (a b : Ex) : exS Γ (.par i j a b) ρ = parS i j (evL Γ [a, b] (viewA ρ)) ρ := by rw [exS]; unfold parS; rfl
@[simp] theorem parS_ok (i j : Nat) (d1 d2 : D) (n1 n2 : Nat) : parS i j (.ok [(d1, n1), (d2, n2)]) ρ = if immB n1 d1 && immB n2 d2 && decide (i ≠ j) then (putS i d1 n1 ρ).seq (putS j d2 n2) else .bad := rfl
def retS (r : Res) : OS := match r with
    | .ok d n => .rt d n
    | .exn x => .exn x
    | .bad => .bad
@[simp] theorem retS_ok (d : D) (n : Nat) : retS (.ok d n) = .rt d n := rfl
@[simp] theorem retS_exn (x : Exn) : retS (.exn x) = .exn x := rfl
@[simp] theorem ex_ret (e : Ex) : exS Γ (.ret e) ρ = retS (evE Γ e (viewA ρ)) := by rw [exS]; unfold retS; rfl
@[simp] theorem ex_retv (i : Nat) : exS Γ (.retv i) ρ = match ρ[i]? with
    | some (some s) => .rt s.d s.n
    | _ => .bad := by first | (rw [exS]; done) | (rw [exS]; rfl)
@[simp] theorem ex_rett (l : List Nat) : exS Γ (.rett l) ρ = if decide l.Nodup && decide (l.length ≤ szLine) then (match slotsN ρ l with
      | some ds => .rt (.tup (ds.map (·.1))) (dep ds)
      | none => .bad) else .bad := by first | (rw [exS]; done) | (rw [exS]; rfl)
@[simp] theorem slotsN_nil : slotsN ρ [] = some [] := rfl
@[simp] theorem slotsN_cons (i : Nat) (is : List Nat) : slotsN ρ (i :: is) = match ρ[i]? with
    | some (some s) => (slotsN ρ is).map ((s.d, s.n) :: ·)
    | _ => none := rfl
@[simp] theorem ex_retN : exS Γ .retN ρ = .rt .non 0 := by rw [exS]
def iteS (r : RT) (a b : OS) : OS := match r with
    | .ok true => a
    | .ok false => b
    | .exn x => .exn x
    | .bad => .bad
@[simp] theorem iteS_ok (b : Bool) (x y : OS) : iteS (.ok b) x y = if b then x else y := by cases b <;> rfl
@[simp] theorem iteS_exn (e : Exn) (x y : OS) : iteS (.exn e) x y = .exn e := rfl
@[simp] theorem ex_ife (c : Ex) (a b : List St) : exS Γ (.ife c a b) ρ = iteS (evT Γ c (viewA ρ)) (exB Γ a ρ) (exB Γ b ρ) := by rw [exS]; unfold iteS; rfl
@[simp] theorem ex_whl (c : Ex) (b : List St) : exS Γ (.whl c b) ρ = whlC (fun ρ => evT Γ c (viewA ρ)) (exB Γ b) ρ := by rw [exS]
def exD (r : Res) (ρ : En) : OS := match r with
    | .ok _ _ => .nx ρ
    | .exn x => .exn x
    | .bad => .bad
@[simp] theorem exD_ok (d : D) (n : Nat) : exD (.ok d n) ρ = .nx ρ := rfl
@[simp] theorem exD_exn (x : Exn) : exD (.exn x) ρ = .exn x := rfl
@[simp] theorem ex_ex (e : Ex) : exS Γ (.ex e) ρ = exD (evE Γ e (viewA ρ)) ρ := by rw [exS]; unfold exD; rfl
@[simp] theorem ex_raise0 (c : Nat) : exS Γ (.raise c none) ρ = if Γ.rz c then .exn ⟨c, none⟩ else .bad := by rw [exS]
def raS (c : Nat) (r : Res) : OS := match r with
    | .ok d _ => if flatD d then .exn ⟨c, some d⟩ else .bad
    | .exn x => .exn x
    | .bad => .bad
@[simp] theorem raS_ok (c : Nat) (d : D) (n : Nat) : raS c (.ok d n) = if flatD d then .exn ⟨c, some d⟩ else .bad := rfl
@[simp] theorem raS_exn (c : Nat) (x : Exn) : raS c (.exn x) = .exn x := rfl
@[simp] theorem flatD_int (i : Int) : flatD (.int i) = true := rfl
@[simp] theorem ex_raise1 (c : Nat) (e : Ex) : exS Γ (.raise c (some e)) ρ = if Γ.ra c then raS c (evE Γ e (viewA ρ)) else .bad := by
  rw [exS]
  unfold raS
  rfl
def trS (r : Res) (k : Exn → OS) (ρ : En) : OS := match r with
    | .ok _ _ => .nx ρ
    | .exn x => k x
    | .bad => .bad
@[simp] theorem trS_ok (d : D) (n : Nat) (k : Exn → OS) : trS (.ok d n) k ρ = .nx ρ := rfl
@[simp] theorem trS_exn (x : Exn) (k : Exn → OS) : trS (.exn x) k ρ = k x := rfl
def trX (r : Option Bool) (a b : OS) : OS := match r with
    | some true => a
    | some false => b
    | none => .bad
@[simp] theorem trX_t (a b : OS) : trX (some true) a b = a := rfl
@[simp] theorem trX_f (a b : OS) : trX (some false) a b = b := rfl
def prS (o : OS) (k : En → OS) : OS := match o with
    | .nx ρ => k ρ
    | _ => .bad
@[simp] theorem prS_nx (ρ : En) (k : En → OS) : prS (.nx ρ) k = k ρ := rfl
@[simp] theorem ex_tr (p c : Nat) (e : Ex) (b : List St) : exS Γ (.tr p e c b) ρ = trS (evE Γ e (viewA ρ)) (fun x => trX (Γ.sub x.c c) (if lockedAt p ρ || !decide (p < ρ.length) then .bad else outS p (exB Γ b (ρ.set p (some ⟨.exc x.c x.a.toList, 0, false⟩)))) (.exn x)) ρ := by
  rw [exS]
  unfold trS trX
  rfl
@[simp] theorem ex_tr2 (e : Ex) (c1 : Nat) (b1 : List St) (p c : Nat) (b : List St) : exS Γ (.tr2 e c1 b1 p c b) ρ = trS (evE Γ e (viewA ρ)) (fun x => trX (Γ.sub x.c c1) (outQ (exB Γ b1 ρ)) (trX (Γ.sub x.c c) (if lockedAt p ρ || !decide (p < ρ.length) then .bad else outS p (exB Γ b (ρ.set p (some ⟨.exc x.c x.a.toList, 0, false⟩)))) (.exn x))) ρ := by
  rw [exS]
  unfold trS trX
  rfl
@[simp] theorem outQ_nx : outQ (.nx ρ) = if ρ.all nExO then .nx ρ else .bad := rfl
@[simp] theorem outQ_rt (d : D) (n : Nat) : outQ (.rt d n) = if nEx d then .rt d n else .bad := rfl
@[simp] theorem ex_tra (pre : St) (p c : Nat) (e : Ex) (b : List St) : exS Γ (.tra pre p e c b) ρ = prS (exS Γ pre ρ) fun ρ => exS Γ (.tr p e c b) ρ := by
  rw [exS]
  unfold prS
  cases exS Γ pre ρ <;> first | rfl | (rw [exS])
@[simp] theorem outS_nx (p : Nat) : outS p (.nx ρ) = if (ρ.set p none).all nExO && !lockedAt p ρ then .nx (ρ.set p none) else .bad := rfl
@[simp] theorem outS_rt (p : Nat) (d : D) (n : Nat) : outS p (.rt d n) = if nEx d then .rt d n else .bad := rfl
@[simp] theorem nExO_none : nExO none = true := rfl
@[simp] theorem nExO_some (s : Sl) : nExO (some s) = nEx s.d := rfl
@[simp] theorem nEx_int (i : Int) : nEx (.int i) = true := by unfold nEx; rfl
@[simp] theorem nEx_bl (i : Bool) : nEx (.bl i) = true := by unfold nEx; rfl
@[simp] theorem nEx_str (i : Str) : nEx (.str i) = true := by unfold nEx; rfl
@[simp] theorem nEx_non : nEx .non = true := by unfold nEx; rfl
@[simp] theorem nEx_tup (l : List D) : nEx (.tup l) = nExL l := by rw [nEx]
@[simp] theorem nEx_lst (l : List D) : nEx (.lst l) = nExL l := by rw [nEx]
@[simp] theorem nEx_obj (c : Nat) (k : List Nat) (l : List D) : nEx (.obj c k l) = nExL l := by rw [nEx]
@[simp] theorem nExL_nil : nExL [] = true := by unfold nExL; rfl
@[simp] theorem nExL_cons (d : D) (l : List D) : nExL (d :: l) = (nEx d && nExL l) := by rw [nExL]
theorem nExL_all : ∀ {l : List D}, (∀ d ∈ l, nEx d = true) → nExL l = true
  | [], _ => nExL_nil
  | d :: l, h => by rw [nExL_cons, h d List.mem_cons_self, nExL_all fun x hx => h x (List.mem_cons_of_mem _ hx)]; rfl
@[simp] theorem nExL_lI (l : List Int) : nExL (lI l) = true := nExL_all fun d hd => by
  unfold lI at hd
  obtain ⟨i, _, rfl⟩ := List.mem_map.mp hd
  exact nEx_int i
@[simp] theorem ex_pass : exS Γ .pass ρ = .nx ρ := by rw [exS]
@[simp] theorem ex_brk : exS Γ .brk ρ = .bk ρ := by rw [exS]
@[simp] theorem ex_cont : exS Γ .cont ρ = .ct ρ := by rw [exS]
def itS (k : SK) (r : RL) (f : List D → OS) : OS := match r with
      | .ok l => (match items k (l.map (·.1)) with
        | some xs => f xs
        | none => .bad)
      | .exn x => .exn x
      | .bad => .bad
@[simp] theorem itS_ok (k : SK) (l : List (D × Nat)) (f : List D → OS) : itS k (.ok l) f = match items k (l.map (·.1)) with | some xs => f xs | none => .bad := rfl
@[simp] theorem ex_foR1 (args : List Ex) (tg lk : List Nat) (f : Fz) (b : List St) : exS Γ (.fo .rng1 args tg lk f b) ρ = itS .rng1 (evL Γ args (viewA ρ)) fun xs => forS tg (exB Γ b) xs ρ := by cases f <;> (rw [exS]; unfold itS; rfl)
@[simp] theorem ex_foR2 (args : List Ex) (tg lk : List Nat) (f : Fz) (b : List St) : exS Γ (.fo .rng2 args tg lk f b) ρ = itS .rng2 (evL Γ args (viewA ρ)) fun xs => forS tg (exB Γ b) xs ρ := by cases f <;> (rw [exS]; unfold itS; rfl)
@[simp] theorem ex_foR3 (args : List Ex) (tg lk : List Nat) (f : Fz) (b : List St) : exS Γ (.fo .rng3 args tg lk f b) ρ = itS .rng3 (evL Γ args (viewA ρ)) fun xs => forS tg (exB Γ b) xs ρ := by cases f <;> (rw [exS]; unfold itS; rfl)
@[simp] theorem ex_foF (k : SK) (hk : k.isRng = false) (args : List Ex) (tg lk q : List Nat) (b : List St) : exS Γ (.fo k args tg lk (.fz q) b) ρ = itS k (evL Γ args (viewF q 0 ρ)) fun xs => forS tg (exB Γ b) xs (frzs q 0 ρ) := by
  rw [exS]
  rw [hk]
  unfold itS
  rfl
@[simp] theorem ex_foI (k : SK) (hk : k.isRng = false) (args : List Ex) (tg lk : List Nat) (b : List St) : exS Γ (.fo k args tg lk .imm b) ρ = itS k (evL Γ args (viewF lk 0 ρ)) fun xs => if immBL 0 xs && !anyLocked lk ρ then (forS tg (exB Γ b) xs (locks lk true 0 ρ)).unlock lk else .bad := by
  rw [exS]
  rw [hk]
  unfold itS
  rfl
@[simp] theorem ex_foSq (args : List Ex) (tg lk q : List Nat) (b : List St) : exS Γ (.fo .seq args tg lk (.fz q) b) ρ = itS .seq (evL Γ args (viewF q 0 ρ)) fun xs => forS tg (exB Γ b) xs (frzs q 0 ρ) := ex_foF Γ ρ .seq rfl args tg lk q b
@[simp] theorem ex_foEn (args : List Ex) (tg lk q : List Nat) (b : List St) : exS Γ (.fo .enum args tg lk (.fz q) b) ρ = itS .enum (evL Γ args (viewF q 0 ρ)) fun xs => forS tg (exB Γ b) xs (frzs q 0 ρ) := ex_foF Γ ρ .enum rfl args tg lk q b
@[simp] theorem ex_foIt (args : List Ex) (tg lk q : List Nat) (b : List St) : exS Γ (.fo .items args tg lk (.fz q) b) ρ = itS .items (evL Γ args (viewF q 0 ρ)) fun xs => forS tg (exB Γ b) xs (frzs q 0 ρ) := ex_foF Γ ρ .items rfl args tg lk q b
@[simp] theorem ex_foEz (args : List Ex) (tg lk q : List Nat) (b : List St) : exS Γ (.fo .ezip args tg lk (.fz q) b) ρ = itS .ezip (evL Γ args (viewF q 0 ρ)) fun xs => forS tg (exB Γ b) xs (frzs q 0 ρ) := ex_foF Γ ρ .ezip rfl args tg lk q b
@[simp] theorem rng_ezip : SK.ezip.isRng = false := rfl
@[simp] theorem items_ezip (a b : List D) : items .ezip [.lst a, .lst b] = some ((a.zip b).zipIdx.map fun p => .tup [.int (p.2 : Nat), .tup [p.1.1, p.1.2]]) := rfl
@[simp] theorem rng_items : SK.items.isRng = false := rfl
@[simp] theorem ex_foZi (args : List Ex) (tg lk q : List Nat) (b : List St) : exS Γ (.fo .zip args tg lk (.fz q) b) ρ = itS .zip (evL Γ args (viewF q 0 ρ)) fun xs => forS tg (exB Γ b) xs (frzs q 0 ρ) := ex_foF Γ ρ .zip rfl args tg lk q b
@[simp] theorem ex_foSqI (args : List Ex) (tg lk : List Nat) (b : List St) : exS Γ (.fo .seq args tg lk .imm b) ρ = itS .seq (evL Γ args (viewF lk 0 ρ)) fun xs => if immBL 0 xs && !anyLocked lk ρ then (forS tg (exB Γ b) xs (locks lk true 0 ρ)).unlock lk else .bad := ex_foI Γ ρ .seq rfl args tg lk b
@[simp] theorem rng_seq : SK.seq.isRng = false := rfl
@[simp] theorem rng_enum : SK.enum.isRng = false := rfl
@[simp] theorem rng_zip : SK.zip.isRng = false := rfl
@[simp] theorem items_seqL (l : List D) : items .seq [.lst l] = some l := rfl
@[simp] theorem items_seqT (l : List D) : items .seq [.tup l] = some l := rfl
@[simp] theorem items_seqD (ks vs : List D) : items .seq [.dct ks vs] = if !ks.isEmpty && (ks.mapM D.keyT).isSome then some ks else none := rfl
@[simp] theorem items_itD (ks vs : List D) : items .items [.dct ks vs] = if !ks.isEmpty && (ks.mapM D.keyT).isSome then some ((ks.zip vs).map fun p => .tup [p.1, p.2]) else none := rfl
@[simp] theorem items_rng1 (j : Int) : items .rng1 [.int j] = if smallI j then some (rngD 0 j.toNat) else none := rfl
@[simp] theorem items_rng2 (i j : Int) : items .rng2 [.int i, .int j] = if smallI i && smallI j then some (rngD i (j - i).toNat) else none := rfl
@[simp] theorem items_enum (l : List D) : items .enum [.lst l] = some (l.zipIdx.map fun p => .tup [.int (p.2 : Nat), p.1]) := rfl
@[simp] theorem items_zipT (a b : List D) : items .zip [.tup a, .tup b] = some ((a.zip b).map fun p => .tup [p.1, p.2]) := rfl
@[simp] theorem items_zip (a b : List D) : items .zip [.lst a, .lst b] = some ((a.zip b).map fun p => .tup [p.1, p.2]) := rfl
@[simp] theorem takeS_one (i : Nat) (d : D) : takeS [i] d ρ = if lockedAt i ρ then none else some (ρ.set i (some ⟨d, 0, false⟩)) := by unfold takeS; rfl
@[simp] theorem takeS_two (i j : Nat) (l : List Nat) (ds : List D) : takeS (i :: j :: l) (.tup ds) ρ = bindS (i :: j :: l) ds ρ := by unfold takeS; rfl
@[simp] theorem takeE_one (i : Nat) (d : D) (δ : Ev) : takeE [i] d δ = some (δ.set i (some d)) := by unfold takeE; rfl
@[simp] theorem takeE_two (i j : Nat) (l : List Nat) (ds : List D) (δ : Ev) : takeE (i :: j :: l) (.tup ds) δ = bindE (i :: j :: l) ds δ := by unfold takeE; rfl
@[simp] theorem bindE_nil (δ : Ev) : bindE [] [] δ = some δ := rfl
@[simp] theorem bindE_cons (i : Nat) (is : List Nat) (d : D) (ds : List D) (δ : Ev) : bindE (i :: is) (d :: ds) δ = bindE is ds (δ.set i (some d)) := rfl
@[simp] theorem wipeE_nil (δ : Ev) : wipeE δ [] = δ := rfl
@[simp] theorem wipeE_cons (δ : Ev) (v : Nat) (vs : List Nat) : wipeE δ (v :: vs) = (wipeE δ vs).set v none := rfl
end
@[simp] theorem newL_eq (l : List (D × Nat)) : newL l = if decide (l.length ≤ szLine) then .ok (.lst (l.map (·.1))) (dep l + 1) else .bad := rfl
@[simp] theorem newT_eq (l : List (D × Nat)) : newT l = if decide (l.length ≤ szLine) then .ok (.tup (l.map (·.1))) (dep l) else .bad := rfl
@[simp] theorem dep_nil : dep [] = 9 := rfl
@[simp] theorem dep_cons (d : D) (n : Nat) (l : List (D × Nat)) : dep ((d, n) :: l) = if immB n d then dep l else min n (dep l) := rfl
/-- what a def answers -/
def endF (o : OS) : Res := match o with
    | .nx _ => .ok .non 0
    | .rt d n => .ok d n
    | .exn e => .exn e
    | _ => .bad
@[simp] theorem endF_nx (ρ : En) : endF (.nx ρ) = .ok .non 0 := rfl
@[simp] theorem endF_rt (d : D) (n : Nat) : endF (.rt d n) = .ok d n := rfl
@[simp] theorem endF_exn (e : Exn) : endF (.exn e) = .exn e := rfl
@[simp] theorem runF_eq (Γ : Fe) (slots np : Nat) (b : List St) (ds : List D) : runF Γ slots np b ds = if ds.length = np then endF (exB Γ b (ds.map (fun d => some ⟨d, 0, false⟩) ++ List.replicate (slots - np) none)) else .bad := by unfold runF endF; rfl

section
variable (Γ : Fe) (ρ : En)
@[simp] theorem evPs_nil (δ : Ev) : evPs Γ δ [] = some [] := rfl
def ixP (r : Res) (q : Option (List PS1)) : Option (List PS1) := match r with
    | .ok (.int k) _ => q.map (.ix k :: ·)
    | _ => none
@[simp] theorem ixP_ok (k : Int) (n : Nat) (q : List PS1) : ixP (.ok (.int k) n) (some q) = some (.ix k :: q) := rfl
@[simp] theorem evPs_ix (δ : Ev) (e : Ex) (ps : List Pa) : evPs Γ δ (.ix e :: ps) = ixP (evE Γ e δ) (evPs Γ δ ps) := by rw [evPs]; unfold ixP; rfl
def appS (j : Nat) (qs : Option (List PS1)) (r : List PS1 → OS) (ρ : En) : OS := match qs with
    | some qs => if pathOk j qs ρ then r qs else .bad
    | none => .bad
@[simp] theorem appS_some (j : Nat) (qs : List PS1) (r : List PS1 → OS) : appS j (some qs) r ρ = if pathOk j qs ρ then r qs else .bad := rfl
@[simp] theorem ex_app (j : Nat) (ps : List Pa) (e : Ex) (f : Fz) : exS Γ (.app j ps e f) ρ = appS j (evPs Γ (viewA ρ) ps) (fun qs => (evP Γ e f ρ).bind fun d n ρ1 => mutS j qs d n (fun l => if decide (l.length < szLine) then some (l ++ [d]) else none) ρ1) ρ := by rw [exS]; unfold appS; rfl
def extS (j : Nat) (qs : List PS1) (r : Res) (ρ : En) : OS := match r with
      | .ok (.lst l2) _ => if l2.all flatD || immBL 0 l2 then mutS j qs .non 0 (fun l => if decide (l.length + l2.length ≤ szLine) then some (l ++ l2) else none) ρ else .bad
      | .ok (.tup l2) _ => if immBL 0 l2 then mutS j qs .non 0 (fun l => if decide (l.length + l2.length ≤ szLine) then some (l ++ l2) else none) ρ else .bad
      | .exn x => .exn x
      | _ => .bad
@[simp] theorem ex_ext (j : Nat) (ps : List Pa) (e : Ex) : exS Γ (.ext j ps e) ρ = appS j (evPs Γ (viewA ρ) ps) (fun qs => extS j qs (evE Γ e (viewA ρ)) ρ) ρ := by rw [exS]; unfold appS extS; rfl
@[simp] theorem extS_ok (j n : Nat) (qs : List PS1) (l2 : List D) : extS j qs (.ok (.lst l2) n) ρ = if l2.all flatD || immBL 0 l2 then mutS j qs .non 0 (fun l => if decide (l.length + l2.length ≤ szLine) then some (l ++ l2) else none) ρ else .bad := rfl
@[simp] theorem extS_tup (j n : Nat) (qs : List PS1) (l2 : List D) : extS j qs (.ok (.tup l2) n) ρ = if immBL 0 l2 then mutS j qs .non 0 (fun l => if decide (l.length + l2.length ≤ szLine) then some (l ++ l2) else none) ρ else .bad := rfl
noncomputable def fosS (Γ : Fe) (tg : List Nat) (b : List St) (r : Res) (ρ : En) : OS := match r with
    | .ok (.lst l) n => if decide (0 < n) && immBL 0 l then forS tg (exB Γ b) l ρ else .bad
    | .exn x => .exn x
    | _ => .bad
@[simp] theorem ex_fos (e : Ex) (tg : List Nat) (b : List St) : exS Γ (.fos e tg b) ρ = fosS Γ tg b (evE Γ e (viewA ρ)) ρ := by rw [exS]; unfold fosS; rfl
@[simp] theorem fosS_ok (tg : List Nat) (b : List St) (l : List D) (n : Nat) : fosS Γ tg b (.ok (.lst l) n) ρ = if decide (0 < n) && immBL 0 l then forS tg (exB Γ b) l ρ else .bad := rfl
def popS (i j : Nat) (qs : List PS1) (ρ : En) : OS := match lastP j qs ρ with
        | some d => if (immB 0 d || pop1 j qs ρ) && decide (i ≠ j) then (mutS j qs .non 0 (fun l => some l.dropLast) ρ).seq (putS i d 0) else .bad
        | none => .bad
@[simp] theorem ex_pop (i j : Nat) (ps : List Pa) : exS Γ (.pop i j ps) ρ = appS j (evPs Γ (viewA ρ) ps) (fun qs => popS i j qs ρ) ρ := by rw [exS]; unfold appS popS; rfl
@[simp] theorem ex_clr (j : Nat) (ps : List Pa) : exS Γ (.clr j ps) ρ = appS j (evPs Γ (viewA ρ) ps) (fun qs => mutS j qs .non 0 (fun _ => some []) ρ) ρ := by rw [exS]; unfold appS; rfl
def augS (i : Nat) (a : Int) (r : Res) (ρ : En) : OS := match r with
        | .ok (.int b) _ => putS i (.int (a + b)) 0 ρ
        | .exn x => .exn x
        | _ => .bad
@[simp] theorem augS_ok (i n : Nat) (a b : Int) : augS i a (.ok (.int b) n) ρ = putS i (.int (a + b)) 0 ρ := rfl
@[simp] theorem ex_aug (i : Nat) (e : Ex) : exS Γ (.aug i e) ρ = match ρ[i]? with
    | some (some s) => (match s.d with
      | .int a => augS i a (evE Γ e (viewA ρ)) ρ
      | _ => .bad)
    | _ => .bad := by rw [exS]; unfold augS; rfl
def setS (j : Nat) (qs : Option (List PS1)) (d : D) (n : Nat) (ρ1 : En) : OS := match qs with
    | some qs => match qs.getLast? with
      | some (.ix k) => mutS j qs.dropLast d n (fun l => match ixN l.length k with | some m => some (l.set m d) | none => none) ρ1
      | _ => .bad
    | none => .bad
@[simp] theorem setS_one (j : Nat) (k : Int) (d : D) (n : Nat) : setS j (some [.ix k]) d n ρ = mutS j [] d n (fun l => match ixN l.length k with | some m => some (l.set m d) | none => none) ρ := rfl
@[simp] theorem setS_two (j : Nat) (k k2 : Int) (d : D) (n : Nat) : setS j (some [.ix k, .ix k2]) d n ρ = mutS j [.ix k] d n (fun l => match ixN l.length k2 with | some m => some (l.set m d) | none => none) ρ := rfl
@[simp] theorem setS_three (j : Nat) (k k2 k3 : Int) (d : D) (n : Nat) : setS j (some [.ix k, .ix k2, .ix k3]) d n ρ = mutS j [.ix k, .ix k2] d n (fun l => match ixN l.length k3 with | some m => some (l.set m d) | none => none) ρ := rfl
@[simp] theorem ex_setp (j : Nat) (ps : List Pa) (i e : Ex) (f : Fz) : exS Γ (.setp j ps i e f) ρ = (evP Γ e f ρ).bind fun d n ρ1 => setS j (evPs Γ (viewA ρ1) (ps ++ [.ix i])) d n ρ1 := by rw [exS]; unfold setS; rfl
def kyS (r : Res) (f : PL.D → OS) : OS := match r with
      | .ok k _ => f k
      | .exn x => .exn x
      | .bad => .bad
@[simp] theorem kyS_ok (k : PL.D) (n : Nat) (f : PL.D → OS) : kyS (.ok k n) f = f k := rfl
def stdS (j : Nat) (qs : Option (List PS1)) (d : PL.D) (r : Res) (ρ1 : En) : OS := match qs with
    | some qs => if immB 0 d && pathD j qs ρ1 then kyS r fun k => mutD j qs k d ρ1 else .bad
    | none => .bad
@[simp] theorem stdS_some (j : Nat) (qs : List PS1) (d : PL.D) (r : Res) : stdS j (some qs) d r ρ = if immB 0 d && pathD j qs ρ then kyS r fun k => mutD j qs k d ρ else .bad := rfl
@[simp] theorem ex_setd (j : Nat) (ps : List Pa) (i e : Ex) (f : Fz) : exS Γ (.setd j ps i e f) ρ = (evP Γ e f ρ).bind fun d n ρ1 => stdS j (evPs Γ (viewA ρ1) ps) d (evE Γ i (viewA ρ1)) ρ1 := by rw [exS]; unfold stdS kyS; rfl
@[simp] theorem ex_setf (j a : Nat) (e : Ex) (f : Fz) : exS Γ (.setf j a e f) ρ = (evP Γ e f ρ).bind fun d n ρ1 => setA Γ.fo j a d n ρ1 := by rw [exS]
theorem pathOk_eq (j : Nat) (qs : List PS1) : pathOk j qs ρ = match ρ[j]? with
  | some (some s) => (match getP s.d qs with | some (.lst _, u) => decide (u < s.n) | _ => false)
  | _ => false := rfl
theorem mutS_eq (j : Nat) (ps : List PS1) (v : D) (n : Nat) (f : List D → Option (List D)) : mutS j ps v n f ρ =
  match ρ[j]? with
  | some (some s) => if s.lk then .bad else match getP s.d ps with
    | some (.lst l, u) => match f l with
      | some l' => if u < s.n then
          .nx (ρ.set j (some ⟨putP (.lst l') s.d ps, if immB n v ∨ s.n ≤ u + 1 + n then s.n else u + 1 + n, false⟩))
        else .bad
      | none => .bad
    | _ => .bad
  | _ => .bad := rfl
@[simp] theorem ex_fog (j : Nat) (tg : List Nat) (k : Ex) (b : List St) : exS Γ (.fog j tg k b) ρ = fogS Γ j tg k (exB Γ b) ρ := by rw [exS]
@[simp] theorem ex_sda (j : Nat) (k e : Ex) : exS Γ (.sda j k e) ρ = sdaS Γ j k e ρ := by rw [exS]
@[simp] theorem ex_exf (j : Nat) (ps : List Pa) (e : Ex) (f : Fz) : exS Γ (.exf j ps e f) ρ = appS j (evPs Γ (viewA ρ) ps) (fun qs => (evP Γ e f ρ).bind fun d n ρ1 => mutS j qs d n (exfF d) ρ1) ρ := by rw [exS]; unfold appS; rfl
def exlS (j : Nat) (qs : List PS1) (r : Res) (ρ : En) : OS := match r with
      | .ok (.lst l2) _ => mutS j qs (.lst l2) 0 (fun l => if decide (l.length + l2.length ≤ szLine) then some (l ++ l2) else none) ρ
      | .exn x => .exn x
      | _ => .bad
@[simp] theorem ex_exl (j : Nat) (ps : List Pa) (e : Ex) (q : List Nat) : exS Γ (.exl j ps e q) ρ = appS j (evPs Γ (viewA ρ) ps) (fun qs => exlS j qs (evE Γ e (viewF q 0 ρ)) (frzs q 0 ρ)) ρ := by rw [exS]; unfold appS exlS; rfl
@[simp] theorem exlS_ok (j n : Nat) (qs : List PS1) (l2 : List D) : exlS j qs (.ok (.lst l2) n) ρ = mutS j qs (.lst l2) 0 (fun l => if decide (l.length + l2.length ≤ szLine) then some (l ++ l2) else none) ρ := rfl
@[simp] theorem ex_appf (j a : Nat) (e : Ex) (f : Fz) : exS Γ (.appf j a e f) ρ = if foAt Γ.fo j a ρ && pathOk j [.fld a] ρ then (evP Γ e f ρ).bind fun d n ρ1 => mutS j [.fld a] d n (fun l => if decide (l.length < szLine) then some (l ++ [d]) else none) ρ1 else .bad := by rw [exS]
@[simp] theorem ex_exm (m : MX) : exS Γ (.exm m) ρ = (evM Γ m ρ).bindM fun _ _ ρ1 => .nx ρ1 := by rw [exS]
@[simp] theorem ex_asm (t : Nat) (m : MX) : exS Γ (.asm t m) ρ = (evM Γ m ρ).bindM fun d n ρ1 => putS t d n ρ1 := by rw [exS]
@[simp] theorem ex_apm (t : Nat) (m : MX) : exS Γ (.apm t m) ρ = if pathOk t [] ρ then (evM Γ m ρ).bindM fun d n ρ1 => mutS t [] d n (fun l => if decide (l.length < szLine) then some (l ++ [d]) else none) ρ1 else .bad := by rw [exS]
@[simp] theorem ex_ams (tg : List Nat) (m : MX) : exS Γ (.ams tg m) ρ = amsS tg (evM Γ m ρ) := by rw [exS]
@[simp] theorem evM_pop (j : Nat) (k : Ex) : evM Γ (.pop j k) ρ = evPop Γ j k ρ := rfl
@[simp] theorem evM_upd (j i : Nat) : evM Γ (.upd j i) ρ = evUpd j i ρ := rfl
@[simp] theorem amsS_ok (tg : List Nat) (l : List D) (n : Nat) (ρ1 : En) : amsS tg (.ok (.tup l) n ρ1) = (match bindS tg l ρ1 with | some ρ2 => .nx ρ2 | none => .bad) := rfl
@[simp] theorem evM_call (j i : Nat) (es : List Ex) (f : Bool) : evM Γ (.call j i es f) ρ = evMC Γ j i es f ρ := rfl
@[simp] theorem getP_nil (d : D) : getP d [] = some (d, 0) := by cases d <;> rfl
@[simp] theorem putP_nil (e d : D) : putP e d [] = e := by cases d <;> rfl
end

theorem rngD_len (lo : Int) (n : Nat) : (rngD lo n).length = n := by unfold rngD; rw [List.length_map, List.length_range]
theorem rngD_at {lo : Int} {n i : Nat} {d : D} (h : (rngD lo n)[i]? = some d) : i < n ∧ d = .int (lo + (i : Nat)) := by
  have hi := (List.getElem?_eq_some_iff.mp h).1
  rw [rngD_len] at hi
  unfold rngD at h
  rw [List.getElem?_map, List.getElem?_range hi] at h
  exact ⟨hi, (Option.some.inj h).symm⟩
/-- a for that runs to its end -/
theorem forS_to {tg : List Nat} {b : En → OS} (I : Nat → En → Prop) : ∀ {xs : List D} {ρ : En} (k : Nat), I k ρ → (∀ i d ρ, xs[i]? = some d → I (k + i) ρ → ∃ ρ1 ρ2, takeS tg d ρ = some ρ1 ∧ (b ρ1 = .nx ρ2 ∨ b ρ1 = .ct ρ2) ∧ I (k + i + 1) ρ2) →
    ∃ ρ', forS tg b xs ρ = .nx ρ' ∧ I (k + xs.length) ρ'
  | [], ρ, k, h0, _ => ⟨ρ, rfl, h0⟩
  | x :: xs, ρ, k, h0, hs => by
    obtain ⟨ρ1, ρ2, e1, e2, h2⟩ := hs 0 x ρ rfl h0
    obtain ⟨ρ', e3, h3⟩ := forS_to (fun i => I i) (xs := xs) (ρ := ρ2) (k + 1) h2 fun i d ρ hd hi => by
      have := hs (i + 1) d ρ (by simpa using hd) (by rw [show k + (i + 1) = k + 1 + i by omega]; exact hi)
      rw [show k + (i + 1) + 1 = k + 1 + i + 1 by omega] at this
      exact this
    refine ⟨ρ', ?_, by rw [List.length_cons, show k + (xs.length + 1) = k + 1 + xs.length by omega]; exact h3⟩
    unfold forS
    rw [e1]
    dsimp only
    rcases e2 with e2 | e2 <;> rw [e2] <;> exact e3
/-- a for over a range -/
theorem for_rng {tg : List Nat} {b : En → OS} {lo : Int} {n : Nat} {ρ : En} (I : Nat → En → Prop) (h0 : I 0 ρ) (hs : ∀ i ρ, i < n → I i ρ → ∃ ρ1 ρ2, takeS tg (.int (lo + (i : Nat))) ρ = some ρ1 ∧ (b ρ1 = .nx ρ2 ∨ b ρ1 = .ct ρ2) ∧ I (i + 1) ρ2) :
    ∃ ρ', forS tg b (rngD lo n) ρ = .nx ρ' ∧ I n ρ' := by
  have := forS_to I (tg := tg) (b := b) (xs := rngD lo n) (ρ := ρ) 0 h0 fun i d ρ hd hi => by
    obtain ⟨h1, rfl⟩ := rngD_at hd
    rw [Nat.zero_add] at hi ⊢
    exact hs i ρ h1 hi
  rwa [Nat.zero_add, rngD_len] at this
/-- a comprehension -/
theorem compL_to {tg : List Nat} {elt : Ev → Res} {cnd : Ev → RT} {δ : Ev} (F : Nat → D × Nat) : ∀ {xs : List D} (k : Nat), (∀ i d, xs[i]? = some d → ∃ δ1, takeE tg d δ = some δ1 ∧ cnd δ1 = .ok true ∧ elt δ1 = .ok (F (k + i)).1 (F (k + i)).2) →
    compL tg elt cnd xs δ = .ok ((List.range xs.length).map fun i => F (k + i))
  | [], k, _ => rfl
  | x :: xs, k, h => by
    obtain ⟨δ1, e1, e2, e3⟩ := h 0 x rfl
    have ih := compL_to F (xs := xs) (k + 1) fun i d hd => by
      have := h (i + 1) d (by simpa using hd)
      rwa [show k + (i + 1) = k + 1 + i by omega] at this
    unfold compL
    rw [e1]
    dsimp only
    rw [e2]
    dsimp only
    rw [e3]
    dsimp only
    rw [ih]
    dsimp only
    rw [List.length_cons, List.range_succ_eq_map]
    simp only [List.map_cons, List.map_map, Nat.add_zero]
    congr 2
    apply List.map_congr_left
    intro a _
    show F (k + 1 + a) = F (k + (a + 1))
    rw [show k + 1 + a = k + (a + 1) by omega]
/-- a while that runs to its end -/
theorem whl_to {c : En → RT} {b : En → OS} (I : En → Prop) (m : En → Nat) (hs : ∀ ρ, I ρ → c ρ = .ok false ∨ (c ρ = .ok true ∧ ∃ ρ2, (b ρ = .nx ρ2 ∨ b ρ = .ct ρ2) ∧ I ρ2 ∧ m ρ2 < m ρ)) :
    ∀ (k : Nat) (ρ : En), m ρ ≤ k → I ρ → ∃ ρ', whlC c b ρ = .nx ρ' ∧ I ρ' ∧ c ρ' = .ok false := by
  intro k
  induction k with
  | zero =>
    intro ρ hm h
    rcases hs ρ h with e | ⟨e, ρ2, _, _, hl⟩
    · exact ⟨ρ, by rw [whlC_eq, e], h, e⟩
    · omega
  | succ k ih =>
    intro ρ hm h
    rcases hs ρ h with e | ⟨e, ρ2, e2, h2, hl⟩
    · exact ⟨ρ, by rw [whlC_eq, e], h, e⟩
    · obtain ⟨ρ', e3, r⟩ := ih ρ2 (by omega) h2
      refine ⟨ρ', ?_, r⟩
      rw [whlC_eq, e]
      rcases e2 with e2 | e2 <;> rw [e2] <;> exact e3
end PL
namespace PL
open PySem L2
/-- no more digits than a script's number may have -/
def sm (z : Int) : Prop := z.natAbs.log2 < 1048576
instance (z : Int) : Decidable (sm z) := inferInstanceAs (Decidable (z.natAbs.log2 < 1048576))
theorem divOk_pos {j : Int} (h : j ≠ 0) (h2 : j.natAbs < 2 ^ 8999) : divOk j = true := by
  unfold divOk
  simp only [Bool.and_eq_true, decide_eq_true_eq]
  refine ⟨h, ?_⟩
  have := (Nat.log2_lt (n := j.natAbs) (k := 8999) (by omega)).mpr h2
  omega
theorem mulOk_of {i j : Int} {a b : Nat} (h1 : i.natAbs.log2 < a) (h2 : j.natAbs.log2 < b) (h : a + b ≤ 67108864) : mulOk i j = true := by
  unfold mulOk
  simp only [decide_eq_true_eq]
  have : (2 : Nat) ^ 26 = 67108864 := by decide
  omega
theorem log2_of_le {i : Int} {a : Nat} (h : i.natAbs < 2 ^ a) (ha : 0 < a) : i.natAbs.log2 < a := by
  by_cases h0 : i.natAbs = 0
  · rw [h0]; simpa using ha
  · exact (Nat.log2_lt h0).mpr h
theorem lI_at {l : List Int} {i : Nat} (h : i < l.length) : atD (lI l) (i : Nat) = .ok (.int (l[i])) 0 := by
  rw [atD_nat]
  unfold lI
  rw [List.getElem?_map, List.getElem?_eq_getElem h]
  rfl
@[simp] theorem lI_app (a b : List Int) : lI (a ++ b) = lI a ++ lI b := List.map_append
@[simp] theorem lI_len (a : List Int) : (lI a).length = a.length := List.length_map _
theorem lI_take (a : List Int) (k : Nat) : cutD (lI a) none (some (k : Int)) = lI (a.take k) := by
  rw [cut_to]
  unfold lI
  rw [List.map_take]
theorem smallI_of {i : Int} (h1 : -(10 ^ 9) ≤ i) (h2 : i ≤ 10 ^ 9) : smallI i = true := by
  unfold smallI
  refine decide_eq_true ?_
  by_cases h0 : i.natAbs = 0
  · rw [h0]
    decide
  · exact (Nat.log2_lt h0).mpr (by omega)
end PL
namespace PL
open PySem L2
theorem small_div {b : Int} (hb : b ≠ 0) (h : b.natAbs ≤ 10 ^ 250) : divOk b = true := divOk_pos hb (Nat.lt_of_le_of_lt h (by decide))
theorem small_mul {a b : Int} (ha : a.natAbs ≤ 10 ^ 250) (hb : b.natAbs ≤ 10 ^ 250) : mulOk a b = true :=
  mulOk_of (a := 900) (b := 900) (log2_of_le (Nat.lt_of_le_of_lt ha (by decide)) (by decide)) (log2_of_le (Nat.lt_of_le_of_lt hb (by decide)) (by decide)) (by decide)
def sWhole : List St := [.ret (.and (.isi (.var 0) .int) (.not (.isi (.var 0) .bool)))]
theorem whole_ok (Γ : Fe) (a : Int) : runF Γ 1 1 sWhole [.int a] = .ok (.bl true) 0 := by
  simp [sWhole]
/-- the fraction a by b in its lowest form is x by y -/
structure Low (a b x y : Int) : Prop where
  pos : 0 < y
  one : Int.gcd x y = 1
  eq : x * b = a * y
  lx : x.natAbs ≤ a.natAbs
  ly : y.natAbs ≤ b.natAbs
end PL
namespace PL
open PySem L2 PyProof.Rows
/-- another instance named: nothing is owned otherwise -/
def G.at_ (g : G) (s : Option V) : G := { g with self := s }
mutual
theorem Own.self_ {g : G} {s : Option V} {H : Hp} {S : Rg} : ∀ {n : Nat} {d : D} {v : V} {A : Fp}, Own g H S n d v A → Own (g.at_ s) H S n d v A
  | _, .non, _, _, h => by unfold Own at h ⊢; exact h
  | _, .bl _, _, _, h => by unfold Own at h ⊢; exact h
  | _, .int _, _, _, h => by unfold Own at h ⊢; exact h
  | _, .str _, _, _, h => by unfold Own at h ⊢; exact h
  | _, .tup l, _, _, h => by unfold Own at h ⊢; obtain ⟨a, xs, e, t, tr, hl⟩ := h; exact ⟨a, xs, e, t, tr, OwnL.self_ hl⟩
  | 0, .lst l, _, _, h => by unfold Own at h ⊢; obtain ⟨a, xs, e, z, t, hl⟩ := h; exact ⟨a, xs, e, z, t, OwnL.self_ hl⟩
  | n + 1, .lst l, _, _, h => by unfold Own at h ⊢; obtain ⟨a, xs, B, e, t, e2, hl⟩ := h; exact ⟨a, xs, B, e, t, e2, OwnL.self_ hl⟩
  | 0, .dct ks vs, _, _, h => by
    unfold Own at h ⊢; obtain ⟨a, xs, e, z, t, e2, hl⟩ := h
    refine ⟨a, xs, e, z, ?_, e2, OwnL.self_ hl⟩
    rcases t with t | ⟨kk, as, e0, e1, e2, ok, t⟩
    · exact .inl t
    · exact .inr ⟨kk, as, e0, e1, e2, OwnL.self_ ok, t⟩
  | n + 1, .dct ks vs, _, _, h => by
    unfold Own at h ⊢; obtain ⟨a, xs, B, e, t, e2, e3, hl⟩ := h
    refine ⟨a, xs, B, e, ?_, e2, e3, OwnL.self_ hl⟩
    rcases t with t | ⟨kk, as, e0, e1, e2, ok, t⟩
    · exact .inl t
    · exact .inr ⟨kk, as, e0, e1, e2, OwnL.self_ ok, t⟩
  | 0, .obj c ks vs, _, _, h => by unfold Own at h ⊢; obtain ⟨a, dx, xs, e, z, t, e2, hl⟩ := h; exact ⟨a, dx, xs, e, z, t, e2, OwnL.self_ hl⟩
  | n + 1, .obj c ks vs, _, _, h => by unfold Own at h ⊢; obtain ⟨a, dx, xs, B, e, t, e2, e3, hl⟩ := h; exact ⟨a, dx, xs, B, e, t, e2, e3, OwnL.self_ hl⟩
  | _, .exc c vs, _, _, h => by unfold Own at h ⊢; obtain ⟨a, dd, xs, e, e2, e3, hq, hl⟩ := h; exact ⟨a, dd, xs, e, e2, e3, hq, OwnL.self_ hl⟩
theorem OwnL.self_ {g : G} {s : Option V} {H : Hp} {S : Rg} : ∀ {n : Nat} {ds : List D} {xs : List V} {A : Fp}, OwnL g H S n ds xs A → OwnL (g.at_ s) H S n ds xs A
  | _, [], _, _, h => by unfold OwnL at h ⊢; exact h
  | _, d :: ds, _, _, h => by unfold OwnL at h ⊢; obtain ⟨x, ys, B, C, e, e2, h1, h2⟩ := h; exact ⟨x, ys, B, C, e, e2, Own.self_ h1, OwnL.self_ h2⟩
end
theorem at_at (g : G) (s : Option V) : (g.at_ s).at_ g.self = g := rfl
theorem Own.back {g : G} {s : Option V} {H : Hp} {S : Rg} {n : Nat} {d : D} {v : V} {A : Fp} (h : Own (g.at_ s) H S n d v A) : Own g H S n d v A := by
  have := Own.self_ (s := g.self) h
  rwa [at_at] at this
theorem OwnL.back {g : G} {s : Option V} {H : Hp} {S : Rg} {n : Nat} {d : List D} {v : List V} {A : Fp} (h : OwnL (g.at_ s) H S n d v A) : OwnL g H S n d v A := by
  have := OwnL.self_ (s := g.self) h
  rwa [at_at] at this
theorem RF.self_ {g : G} {s : Option V} {xg : XG} {H : Hp} {S : Rg} {r : Res} {W : Value → Option Addr → Hp → Prop} {Q : VK} (h : RF (g.at_ s) xg H S r W Q) : RF g xg H S r W Q := by
  cases r with
  | ok d n => exact fun v H' S' T o => h v H' S' T ⟨o.ext, o.sub, o.new, o.sz, o.own.self_, o.nd, o.fr⟩
  | exn e => exact h
  | bad => exact h
theorem RF.to_ {g : G} {s : Option V} {xg : XG} {H : Hp} {S : Rg} {r : Res} {W : Value → Option Addr → Hp → Prop} {Q : VK} (h : RF g xg H S r W Q) : RF (g.at_ s) xg H S r W Q := by
  have := RF.self_ (g := g.at_ s) (s := g.self) (xg := xg) (H := H) (S := S) (r := r) (W := W) (Q := Q)
  rw [at_at] at this
  exact this h
section
variable {g : G} {xg : XG} {Γ : Fe} {P : Program} {w : World} {K : PySem.W.Frag} {mg : Str → Option Value} {base : Heap} {k : Nat} {T : Tab}
end
section
variable {g : G} {xg : XG} {Γ : Fe} {P : Program} {w : World} {K : PySem.W.Frag} {mg : Str → Option Value} {base : Heap} {k : Nat} {T : Tab}
end
end PL
namespace PL
open PySem L2 PyProof.Rows
section
variable {g : G} {xg : XG} {Γ : Fe} {P : Program} {w : World} {K : PySem.W.Frag} {mg : Str → Option Value} {base : Heap} {k : Nat} {T : Tab}
theorem look_all {α : Type} {p : Str → α → Bool} : ∀ {l : List (Str × α)} {x : Str} {i : α}, l.lookup x = some i → (l.all fun q => p q.1 q.2) = true → p x i = true
  | [], _, _, h, _ => by cases h
  | (y, j) :: l, x, i, h, ha => by
    rw [List.lookup_cons] at h
    rw [List.all_cons, Bool.and_eq_true] at ha
    split at h
    · rename_i e
      cases h
      obtain rfl := eq_of_beq e
      exact ha.1
    · exact look_all h ha.2
/-- the start, with the tables of attributes and methods -/
theorem Gok.first2 {at_ me : List (Str × Nat)} (hK : g.K = K ∧ g.P = P ∧ g.w = w) (inj : ∀ i j, g.AN i = g.AN j → i = j) (ha : (at_.all fun q => decide (g.AN q.2 = q.1)) = true) (hm : ∀ x i, me.lookup x = some i → ∀ k, g.AN k ≠ x) (hmh : ∀ i c, Γ.mh i c = false)
    (hfo : ∀ c f, Γ.fo c f = true → Cls K (g.CA c) ∧ NoAttr K (g.CA c) (g.AN f)) (hs : g.self = none) (xf : XF g xg Γ K) (hra : ∀ c, Γ.ra c = true → (∃ C, xg.XV c = .ref C ∧ RaK K mg C) ∧ 3 ≤ k) : Gok g xg Γ P w K mg base k { N := [], gn := [], at_ := at_, me := me } :=
  ⟨hK, (fun _ _ h => nomatch h), (fun x i h => of_decide_eq_true (look_all (p := fun x i => decide (g.AN i = x)) h ha)), inj, hfo, (fun x i h => ⟨(fun c hc => absurd hc (by rw [hmh]; decide)), hm x i h⟩), hs, rfl, xf, hra, (fun _ _ h => nomatch h)⟩
theorem anOf_ne {l : List Str} {x : Str} (h1 : l.contains x = false) (h2 : x.cps.size < 1000) : ∀ k, anOf l k ≠ x := by
  intro k e
  unfold anOf at e
  split at e
  · rename_i y hy
    subst e
    have := List.mem_of_getElem? hy
    rw [← List.contains_iff_mem] at this
    rw [h1] at this
    cases this
  · subst e
    simp at h2
    omega
theorem anOf_nes {l : List Str} {me : List (Str × Nat)} (h : (me.all fun q => !l.contains q.1 && decide (q.1.cps.size < 1000)) = true) : ∀ x i, me.lookup x = some i → ∀ k, anOf l k ≠ x := fun x i hx => by
  have := look_all (p := fun x _ => !l.contains x && decide (x.cps.size < 1000)) hx h
  simp only [Bool.and_eq_true, Bool.not_eq_true', decide_eq_true_eq] at this
  exact anOf_ne this.1 this.2
theorem MF0.up {c : Nat} {m : Str} {F : List PL.D → Res} {k' : Nat} (hk : k ≤ k') (h : MF0 g xg P w K mg base k c m F) : MF0 g xg P w K mg base k' c m F := by
  obtain ⟨f, fd, ps, j, hj, r⟩ := h
  exact ⟨f, fd, ps, j, Nat.le_trans hj hk, r⟩
theorem Gok.up (G : Gok g xg Γ P w K mg base k T) {k' : Nat} (hk : k ≤ k') : Gok g xg Γ P w K mg base k' T :=
  ⟨G.hKP, fun x c h => (G.gf x c h).up hk, G.at_, G.inj, G.fo, fun x i h => let ⟨h1, h2⟩ := G.me x i h; ⟨fun c hc => (h1 c hc).up hk, h2⟩, G.slf, G.sui, G.xf, fun c z => ⟨(G.ra c z).1, Nat.le_trans (G.ra c z).2 hk⟩, (fun x i h => let ⟨h1, h2⟩ := G.mu x i h; ⟨fun c hc => (h1 c hc).up hk, h2⟩)⟩
/-- tables of classes -/
def subT : List (Nat × Nat × Bool) → Nat → Nat → Option Bool
  | [], _, _ => none
  | (i, j, b) :: l, x, y => if i = x ∧ j = y then some b else subT l x y
def AllT (P : Nat → Nat → Bool → Prop) : List (Nat × Nat × Bool) → Prop
  | [] => True
  | (i, j, b) :: l => P i j b ∧ AllT P l
theorem tbl_all {P : Nat → Nat → Bool → Prop} : ∀ {l : List (Nat × Nat × Bool)} (_ : AllT P l) {i j : Nat} {b : Bool}, subT l i j = some b → P i j b
  | [], _, _, _, _, h => by cases h
  | (i0, j0, b0) :: l, ha, i, j, b, h => by
    unfold subT at h
    split at h
    · rename_i e
      obtain ⟨rfl, rfl⟩ := e
      cases h
      exact ha.1
    · exact tbl_all ha.2 h
def rzT (l : List Nat) (c : Nat) : Bool := l.contains c
def AllR (P : Nat → Prop) : List Nat → Prop
  | [] => True
  | c :: l => P c ∧ AllR P l
theorem rz_all {P : Nat → Prop} : ∀ {l : List Nat} (_ : AllR P l) {c : Nat}, rzT l c = true → P c
  | [], _, _, h => by cases h
  | d :: l, ha, c, h => by
    unfold rzT at h
    rw [List.contains_cons, Bool.or_eq_true] at h
    rcases h with h | h
    · rw [eq_of_beq h]; exact ha.1
    · exact rz_all ha.2 h
end
end PL
namespace PL
open PySem PySem.Spec L2 PyProof.Rows
section
variable {g : G} {xg : XG} {Γ : Fe} {P : Program} {w : World} {K : PySem.W.Frag} {mg : Str → Option Value} {base : Heap} {k : Nat} {T : Tab}
end
end PL
namespace PL
open PySem PySem.Spec L2 PyProof.Rows
end PL
set_option exponentiation.threshold 10000
namespace PL
open PySem L2
def frzO (l : List Nat) (k : Nat) (o : Option Sl) : Option Sl := match o with
  | some s => if l.contains k then some { s with n := 0 } else some s
  | none => none
def vwO (l : List Nat) (k : Nat) (o : Option Sl) : Option D := match o with
  | some s => if s.n = 0 ∨ l.contains k then some s.d else none
  | none => none
def lksO (l : List Nat) (v : Bool) (k : Nat) (o : Option Sl) : Option Sl := match o with
  | some s => if l.contains k then some { s with lk := v } else some s
  | none => none
section
variable (l : List Nat) (k : Nat) (o : Option Sl) (ρ : En)
@[simp] theorem frzs_o : frzs l k (o :: ρ) = frzO l k o :: frzs l (k + 1) ρ := rfl
@[simp] theorem viewF_o : viewF l k (o :: ρ) = vwO l k o :: viewF l (k + 1) ρ := rfl
@[simp] theorem locks_o (v : Bool) : locks l v k (o :: ρ) = lksO l v k o :: locks l v (k + 1) ρ := rfl
@[simp] theorem frzO_none : frzO l k none = none := rfl
@[simp] theorem vwO_none : vwO l k none = none := rfl
@[simp] theorem lksO_none (v : Bool) : lksO l v k none = none := rfl
@[simp] theorem frzO_some (d : D) (n : Nat) (b : Bool) : frzO l k (some ⟨d, n, b⟩) = some ⟨d, if l.contains k then 0 else n, b⟩ := by unfold frzO; dsimp only; split <;> rfl
@[simp] theorem vwO_some (d : D) (n : Nat) (b : Bool) : vwO l k (some ⟨d, n, b⟩) = if n = 0 ∨ l.contains k then some d else none := rfl
@[simp] theorem lksO_some (v : Bool) (d : D) (n : Nat) (b : Bool) : lksO l v k (some ⟨d, n, b⟩) = some ⟨d, n, if l.contains k then v else b⟩ := by unfold lksO; dsimp only; split <;> rfl
@[simp] theorem lkO_frzO : lkO (frzO l k o) = lkO o := by
  cases o with
  | none => rfl
  | some s =>
    unfold frzO
    dsimp only
    split <;> rfl
@[simp] theorem d_frzO : (frzO l k o).map Sl.d = o.map Sl.d := by
  cases o with
  | none => rfl
  | some s =>
    unfold frzO
    dsimp only
    split <;> rfl
end
theorem step {Γ : Fe} {s : St} {ss : List St} {ρ ρ' : En} {o : OS} (h : exS Γ s ρ = .nx ρ') (k : exB Γ ss ρ' = o) : exB Γ (s :: ss) ρ = o := by
  rw [exB_cons, h]
  exact k
theorem stop {Γ : Fe} {s : St} {ss : List St} {ρ : En} {d : D} {n : Nat} (h : exS Γ s ρ = .rt d n) : exB Γ (s :: ss) ρ = .rt d n := by
  rw [exB_cons, h]
  rfl
theorem run_of {Γ : Fe} {slots np : Nat} {b : List St} {ds : List D} {d : D} {n : Nat} (hl : ds.length = np) (h : exB Γ b (ds.map (fun d => some ⟨d, 0, false⟩) ++ List.replicate (slots - np) none) = .rt d n) : runF Γ slots np b ds = .ok d n := by
  rw [runF_eq, if_pos hl, h]
  rfl
def sDrawL : List St := [.asg 4 (.bin .fdiv (.var 4) (.var 2)) .imm]
def sDraw : List St := [.ife (.cmp .ge (.var 0) (.bin .pow (.con (.int 10)) (.con (.int 18)))) [.asg 4 (.var 0) (.fz [0]), .fo .rng1 [.var 1] [5] [] .imm sDrawL, .ret (.bin .mod (.var 4) (.var 2))] [], .asg 3 (.bin .mod (.bin .mul (.bin .add (.bin .add (.bin .mod (.var 0) (.con (.int 1000000007))) (.bin .mul (.con (.int 1009)) (.var 1))) (.con (.int 17))) (.con (.int 69621))) (.con (.int 2147483647))) .imm, .asg 3 (.bin .mod (.bin .add (.bin .add (.bin .mul (.var 3) (.var 3)) (.bin .mul (.con (.int 40503)) (.var 1))) (.con (.int 5))) (.con (.int 2147483629))) .imm, .ret (.bin .mod (.bin .fdiv (.bin .mod (.bin .mul (.var 3) (.con (.int 48271))) (.con (.int 2147483647))) (.con (.int 32))) (.var 2))]
theorem draw_ok (c k b : Int) (hk : 0 ≤ k) (hk2 : k ≤ 1000) (hb : 0 < b) (hb2 : b ≤ 10 ^ 60) : ∃ d, (∀ Γ, runF Γ 6 3 sDraw [.int c, .int k, .int b] = .ok (.int d) 0) ∧ 0 ≤ d ∧ d < b := by
  have p1 : powOk 10 18 = true := by decide
  have hb0 : ¬ b = 0 := by omega
  have dv : divOk b = true := small_div (by omega) (by omega)
  by_cases h0 : 1000000000000000000 ≤ c
  · have key : ∀ Γ : Fe, ∃ x : Int, ∃ o5, forS [5] (exB Γ sDrawL) (rngD 0 k.toNat) [some ⟨.int c, 0, false⟩, some ⟨.int k, 0, false⟩, some ⟨.int b, 0, false⟩, none, some ⟨.int c, 0, false⟩, none] = .nx [some ⟨.int c, 0, false⟩, some ⟨.int k, 0, false⟩, some ⟨.int b, 0, false⟩, none, some ⟨.int x, 0, false⟩, o5] ∧ x = (List.replicate k.toNat b).foldl Int.fdiv c := by
      intro Γ
      obtain ⟨ρ', e, x, o5, rfl, _, hx⟩ := for_rng (tg := [5]) (b := exB Γ sDrawL) (lo := 0) (n := k.toNat) (ρ := [some ⟨.int c, 0, false⟩, some ⟨.int k, 0, false⟩, some ⟨.int b, 0, false⟩, none, some ⟨.int c, 0, false⟩, none])
        (fun i ρ => ∃ x o5, ρ = [some ⟨.int c, 0, false⟩, some ⟨.int k, 0, false⟩, some ⟨.int b, 0, false⟩, none, some ⟨.int x, 0, false⟩, o5] ∧ lkO o5 = false ∧ x = (List.replicate i b).foldl Int.fdiv c)
        ⟨c, none, rfl, rfl, rfl⟩ fun i ρ hi ⟨x, o5, e, h5, hx⟩ => by
          subst e
          simp [sDrawL, h5, dv]
          exact ⟨_, _, ⟨rfl, rfl⟩, rfl, by rw [hx, List.replicate_succ', List.foldl_append]; rfl⟩
      exact ⟨x, o5, e, hx⟩
    refine ⟨((List.replicate k.toNat b).foldl Int.fdiv c).fmod b, fun Γ => ?_, Int.fmod_nonneg_of_pos _ hb, Int.fmod_lt_of_pos _ hb⟩
    obtain ⟨x, o5, e, hx⟩ := key Γ
    have sk : smallI k = true := smallI_of (by omega) (by omega)
    simp [sDraw, p1, h0, sk, e, hb0, hx]
  · have m1 : mulOk 1009 k = true := small_mul (by omega) (by omega)
    have a1 := Int.fmod_nonneg_of_pos c (b := 1000000007) (by decide)
    have a2 := Int.fmod_lt_of_pos c (b := 1000000007) (by decide)
    generalize e1 : c.fmod 1000000007 = x1 at *
    have m2 : mulOk (x1 + 1009 * k + 17) 69621 = true := small_mul (by omega) (by omega)
    have b1 := Int.fmod_nonneg_of_pos ((x1 + 1009 * k + 17) * 69621) (b := 2147483647) (by decide)
    have b2 := Int.fmod_lt_of_pos ((x1 + 1009 * k + 17) * 69621) (b := 2147483647) (by decide)
    generalize e2 : ((x1 + 1009 * k + 17) * 69621).fmod 2147483647 = x2 at *
    have m3 : mulOk x2 x2 = true := small_mul (by omega) (by omega)
    have m4 : mulOk 40503 k = true := small_mul (by omega) (by omega)
    have c1 := Int.fmod_nonneg_of_pos (x2 * x2 + 40503 * k + 5) (b := 2147483629) (by decide)
    have c2 := Int.fmod_lt_of_pos (x2 * x2 + 40503 * k + 5) (b := 2147483629) (by decide)
    generalize e3 : (x2 * x2 + 40503 * k + 5).fmod 2147483629 = x3 at *
    have m5 : mulOk x3 48271 = true := small_mul (by omega) (by omega)
    have d32 : divOk 32 = true := by decide
    refine ⟨(((x3 * 48271).fmod 2147483647).fdiv 32).fmod b, fun Γ => ?_, Int.fmod_nonneg_of_pos _ hb, Int.fmod_lt_of_pos _ hb⟩
    simp [sDraw, p1, h0, m1, e1, m2, e2, m3, m4, e3, m5, d32, hb0]
def sCell : List St := [.ife (.cmp .lt (.var 1) (.bi .len [.var 0])) [.ret (.ix (.var 0) (.var 1))] [], .ret (.con (.int 0))]
theorem cell_ok (ns : List Int) (k : Int) (hk : 0 ≤ k) : ∃ z, ∀ Γ, runF Γ 2 2 sCell [.lst (lI ns), .int k] = .ok (.int z) 0 := by
  obtain ⟨j, rfl⟩ := Int.eq_ofNat_of_zero_le hk
  by_cases h : j < ns.length
  · have h' : j < (lI ns).length := by simpa [lI] using h
    have A := lI_at h
    exact ⟨ns[j], fun Γ => by simp [sCell, h, A]⟩
  · have h' : ¬ j < (lI ns).length := by simpa [lI] using h
    exact ⟨0, fun Γ => by simp [sCell, h]⟩
/-- all within 0 and m -/
def Wi (m : Int) (l : List Int) : Prop := ∀ x ∈ l, 0 ≤ x ∧ x < m
theorem Wi.app {m : Int} {a b : List Int} (h : Wi m a) (k : Wi m b) : Wi m (a ++ b) := fun x hx => (List.mem_append.mp hx).elim (h x) (k x)
theorem Wi.take {m : Int} {a : List Int} (h : Wi m a) (k : Nat) : Wi m (a.take k) := fun x hx => h x (List.mem_of_mem_take hx)
theorem Wi.drop {m : Int} {a : List Int} (h : Wi m a) (k : Nat) : Wi m (a.drop k) := fun x hx => h x (List.mem_of_mem_drop hx)
theorem Wi.rep {m : Int} {a : List Int} (h : Wi m a) : ∀ k : Nat, Wi m (List.replicate k a).flatten
  | 0 => fun x hx => by cases hx
  | k + 1 => by rw [List.replicate_succ, List.flatten_cons]; exact h.app (Wi.rep h k)
theorem lI_drop (a : List Int) (k : Nat) : (lI a).drop k = lI (a.drop k) := by simp [lI, List.map_drop]
theorem lI_tk (a : List Int) (k : Nat) : (lI a).take k = lI (a.take k) := by simp [lI, List.map_take]
theorem lI_rep (a : List Int) : ∀ k : Nat, (List.replicate k (lI a)).flatten = lI (List.replicate k a).flatten
  | 0 => rfl
  | k + 1 => by rw [List.replicate_succ, List.flatten_cons, lI_rep a k, List.replicate_succ, List.flatten_cons, lI_app]
@[simp] theorem lI_length (a : List Int) : (lI a).length = a.length := by simp [lI]
@[simp] theorem immL_lI (n : Nat) : ∀ a : List Int, immBL n (lI a) = true
  | [] => by simp [lI]
  | x :: a => by
    show immBL n (.int x :: lI a) = true
    rw [immL_cons, imm_int, immL_lI n a]
    rfl
@[simp] theorem imm_lI (n : Nat) (a : List Int) : immB (n + 1) (.lst (lI a)) = true := by unfold immB; exact immL_lI n a
@[simp] theorem immL_app (n : Nat) : ∀ a b : List D, immBL n (a ++ b) = (immBL n a && immBL n b)
  | [], b => by simp
  | x :: a, b => by rw [List.cons_append, immL_cons, immL_cons, immL_app n a b, Bool.and_assoc]
@[simp] theorem imm_lst1 (l : List D) : immB 1 (.lst l) = immBL 0 l := by rw [immB]
@[simp] theorem imm_lst0 (l : List D) : immB 0 (.lst l) = false := by unfold immB; rfl
@[simp] theorem imm_lI1 (a : List Int) : immB 1 (.lst (lI a)) = true := imm_lI 0 a
@[simp] theorem imm_lI2 (a : List Int) : immB 2 (.lst (lI a)) = true := imm_lI 1 a
@[simp] theorem imm_lI9 (a : List Int) : immB 9 (.lst (lI a)) = true := imm_lI 8 a
@[simp] theorem imm_lI10 (a : List Int) : immB 10 (.lst (lI a)) = true := imm_lI 9 a
def sChoicesL (d c : Nat) : List St := [.app 4 [] (.call d [.call c [.var 0, .bin .add (.var 1) (.bin .fdiv (.var 5) (.con (.int 12)))], .bin .add (.con (.int 3)) (.bin .mod (.var 5) (.con (.int 12))), .var 2]) .imm]
def sChoices (d c : Nat) : List St := [.asg 4 (.lst []) (.fz []), .fo .rng1 [.var 3] [5] [] .imm (sChoicesL d c), .retv 4]
theorem choices_ok {Γ : Fe} {d c : Nat} {Γd Γc : Fe} (hD : Γ.fn d = runF Γd 6 3 sDraw) (hC : Γ.fn c = runF Γc 2 2 sCell) (ns : List Int) (at_ many size : Int) (h1 : 0 ≤ at_) (h2 : 0 < many) (h3 : many ≤ 10 ^ 9) (h4 : 0 ≤ size) (h5 : size ≤ 1000000) :
    ∃ l, runF Γ 6 4 (sChoices d c) [.lst (lI ns), .int at_, .int many, .int size] = .ok (.lst (lI l)) 10 ∧ l.length = size.toNat ∧ Wi many l := by
  obtain ⟨ρ', e, l, o5, rfl, _, hl, hw⟩ := for_rng (tg := [5]) (b := exB Γ (sChoicesL d c)) (lo := 0) (n := size.toNat) (ρ := [some ⟨.lst (lI ns), 0, false⟩, some ⟨.int at_, 0, false⟩, some ⟨.int many, 0, false⟩, some ⟨.int size, 0, false⟩, some ⟨.lst [], 10, false⟩, none])
    (fun i ρ => ∃ l o5, ρ = [some ⟨.lst (lI ns), 0, false⟩, some ⟨.int at_, 0, false⟩, some ⟨.int many, 0, false⟩, some ⟨.int size, 0, false⟩, some ⟨.lst (lI l), 10, false⟩, o5] ∧ lkO o5 = false ∧ l.length = i ∧ Wi many l)
    ⟨[], none, rfl, rfl, rfl, fun x hx => by cases hx⟩ fun i ρ hi ⟨l, o5, e, h5', hl, hw⟩ => by
      subst e
      have d12 : divOk 12 = true := by decide
      have q1 := Int.fmod_nonneg_of_pos (i : Int) (b := 12) (by decide)
      have q2 := Int.fmod_lt_of_pos (i : Int) (b := 12) (by decide)
      have q3 : 0 ≤ (i : Int).fdiv 12 := Int.fdiv_nonneg (by omega) (by decide)
      obtain ⟨z, ez⟩ := cell_ok ns (at_ + (i : Int).fdiv 12) (by omega)
      obtain ⟨y, ey, y1, y2⟩ := draw_ok z (3 + (i : Int).fmod 12) many (by omega) (by omega) h2 (by omega)
      have hz : l.length < 16777216 := by omega
      have cz := ez Γc
      have cy := ey Γd
      simp [sChoicesL, h5', hC, hD, -runF_eq, cz, cy, d12, pathOk_eq, mutS_eq, hz]
      refine ⟨l ++ [y], _, ⟨by simp [lI], rfl⟩, rfl, by simp [hl], hw.app fun x hx => ?_⟩
      have : x = y := by simpa using hx
      subst this
      exact ⟨y1, y2⟩
  have sk : smallI size = true := smallI_of (by omega) (by omega)
  exact ⟨l, by simp [sChoices, sk, e], hl, hw⟩
end PL
namespace PL
open PySem L2
def sRunning (d c h : Nat) : List St := [.asg 3 (.call c [.var 0, .var 1]) (.fz [0, 1]), .asg 4 (.ix (.lst [.bin .add (.con (.int 1)) (.call d [.var 3, .con (.int 0), .con (.int 6)]), .bin .add (.con (.int 13)) (.call d [.var 3, .con (.int 0), .con (.int 36)])]) (.bi .int [.cmp .eq (.call d [.var 3, .con (.int 2), .con (.int 8)]) (.con (.int 1))])) (.fz [3]), .asg 5 (.call h [.var 0, .bin .add (.var 1) (.con (.int 1)), .var 2, .ix (.lst [.call d [.var 3, .con (.int 1), .con (.int 7)], .con (.int 20)]) (.bi .int [.cmp .eq (.call d [.var 3, .con (.int 2), .con (.int 8)]) (.con (.int 2))])]) (.fz [0, 1, 2, 3]), .asg 6 (.call h [.var 0, .bin .add (.var 1) (.con (.int 3)), .var 2, .var 4]) (.fz [0, 1, 2, 4]), .ife (.cmp .eq (.call d [.var 3, .con (.int 3), .con (.int 3)]) (.con (.int 1))) [.asg 6 (.bin .mul (.var 6) (.bin .add (.con (.int 1)) (.call d [.var 3, .con (.int 4), .con (.int 3)]))) .imm] [], .ife (.cmp .eq (.call d [.var 3, .con (.int 5), .con (.int 3)]) (.con (.int 1))) [.asg 7 (.call d [.var 3, .con (.int 6), .bin .add (.bi .len [.var 6]) (.con (.int 1))]) .imm, .asg 5 (.bin .add (.var 5) (.sl (.var 6) .omit (.var 7))) (.fz [5, 6, 7]), .asg 6 (.bin .add (.sl (.var 6) (.var 7) .omit) (.sl (.var 6) .omit (.var 7))) (.fz [6, 7])] [], .rett [5, 6]]
/-- a running of claimants below m -/
structure Rn (m : Int) (h l : List Int) : Prop where
  wh : Wi m h
  wl : Wi m l
  pos : 0 < l.length
  ll : l.length ≤ 400
  lh : h.length ≤ 170
theorem cut_from (l : List D) (k : Nat) : cutD l (some (k : Int)) none = l.drop k := by
  unfold cutD
  rw [HT.sIx_nat]
  show (l.drop (min k l.length)).take (l.length - min k l.length) = l.drop k
  by_cases h : k ≤ l.length
  · rw [Nat.min_eq_left h, List.take_of_length_le (by simp)]
  · rw [Nat.min_eq_right (by omega), List.drop_eq_nil_of_le (Nat.le_refl _), List.drop_eq_nil_of_le (by omega)]
    simp
theorem lI_cutT (a : List Int) {k : Int} (hk : 0 ≤ k) : cutD (lI a) none (some k) = lI (a.take k.toNat) := by
  obtain ⟨j, rfl⟩ := Int.eq_ofNat_of_zero_le hk
  exact lI_take a j
theorem lI_cutD (a : List Int) {k : Int} (hk : 0 ≤ k) : cutD (lI a) (some k) none = lI (a.drop k.toNat) := by
  obtain ⟨j, rfl⟩ := Int.eq_ofNat_of_zero_le hk
  rw [cut_from, lI_drop]
  rfl
theorem seq_seq (o : OS) (f g : En → OS) : (o.seq f).seq g = o.seq fun ρ => (f ρ).seq g := by cases o <;> rfl
theorem exB_app (Γ : Fe) : ∀ (a b : List St) (ρ : En), exB Γ (a ++ b) ρ = (exB Γ a ρ).seq (exB Γ b)
  | [], b, ρ => by rw [List.nil_append, exB_nil, OS.seq_nx]
  | s :: a, b, ρ => by
    rw [List.cons_append, exB_cons, exB_cons, seq_seq]
    congr 1
    funext ρ'
    exact exB_app Γ a b ρ'
theorem atD_if (p : Prop) [Decidable p] (a b : Int) : atD [.int a, .int b] (if p then 1 else 0) = .ok (.int (if p then b else a)) 0 := by
  split <;> rfl
theorem running_ok {Γ : Fe} {d c h : Nat} {Γd Γc Γh : Fe} {d' c' : Nat} (hD : Γ.fn d = runF Γd 6 3 sDraw) (hC : Γ.fn c = runF Γc 2 2 sCell) (hH : Γ.fn h = runF Γh 6 4 (sChoices d' c')) {Γd' Γc' : Fe} (hD' : Γh.fn d' = runF Γd' 6 3 sDraw) (hC' : Γh.fn c' = runF Γc' 2 2 sCell)
    (ns : List Int) (at_ many : Int) (h1 : 0 ≤ at_) (h2 : 0 < many) (h3 : many ≤ 10 ^ 9) : ∃ (hd lp : List Int), runF Γ 8 3 (sRunning d c h) [.lst (lI ns), .int at_, .int many] = .ok (.tup [.lst (lI hd), .lst (lI lp)]) 9 ∧ Rn many hd lp := by
  obtain ⟨z, ez⟩ := cell_ok ns at_ h1
  have cz := ez Γc
  obtain ⟨x0, e0, a0, b0⟩ := draw_ok z 0 6 (by decide) (by decide) (by decide) (by decide)
  obtain ⟨x1, e1, a1, b1⟩ := draw_ok z 0 36 (by decide) (by decide) (by decide) (by decide)
  obtain ⟨x2, e2, a2, b2⟩ := draw_ok z 2 8 (by decide) (by decide) (by decide) (by decide)
  obtain ⟨x3, e3, a3, b3⟩ := draw_ok z 1 7 (by decide) (by decide) (by decide) (by decide)
  obtain ⟨x4, e4, a4, b4⟩ := draw_ok z 3 3 (by decide) (by decide) (by decide) (by decide)
  obtain ⟨x5, e5, a5, b5⟩ := draw_ok z 4 3 (by decide) (by decide) (by decide) (by decide)
  obtain ⟨x6, e6, a6, b6⟩ := draw_ok z 5 3 (by decide) (by decide) (by decide) (by decide)
  replace e0 := e0 Γd
  replace e1 := e1 Γd
  replace e2 := e2 Γd
  replace e3 := e3 Γd
  replace e4 := e4 Γd
  replace e5 := e5 Γd
  replace e6 := e6 Γd
  obtain ⟨size, hsize, s1, s2⟩ : ∃ s : Int, s = (if x2 = 1 then 13 + x1 else 1 + x0) ∧ 1 ≤ s ∧ s ≤ 48 := ⟨_, rfl, by split <;> omega, by split <;> omega⟩
  obtain ⟨hsz, hhsz, t1, t2⟩ : ∃ s : Int, s = (if x2 = 2 then 20 else x3) ∧ 0 ≤ s ∧ s ≤ 20 := ⟨_, rfl, by split <;> omega, by split <;> omega⟩
  obtain ⟨hd, eh, lh, wh⟩ := choices_ok hD' hC' ns (at_ + 1) many hsz (by omega) h2 h3 (by omega) (by omega)
  obtain ⟨lp, el, ll, wl⟩ := choices_ok hD' hC' ns (at_ + 3) many size (by omega) h2 h3 (by omega) (by omega)
  subst hsize
  subst hhsz
  have base : ∃ (lp2 : List Int) (n : Nat), 0 < lp2.length ∧ lp2.length ≤ 150 ∧ Wi many lp2 ∧ 0 < n ∧ exB Γ ((sRunning d c h).take 5) [some ⟨.lst (lI ns), 0, false⟩, some ⟨.int at_, 0, false⟩, some ⟨.int many, 0, false⟩, none, none, none, none, none] =
      .nx [some ⟨.lst (lI ns), 0, false⟩, some ⟨.int at_, 0, false⟩, some ⟨.int many, 0, false⟩, some ⟨.int z, 0, false⟩, some ⟨.int (if x2 = 1 then 13 + x1 else 1 + x0), 0, false⟩, some ⟨.lst (lI hd), 10, false⟩, some ⟨.lst (lI lp2), n, false⟩, none] := by
    have hB : lp.length ≤ 48 := by omega
    have hA : (1 + x5).toNat ≤ 3 := by omega
    have hAB := Nat.mul_le_mul hB hA
    have hBA := Nat.mul_le_mul hA hB
    by_cases q4 : x4 = 1
    · refine ⟨(List.replicate (1 + x5).toNat lp).flatten, 1, ?_, ?_, wl.rep _, by decide, ?_⟩
      · rw [List.length_flatten, List.map_replicate, List.sum_replicate_nat]
        exact Nat.mul_pos (by omega) (by omega)
      · rw [List.length_flatten, List.map_replicate, List.sum_replicate_nat]
        omega
      · have sz : lp.length * (1 + x5).toNat ≤ 16777216 := by omega
        have r1 : smallI (1 + x5) = true := smallI_of (by omega) (by omega)
        simp [sRunning, hD, hC, hH, -runF_eq, cz, e0, e1, e2, e3, e4, e5, atD_if, eh, el, q4, sz, lI_rep, r1]
    · refine ⟨lp, 10, by omega, by omega, wl, by decide, ?_⟩
      simp [sRunning, hD, hC, hH, -runF_eq, cz, e0, e1, e2, e3, e4, e5, atD_if, eh, el, q4]
  obtain ⟨lp2, n, p1, p2, p3, p4, eb⟩ := base
  obtain ⟨n, rfl⟩ : ∃ k, n = k + 1 := ⟨n - 1, by omega⟩
  obtain ⟨x7, e7, a7, b7⟩ := draw_ok z 6 ((lp2.length : Int) + 1) (by decide) (by decide) (by omega) (by omega)
  replace e7 := e7 Γd
  have rest : ∀ ρ, exB Γ (sRunning d c h) ρ = (exB Γ ((sRunning d c h).take 5) ρ).seq (exB Γ ((sRunning d c h).drop 5)) := fun ρ => by
    rw [← exB_app, List.take_append_drop]
  rw [runF_eq]
  simp only [List.length_cons, List.length_nil, if_true]
  by_cases q6 : x6 = 1
  · refine ⟨hd ++ lp2.take x7.toNat, lp2.drop x7.toNat ++ lp2.take x7.toNat, ?_, wh.app (p3.take _), (p3.drop _).app (p3.take _), by simp; omega, by simp; omega, by simp; omega⟩
    have z1 : hd.length + min x7.toNat lp2.length ≤ 16777216 := by omega
    have z2 : lp2.length - x7.toNat + min x7.toNat lp2.length ≤ 16777216 := by omega
    simp [rest, eb]
    simp [sRunning, hD, -runF_eq, e6, e7, q6, lI_cutT _ a7, lI_cutD _ a7, z1, z2]
  · refine ⟨hd, lp2, ?_, wh, p3, p1, (Nat.le_trans p2 (by decide)), by omega⟩
    simp [rest, eb]
    simp [sRunning, hD, -runF_eq, e6, q6]
def ch (h l : List Int) (i : Nat) : Int := if i < h.length then h.getD i 0 else l.getD ((i - h.length) % l.length) 0
def rw_ (h l : List Int) (n : Nat) : List Int := (List.range n).map (ch h l)
@[simp] theorem rw_len (h l : List Int) (n : Nat) : (rw_ h l n).length = n := by simp [rw_]
theorem rw_take (h l : List Int) {n k : Nat} (hk : k ≤ n) : (rw_ h l n).take k = rw_ h l k := by
  unfold rw_
  rw [← List.map_take, List.take_range, Nat.min_eq_left hk]
theorem rw_at (h l : List Int) {n i : Nat} (hi : i < n) : (rw_ h l n)[i]'(by simpa using hi) = ch h l i := by
  unfold rw_
  simp
theorem rw_head (h l : List Int) {n : Nat} (hn : n ≤ h.length) : rw_ h l n = h.take n := by
  apply List.ext_getElem
  · simp [hn]
  · intro i h1 h2
    have hi : i < n := by simpa using h1
    rw [rw_at h l hi, List.getElem_take]
    unfold ch
    rw [if_pos (by omega), List.getD_eq_getElem?_getD, List.getElem?_eq_getElem (by omega)]
    rfl
theorem gd_l {a b : List Int} {i : Nat} {d : Int} (h : i < a.length) : (a ++ b).getD i d = a.getD i d := by
  rw [List.getD_eq_getElem?_getD, List.getD_eq_getElem?_getD, List.getElem?_append_left h]
theorem gd_r {a b : List Int} {i : Nat} {d : Int} (h : a.length ≤ i) : (a ++ b).getD i d = b.getD (i - a.length) d := by
  rw [List.getD_eq_getElem?_getD, List.getD_eq_getElem?_getD, List.getElem?_append_right h]
theorem rw_laps {h l : List Int} (hl : 0 < l.length) (k r : Nat) (hr : r ≤ l.length) : rw_ h l (h.length + (k * l.length + r)) = h ++ ((List.replicate k l).flatten ++ l.take r) := by
  have fl : (List.replicate k l).flatten.length = k * l.length := by rw [List.length_flatten, List.map_replicate, List.sum_replicate_nat]
  have rp : ∀ (k i : Nat) (hi : i < k * l.length), (List.replicate k l).flatten.getD i 0 = l.getD (i % l.length) 0 := by
    intro k
    induction k with
    | zero => intro i hi; omega
    | succ k ih =>
      intro i hi
      rw [List.replicate_succ, List.flatten_cons]
      rw [Nat.succ_mul] at hi
      by_cases q : i < l.length
      · rw [gd_l q, Nat.mod_eq_of_lt q]
      · rw [gd_r (by omega), ih (i - l.length) (by omega)]
        congr 1
        rw [← Nat.mod_eq_sub_mod (by omega)]
  apply List.ext_getElem
  · simp [fl]; omega
  · intro i h1 h2
    have hi : i < h.length + (k * l.length + r) := by simpa using h1
    rw [rw_at h l hi]
    have e : ∀ (a : List Int) (j : Nat) (q : j < a.length), a[j] = a.getD j 0 := fun a j q => by rw [List.getD_eq_getElem?_getD, List.getElem?_eq_getElem q]; rfl
    rw [e]
    unfold ch
    by_cases q : i < h.length
    · rw [if_pos q, gd_l q]
    · rw [if_neg q, gd_r (by omega)]
      by_cases q2 : i - h.length < k * l.length
      · rw [gd_l (by omega), rp _ _ q2]
      · rw [gd_r (by omega), fl]
        have : i - h.length - k * l.length < r := by omega
        have e2 : (i - h.length) % l.length = i - h.length - k * l.length := by
          obtain ⟨j, hj⟩ : ∃ j, i - h.length = j + k * l.length := ⟨i - h.length - k * l.length, by omega⟩
          rw [hj, Nat.add_sub_cancel, Nat.mul_comm, Nat.add_mul_mod_self_left]
          exact Nat.mod_eq_of_lt (by omega)
        rw [e2, List.getD_eq_getElem?_getD, List.getD_eq_getElem?_getD, List.getElem?_take, if_pos this]
/-- a row written out -/
def sUnrolledC : Ex := .cmp .lt (.bi .len [.var 2]) (.var 1)
def sUnrolledL : List St := [.ext 2 [] (.ix (.var 0) (.con (.int 1)))]
def sUnrolled : List St := [.asg 2 (.bi .list [.ix (.var 0) (.con (.int 0))]) (.fz [0]), .whl sUnrolledC sUnrolledL, .ret (.sl (.var 2) .omit (.var 1))]
theorem unrolled_ok {Γ : Fe} {h l : List Int} (hl : 0 < l.length) (hl2 : l.length ≤ 100000) (hh : h.length ≤ 100000) (n : Nat) (hn : n ≤ 1000000) : runF Γ 3 2 sUnrolled [.tup [.lst (lI h), .lst (lI l)], .int n] = .ok (.lst (lI (rw_ h l n))) 1 := by
  obtain ⟨ρ', e, ⟨k, rfl, _⟩, ec⟩ := whl_to (c := fun ρ => evT Γ sUnrolledC (viewA ρ)) (b := exB Γ sUnrolledL)
    (fun ρ => ∃ k, ρ = [some ⟨.tup [.lst (lI h), .lst (lI l)], 0, false⟩, some ⟨.int n, 0, false⟩, some ⟨.lst (lI (rw_ h l (h.length + k * l.length))), 1, false⟩] ∧ h.length + k * l.length ≤ 2000000) (fun ρ => match ρ with | [_, _, some ⟨.lst x, _, _⟩] => n - x.length | _ => 0)
    (fun ρ ⟨k, e, hk⟩ => by
      subst e
      by_cases h0 : h.length + k * l.length < n
      · have h0' : (h.length : Int) + k * l.length < n := by exact_mod_cast h0
        have e2 : rw_ h l (h.length + (k + 1) * l.length) = rw_ h l (h.length + k * l.length) ++ l := by
          have a1 := rw_laps (h := h) hl (k + 1) 0 (Nat.zero_le _)
          have a2 := rw_laps (h := h) hl k 0 (Nat.zero_le _)
          simp only [Nat.add_zero, List.take_zero, List.append_nil] at a1 a2
          rw [a1, a2, List.replicate_succ', List.flatten_append, List.append_assoc]
          simp
        have sz : h.length + k * l.length + l.length ≤ 16777216 := by omega
        have hkk : (k + 1) * l.length = k * l.length + l.length := Nat.succ_mul _ _
        refine .inr ⟨by simp [sUnrolledC, h0'], _, .inl ?_, ⟨k + 1, rfl, by omega⟩, ?_⟩
        · simp [sUnrolledL, pathOk_eq, mutS_eq, flat_lI, sz, e2]
        · simp
          omega
      · have h0' : ¬ (h.length : Int) + k * l.length < n := by exact_mod_cast h0
        exact .inl (by simp [sUnrolledC, h0']))
    _ [some ⟨.tup [.lst (lI h), .lst (lI l)], 0, false⟩, some ⟨.int n, 0, false⟩, some ⟨.lst (lI h), 1, false⟩] (Nat.le_refl _) ⟨0, by rw [Nat.zero_mul, Nat.add_zero, rw_head h l (Nat.le_refl _), List.take_length], by omega⟩
  have hn2 : n ≤ h.length + k * l.length := by
    simp [sUnrolledC] at ec
    exact_mod_cast ec
  simp only [evT_eq] at e
  simp [sUnrolled, e, lI_take, rw_take h l hn2]
end PL
namespace PL
open PySem L2
@[simp] theorem shp_lI (n : Nat) (a : List Int) : shp (n + 1) (.lst (lI a)) = true := by
  unfold shp
  induction a with
  | nil => unfold shpL; rfl
  | cons x a ih =>
    show shpL n (.int x :: lI a) = true
    unfold shpL
    rw [shp_int, ih]
    rfl
@[simp] theorem shp_lI60 (a : List Int) : shp 60 (.lst (lI a)) = true := shp_lI 59 a
@[simp] theorem shp_lI59 (a : List Int) : shp 59 (.lst (lI a)) = true := shp_lI 58 a
@[simp] theorem shp_lI58 (a : List Int) : shp 58 (.lst (lI a)) = true := shp_lI 57 a
theorem eqL_lI : ∀ a b : List Int, eqDL (lI a) (lI b) = decide (a = b)
  | [], [] => by unfold lI eqDL; rfl
  | [], y :: b => by unfold lI; simp only [List.map_nil, List.map_cons]; unfold eqDL; simp
  | x :: a, [] => by unfold lI; simp only [List.map_nil, List.map_cons]; unfold eqDL; simp
  | x :: a, y :: b => by
    show eqDL (.int x :: lI a) (.int y :: lI b) = _
    unfold eqDL
    rw [eq_int, eqL_lI a b]
    by_cases h : x = y <;> by_cases h2 : a = b <;> simp [h, h2]
@[simp] theorem eq_lI (a b : List Int) : eqD (.lst (lI a)) (.lst (lI b)) = decide (a = b) := by
  unfold eqD
  exact eqL_lI a b
@[simp] theorem eqL_lIs (a b : List Int) : eqDL (lI a) (lI b) = decide (a = b) := eqL_lI a b
@[simp] theorem eqL_lI0 (a : List Int) : eqDL (lI a) [] = decide (a = []) := eqL_lI a []
@[simp] theorem eq_lI0 (a : List Int) : eqD (.lst (lI a)) (.lst []) = decide (a = []) := eq_lI a []
@[simp] theorem shp_lst0 : shp 60 (.lst []) = true := shp_lI60 []
@[simp] theorem shp_tup (n : Nat) (l : List D) : shp (n + 1) (.tup l) = shpL n l := by unfold shp; rfl
@[simp] theorem shp_tup60 (l : List D) : shp 60 (.tup l) = shpL 59 l := shp_tup 59 l
@[simp] theorem shp_tup59 (l : List D) : shp 59 (.tup l) = shpL 58 l := shp_tup 58 l
@[simp] theorem shp_tup58 (l : List D) : shp 58 (.tup l) = shpL 57 l := shp_tup 57 l
@[simp] theorem shpL_nil (n : Nat) : shpL n [] = true := by unfold shpL; rfl
@[simp] theorem shpL_cons (n : Nat) (d : D) (l : List D) : shpL n (d :: l) = (shp n d && shpL n l) := by rw [shpL]
@[simp] theorem eq_tup (a b : List D) : eqD (.tup a) (.tup b) = eqDL a b := by unfold eqD; rfl
@[simp] theorem eq_lst (a b : List D) : eqD (.lst a) (.lst b) = eqDL a b := by unfold eqD; rfl
@[simp] theorem eqL_nil : eqDL [] [] = true := by unfold eqDL; rfl
@[simp] theorem eqL_cons (x y : D) (a b : List D) : eqDL (x :: a) (y :: b) = (eqD x y && eqDL a b) := by rw [eqDL]
@[simp] theorem all_rep (n : Nat) : biD .all [.lst (List.replicate n (.bl true))] = .ok (.bl true) 0 := by
  have := bi_allB (List.replicate n true)
  rw [List.map_replicate] at this
  rw [this]
  simp
/-- a comprehension that tells True of each int -/
theorem comp_lI {Γ : Fe} {elt : Ex} {δ : Ev} {i : Nat} {l : List Int} (h : ∀ x ∈ l, evE Γ elt ((wipeE δ [i]).set i (some (.int x))) = .ok (.bl true) 0) : compL [i] (evE Γ elt) (fun _ => .ok true) (lI l) (wipeE δ [i]) = .ok (List.replicate l.length (.bl true, 0)) := by
  have := compL_to (fun _ => (PL.D.bl true, 0)) (tg := [i]) (elt := evE Γ elt) (cnd := fun _ => .ok true) (δ := wipeE δ [i]) (xs := lI l) 0 fun j d hd => by
    unfold lI at hd
    rw [List.getElem?_map] at hd
    cases e : l[j]? with
    | none => rw [e] at hd; cases hd
    | some x =>
      rw [e] at hd
      cases hd
      exact ⟨_, takeE_one _ _ _, rfl, h x (List.mem_of_getElem? e)⟩
  rw [this, lI_len]
  congr 1
  apply List.ext_getElem
  · simp
  · intro i h1 h2
    simp
def sWithin (w : Nat) : List St := [.ret (.and (.call w [.var 0]) (.cmp2 .le .le (.var 1) (.var 0) (.var 2)))]
theorem within_ok {Γ : Fe} {w : Nat} (hw : ∀ a, Γ.fn w [.int a] = .ok (.bl true) 0) {a lo hi : Int} (h1 : lo ≤ a) (h2 : a ≤ hi) : runF Γ 3 3 (sWithin w) [.int a, .int lo, .int hi] = .ok (.bl true) 0 := by
  simp [sWithin, hw, h1, h2]
def sClaimX (v : Nat) : Ex := .call v [.var 2, .con (.int 0), .bin .sub (.var 1) (.con (.int 1))]
def sClaim (v : Nat) : List St := [.ret (.and (.isi (.var 0) .list) (.bi .all [.comp .seq [.var 0] [2] (sClaimX v)]))]
theorem claim_ok {Γ : Fe} {v : Nat} (hv : ∀ a lo hi : Int, lo ≤ a → a ≤ hi → Γ.fn v [.int a, .int lo, .int hi] = .ok (.bl true) 0) {l : List Int} {m : Int} (h : Wi m l) (hl : l.length ≤ 16777216) : runF Γ 3 2 (sClaim v) [.lst (lI l), .int m] = .ok (.bl true) 0 := by
  have k := comp_lI (Γ := Γ) (elt := sClaimX v) (δ := [some (.lst (lI l)), some (.int m), none]) (i := 2) (l := l) fun x hx => by
    obtain ⟨h1, h2⟩ := h x hx
    have := hv x 0 (m - 1) h1 (by omega)
    simp [sClaimX, this]
  simp at k
  simp [sClaim, compD, k, hl]
def sIsRunning (c g : Nat) : List St := [.ife (.or (.not (.isi (.var 0) .tuple)) (.or (.cmp .ne (.bi .len [.var 0]) (.con (.int 2))) (.not (.call c [.ix (.var 0) (.con (.int 0)), .glo g])))) [.ret (.con (.bl false))] [], .ret (.and (.call c [.ix (.var 0) (.con (.int 1)), .glo g]) (.cmp .gt (.bi .len [.ix (.var 0) (.con (.int 1))]) (.con (.int 0))))]
theorem isRunning_ok {Γ : Fe} {c g : Nat} {h l : List Int} (hg : Γ.gl g = .int 6) (h1 : Γ.fn c [.lst (lI h), .int 6] = .ok (.bl true) 0) (h2 : Γ.fn c [.lst (lI l), .int 6] = .ok (.bl true) 0) (hl : 0 < l.length) : runF Γ 1 1 (sIsRunning c g) [.tup [.lst (lI h), .lst (lI l)]] = .ok (.bl true) 0 := by
  simp [sIsRunning, hg, h1, h2, hl]
def sCheck1 (c : Nat) (r : St) : List St := [.ife (.not (.call c [.var 0])) [r] []]
theorem check1_ok {Γ : Fe} {c : Nat} {r : St} {d : D} (h : Γ.fn c [d] = .ok (.bl true) 0) : runF Γ 1 1 (sCheck1 c r) [d] = .ok .non 0 := by
  simp [sCheck1, h]
theorem fdiv_nat (a b : Nat) : (a : Int).fdiv (b : Int) = ((a / b : Nat) : Int) := by
  rw [Int.fdiv_eq_ediv_of_nonneg _ (by omega)]
  rfl
theorem gd_at {l : List Int} {i : Nat} (h : i < l.length) : l.getD i 0 = l[i] := by
  rw [List.getD_eq_getElem?_getD, List.getElem?_eq_getElem h]
  rfl
theorem count_rep (l : List Int) (x : Int) : ∀ k : Nat, (List.replicate k l).flatten.count x = k * l.count x
  | 0 => by simp
  | k + 1 => by rw [List.replicate_succ, List.flatten_cons, List.count_append, count_rep l x k, Nat.succ_mul]; omega
/-- by whole laps -/
theorem rw_div {h l : List Int} (hl : 0 < l.length) {n : Nat} (hn : h.length ≤ n) : rw_ h l n = h ++ ((List.replicate ((n - h.length) / l.length) l).flatten ++ l.take ((n - h.length) % l.length)) := by
  have e := Nat.div_add_mod (n - h.length) l.length
  rw [Nat.mul_comm] at e
  rw [← rw_laps hl _ _ (Nat.le_of_lt (Nat.mod_lt _ hl)), e]
  congr 1
  omega
theorem rw_count {h l : List Int} (hl : 0 < l.length) {n : Nat} (hn : h.length ≤ n) (x : Int) : (rw_ h l n).count x = h.count x + ((n - h.length) / l.length * l.count x + (l.take ((n - h.length) % l.length)).count x) := by
  rw [rw_div hl hn, List.count_append, List.count_append, count_rep]
end PL
namespace PL
open PySem L2
theorem least_ex {P : Nat → Prop} (h : ∃ n, P n) : ∃ n, P n ∧ ∀ m, P m → n ≤ m := by
  obtain ⟨n, hn⟩ := h
  induction n using Nat.strongRecOn with
  | ind n ih =>
    by_cases q : ∃ m, P m ∧ m < n
    · obtain ⟨m, hm, hl⟩ := q
      exact ih m hl hm
    · refine ⟨n, hn, fun m hm => Nat.le_of_not_lt fun hl => q ⟨m, hm, hl⟩⟩
/-- the lap for ever -/
def cl (l : List Int) (k : Nat) : Int := l.getD (k % l.length) 0
def Per (l : List Int) (s : Nat) : Prop := ∀ k, cl l (k + s) = cl l k
theorem per_len (l : List Int) : Per l l.length := fun k => by unfold cl; rw [Nat.add_mod_right]
theorem Per.mul {l : List Int} {s : Nat} (h : Per l s) (k : Nat) : ∀ n, cl l (k + s * n) = cl l k
  | 0 => rfl
  | n + 1 => by rw [Nat.mul_succ, ← Nat.add_assoc, h, h.mul k n]
/-- the least period -/
structure LP (l : List Int) (p : Nat) : Prop where
  pos : 0 < p
  per : Per l p
  min : ∀ s, 0 < s → Per l s → p ≤ s
theorem lp_ex {l : List Int} (hl : 0 < l.length) : ∃ p, LP l p := by
  obtain ⟨p, ⟨h1, h2⟩, h3⟩ := least_ex (P := fun s => 0 < s ∧ Per l s) ⟨l.length, hl, per_len l⟩
  exact ⟨p, h1, h2, fun s a b => h3 s ⟨a, b⟩⟩
theorem LP.le {l : List Int} {p : Nat} (L : LP l p) (hl : 0 < l.length) : p ≤ l.length := L.min _ hl (per_len l)
theorem LP.dvd {l : List Int} {p : Nat} (L : LP l p) (hl : 0 < l.length) : l.length % p = 0 := by
  rcases Nat.eq_zero_or_pos (l.length % p) with h | h
  · exact h
  · have h2 : Per l (l.length % p) := fun k => by
      have e := Nat.mod_add_div l.length p
      rw [← L.per.mul (k + l.length % p) (l.length / p), Nat.add_assoc, e]
      exact per_len l k
    have := L.min _ h h2
    have := Nat.mod_lt l.length L.pos
    omega
theorem cl_at {l : List Int} {i : Nat} (h : i < l.length) : cl l i = l.getD i 0 := by unfold cl; rw [Nat.mod_eq_of_lt h]
theorem ch_nil (l : List Int) (i : Nat) : ch [] l i = cl l i := by
  unfold ch cl
  rw [if_neg (by simp)]
  simp
theorem ch_far {h l : List Int} (k : Nat) : ch h l (h.length + k) = cl l k := by
  unfold ch cl
  rw [if_neg (by omega), Nat.add_sub_cancel_left]
theorem rep_rw (m : List Int) (hm : 0 < m.length) (k : Nat) : (List.replicate k m).flatten = rw_ [] m (k * m.length) := by
  have := rw_laps (h := []) hm k 0 (Nat.zero_le _)
  simpa using this.symm
/-- a lap is what its beginning of s tells, told over and over -/
theorem told_over {l : List Int} (hl : 0 < l.length) {s : Nat} (h0 : 0 < s) (hs : s ≤ l.length) : (List.replicate (l.length / s) (l.take s)).flatten = l ↔ l.length % s = 0 ∧ Per l s := by
  have hm : (l.take s).length = s := by rw [List.length_take]; omega
  rw [rep_rw (l.take s) (by omega), hm]
  have at_ : ∀ i, i < s → (l.take s).getD i 0 = l.getD i 0 := fun i hi => by
    rw [List.getD_eq_getElem?_getD, List.getD_eq_getElem?_getD, List.getElem?_take, if_pos hi]
  have g : ∀ i, ch [] (l.take s) i = l.getD (i % s) 0 := fun i => by
    rw [ch_nil]
    unfold cl
    rw [hm]
    exact at_ _ (Nat.mod_lt _ h0)
  constructor
  · intro e
    have e1 := congrArg List.length e
    rw [rw_len] at e1
    have hd : l.length % s = 0 := by
      have := Nat.mod_add_div l.length s
      rw [Nat.mul_comm] at e1
      omega
    have e2 : ∀ i, i < l.length → l.getD i 0 = l.getD (i % s) 0 := fun i hi => by
      rw [← g i]
      have q : i < (rw_ [] (l.take s) (l.length / s * s)).length := by rw [rw_len]; omega
      have := rw_at [] (l.take s) (n := l.length / s * s) (i := i) (by omega)
      rw [← this, gd_at hi]
      simp only [e]
    refine ⟨hd, fun k => ?_⟩
    have md : ∀ j, j % l.length % s = j % s := fun j => Nat.mod_mod_of_dvd j (Nat.dvd_of_mod_eq_zero hd)
    unfold cl
    rw [e2 _ (Nat.mod_lt _ hl), e2 (k % l.length) (Nat.mod_lt _ hl), md, md, Nat.add_mod_right]
  · rintro ⟨hd, hp⟩
    have e1 : l.length / s * s = l.length := by
      have := Nat.mod_add_div l.length s
      rw [Nat.mul_comm]
      omega
    rw [e1]
    apply List.ext_getElem
    · rw [rw_len]
    · intro i h1 h2
      rw [rw_at _ _ h2, g, ← gd_at h2, ← cl_at h2, ← cl_at (Nat.lt_of_lt_of_le (Nat.mod_lt _ h0) hs)]
      have := hp.mul (i % s) (i / s)
      rw [Nat.mod_add_div] at this
      exact this.symm
/-- where the row begins to come again -/
structure St0 (h l : List Int) (p q : Nat) : Prop where
  le : q ≤ h.length
  go : ∀ k, q ≤ k → ch h l (k + p) = ch h l k
  min : ∀ t, (∀ k, t ≤ k → ch h l (k + p) = ch h l k) → q ≤ t
theorem far_go {h l : List Int} {p : Nat} (L : LP l p) {k : Nat} (hk : h.length ≤ k) : ch h l (k + p) = ch h l k := by
  obtain ⟨j, rfl⟩ : ∃ j, k = h.length + j := ⟨k - h.length, by omega⟩
  rw [Nat.add_assoc, ch_far, ch_far, L.per]
theorem st_ex {h l : List Int} {p : Nat} (L : LP l p) : ∃ q, St0 h l p q := by
  obtain ⟨q, h1, h2⟩ := least_ex (P := fun t => ∀ k, t ≤ k → ch h l (k + p) = ch h l k) ⟨h.length, fun k hk => far_go L hk⟩
  exact ⟨q, h2 _ fun k hk => far_go L hk, h1, h2⟩
/-- p choices from turn j on -/
def seg (h l : List Int) (p j : Nat) : List Int := (List.range p).map fun i => ch h l (j + i)
theorem seg_len (h l : List Int) (p j : Nat) : (seg h l p j).length = p := by simp [seg]
end PL
namespace PL
open PySem L2
theorem atD_m1 {a : List Int} (h : 0 < a.length) : atD (lI a) (-1) = .ok (.int (a.getD (a.length - 1) 0)) 0 := by
  have A := lI_at (l := a) (i := a.length - 1) (by omega)
  rw [gd_at (by omega), ← A]
  unfold atD atI ixN
  rw [lI_len, if_neg (by omega), if_pos (by omega), if_pos (by omega), if_pos (by omega)]
  have e : (-1 + (a.length : Int)).toNat = ((a.length - 1 : Nat) : Int).toNat := by omega
  rw [e]
theorem cut_m1t (a : List Int) : cutD (lI a) none (some (-1)) = lI (a.take (a.length - 1)) := by
  unfold cutD
  have e : HT.sIx (lI a).length (lI a).length (some (-1)) = a.length - 1 := by
    unfold HT.sIx
    rw [lI_len]
    simp only [show (-1 : Int) < 0 by decide, if_true]
    omega
  rw [e, HT.sIx_none, List.drop_zero, Nat.sub_zero, lI_tk]
theorem cut_m1d (a : List Int) : cutD (lI a) (some (-1)) none = lI (a.drop (a.length - 1)) := by
  unfold cutD
  have e : HT.sIx (lI a).length 0 (some (-1)) = a.length - 1 := by
    unfold HT.sIx
    rw [lI_len]
    simp only [show (-1 : Int) < 0 by decide, if_true]
    omega
  rw [e, HT.sIx_none, lI_len, List.take_of_length_le (by simp), lI_drop]
def sRootC : Ex := .cmp .ne (.bin .mul (.sl (.var 0) .omit (.var 1)) (.bin .fdiv (.bi .len [.var 0]) (.var 1))) (.var 0)
def sRootL : List St := [.aug 1 (.con (.int 1))]
def sRoot : List St := [.asg 1 (.con (.int 1)) .imm, .whl sRootC sRootL, .ret (.sl (.var 0) .omit (.var 1))]
theorem root_ok {Γ : Fe} {l : List Int} {p : Nat} (hl : 0 < l.length) (hl2 : l.length ≤ 4000) (L : LP l p) : runF Γ 2 1 sRoot [.lst (lI l)] = .ok (.lst (lI (l.take p))) 1 := by
  have hp := L.le hl
  have cond : ∀ s : Nat, 0 < s → s ≤ p → evT Γ sRootC [some (.lst (lI l)), some (.int s)] = .ok (!decide ((List.replicate (l.length / s) (l.take s)).flatten = l)) := fun s h1 h2 => by
    have c1 : l.length / s ≤ l.length := Nat.div_le_self _ _
    have c3 : (l.length : Int).fdiv (s : Int) = (l.length / s : Nat) := fdiv_nat _ _
    have dv : divOk (s : Int) = true := small_div (by omega) (by omega)
    generalize l.length / s = a at *
    have sk : smallI (a : Int) = true := smallI_of (by omega) (by omega)
    have sz : min s l.length * a ≤ 16777216 := by
      have := Nat.mul_le_mul (show min s l.length ≤ 4000 by omega) (show a ≤ 4000 by omega)
      omega
    simp [sRootC, c3, dv, lI_take, sk, sz, lI_rep]
  obtain ⟨ρ', e, ⟨s, rfl, h1, h2⟩, ec⟩ := whl_to (c := fun ρ => evT Γ sRootC (viewA ρ)) (b := exB Γ sRootL)
    (fun ρ => ∃ s : Nat, ρ = [some ⟨.lst (lI l), 0, false⟩, some ⟨.int s, 0, false⟩] ∧ 0 < s ∧ s ≤ p) (fun ρ => match ρ with | [_, some ⟨.int y, _, _⟩] => p - y.toNat | _ => 0)
    (fun ρ ⟨s, e, h1, h2⟩ => by
      subst e
      have c := cond s h1 h2
      by_cases q : (List.replicate (l.length / s) (l.take s)).flatten = l
      · exact .inl (by rw [show viewA _ = [some (.lst (lI l)), some (.int s)] from rfl, c]; simp [q])
      · refine .inr ⟨by rw [show viewA _ = [some (.lst (lI l)), some (.int s)] from rfl, c]; simp [q], [some ⟨.lst (lI l), 0, false⟩, some ⟨.int ((s + 1 : Nat) : Int), 0, false⟩], .inl ?_, ⟨s + 1, rfl, by omega, ?_⟩, ?_⟩
        · simp [sRootL]
        · rcases Nat.lt_or_ge s p with z | z
          · exact z
          · have : s = p := by omega
            subst this
            exact absurd ((told_over hl h1 hp).mpr ⟨L.dvd hl, L.per⟩) q
        · show p - ((s + 1 : Nat) : Int).toNat < p - (s : Int).toNat
          rcases Nat.lt_or_ge s p with z | z
          · omega
          · have : s = p := by omega
            subst this
            exact absurd ((told_over hl h1 hp).mpr ⟨L.dvd hl, L.per⟩) q)
    _ [some ⟨.lst (lI l), 0, false⟩, some ⟨.int 1, 0, false⟩] (Nat.le_refl _) ⟨1, rfl, by decide, L.pos⟩
  have c := cond s h1 h2
  rw [show viewA _ = [some (.lst (lI l)), some (.int s)] from rfl, c] at ec
  have q : (List.replicate (l.length / s) (l.take s)).flatten = l := by simpa using ec
  have : p ≤ s := L.min s h1 ((told_over hl h1 (by omega)).mp q).2
  have : s = p := by omega
  subst this
  simp only [evT_eq] at e
  simp [sRoot, e, lI_take]
theorem seg_back {h l : List Int} {p j : Nat} (hp : 0 < p) (hj : 0 < j) (e : ch h l (j - 1 + p) = ch h l (j - 1)) : (seg h l p j).drop (p - 1) ++ (seg h l p j).take (p - 1) = seg h l p (j - 1) := by
  unfold seg
  apply List.ext_getElem
  · simp only [List.length_append, List.length_drop, List.length_take, List.length_map, List.length_range]
    omega
  · intro i h1 h2
    have hi : i < p := by simpa using h2
    by_cases z : i = 0
    · subst z
      rw [List.getElem_append_left (by simp; omega)]
      simp only [List.getElem_drop, List.getElem_map, List.getElem_range]
      rw [show j + (p - 1 + 0) = j - 1 + p by omega, e]
      rfl
    · rw [List.getElem_append_right (by simp; omega)]
      simp only [List.getElem_take, List.getElem_map, List.getElem_range, List.length_drop, List.length_map, List.length_range]
      congr 1
      omega
def sLeastC : Ex := .and (.cmp .ne (.var 1) (.lst [])) (.cmp .eq (.ix (.var 1) (.neg (.con (.int 1)))) (.ix (.var 2) (.neg (.con (.int 1)))))
def sLeastL : List St := [.asg 1 (.sl (.var 1) .omit (.neg (.con (.int 1)))) (.fz [1]), .asg 2 (.bin .add (.sl (.var 2) (.neg (.con (.int 1))) .omit) (.sl (.var 2) .omit (.neg (.con (.int 1))))) (.fz [2])]
def sLeast (c r : Nat) : List St := [.ex (.call c [.var 0]), .asg 1 (.bi .list [.ix (.var 0) (.con (.int 0))]) (.fz [0]), .asg 2 (.call r [.bi .list [.ix (.var 0) (.con (.int 1))]]) (.fz [0]), .whl sLeastC sLeastL, .rett [1, 2]]
theorem least_ok {Γ : Fe} {c r : Nat} {h l : List Int} {p q : Nat} (hl : 0 < l.length) (hl2 : l.length ≤ 4000) (hh2 : h.length ≤ 4000) (L : LP l p) (Q : St0 h l p q) (hc : Γ.fn c [.tup [.lst (lI h), .lst (lI l)]] = .ok .non 0) (hr : Γ.fn r [.lst (lI l)] = .ok (.lst (lI (l.take p))) 1) :
    runF Γ 3 1 (sLeast c r) [.tup [.lst (lI h), .lst (lI l)]] = .ok (.tup [.lst (lI (h.take q)), .lst (lI (seg h l p q))]) 9 := by
  have hp := L.le hl
  have hp0 := L.pos
  have hq := Q.le
  have s0 : seg h l p h.length = l.take p := by
    unfold seg
    apply List.ext_getElem
    · simp
      omega
    · intro i h1 h2
      have hi : i < p := by simpa using h1
      simp only [List.getElem_map, List.getElem_range, List.getElem_take]
      rw [ch_far, cl_at (by omega), gd_at (by omega)]
  have cond : ∀ j : Nat, j ≤ h.length → evT Γ sLeastC [some (.tup [.lst (lI h), .lst (lI l)]), some (.lst (lI (h.take j))), some (.lst (lI (seg h l p j)))] = .ok (decide (0 < j) && decide (ch h l (j - 1) = ch h l (j - 1 + p))) := fun j hj => by
    have sl := seg_len h l p j
    by_cases z : 0 < j
    · have A := atD_m1 (a := h.take j) (by simp; omega)
      have B := atD_m1 (a := seg h l p j) (by omega)
      have e1 : (h.take j).getD ((h.take j).length - 1) 0 = ch h l (j - 1) := by
        have q : (h.take j).length - 1 < (h.take j).length := by simp; omega
        have e0 : (h.take j).length - 1 = j - 1 := by simp; omega
        rw [gd_at q, List.getElem_take]
        unfold ch
        simp only [e0]
        rw [if_pos (by omega), gd_at (by omega)]
      have e2 : (seg h l p j).getD ((seg h l p j).length - 1) 0 = ch h l (j - 1 + p) := by
        rw [gd_at (by omega)]
        unfold seg
        simp only [List.getElem_map, List.getElem_range, List.length_map, List.length_range]
        congr 1
        omega
      rw [e1] at A
      rw [e2] at B
      have ne : ¬ h.take j = [] := fun e => by
        have := congrArg List.length e
        rw [List.length_take, List.length_nil] at this
        omega
      have z' : ¬ j = 0 := by omega
      have hh : ¬ h = [] := fun e => by subst e; simp at hj; omega
      simp [sLeastC, A, B, z, z', hh]
    · have : j = 0 := by omega
      subst this
      simp [sLeastC]
  obtain ⟨ρ', e, ⟨j, rfl, h1, h2⟩, ec⟩ := whl_to (c := fun ρ => evT Γ sLeastC (viewA ρ)) (b := exB Γ sLeastL)
    (fun ρ => ∃ j : Nat, ρ = [some ⟨.tup [.lst (lI h), .lst (lI l)], 0, false⟩, some ⟨.lst (lI (h.take j)), 1, false⟩, some ⟨.lst (lI (seg h l p j)), 1, false⟩] ∧ q ≤ j ∧ j ≤ h.length) (fun ρ => match ρ with | [_, some ⟨.lst y, _, _⟩, _] => y.length | _ => 0)
    (fun ρ ⟨j, e, h1, h2⟩ => by
      subst e
      have c := cond j h2
      by_cases z : 0 < j ∧ ch h l (j - 1) = ch h l (j - 1 + p)
      · have sb := seg_back (h := h) (l := l) hp0 z.1 z.2.symm
        have sl := seg_len h l p j
        refine .inr ⟨by rw [show viewA _ = [some (.tup [.lst (lI h), .lst (lI l)]), some (.lst (lI (h.take j))), some (.lst (lI (seg h l p j)))] from rfl, c, decide_eq_true z.1, decide_eq_true z.2]; rfl, [some ⟨.tup [.lst (lI h), .lst (lI l)], 0, false⟩, some ⟨.lst (lI (h.take (j - 1))), 1, false⟩, some ⟨.lst (lI (seg h l p (j - 1))), 1, false⟩], .inl ?_, ⟨j - 1, rfl, ?_, by omega⟩, ?_⟩
        · have t1 : (h.take j).take (min j h.length - 1) = h.take (j - 1) := by rw [List.take_take]; congr 1; omega
          have sz : p ≤ 16777216 := by omega
          have sz2 : p - (p - 1) + min (p - 1) p ≤ 16777216 := by omega
          rw [← sb]
          simp [sLeastL, cut_m1t, cut_m1d, sl, sz, sz2, t1]
        · rcases Nat.lt_or_ge q j with y | y
          · omega
          · exfalso
            have : q = j := by omega
            subst this
            have := Q.min (q - 1) fun k hk => by
              rcases Nat.lt_or_ge k q with x | x
              · have : k = q - 1 := by omega
                subst this
                exact z.2.symm
              · exact Q.go k x
            omega
        · show (lI (h.take (j - 1))).length < (lI (h.take j)).length
          rw [lI_len, lI_len, List.length_take, List.length_take]
          omega
      · refine .inl ?_
        rw [show viewA _ = [some (.tup [.lst (lI h), .lst (lI l)]), some (.lst (lI (h.take j))), some (.lst (lI (seg h l p j)))] from rfl, c]
        rcases Decidable.not_and_iff_or_not.mp z with y | y
        · rw [decide_eq_false y, Bool.false_and]
        · rw [decide_eq_false y, Bool.and_false])
    _ [some ⟨.tup [.lst (lI h), .lst (lI l)], 0, false⟩, some ⟨.lst (lI h), 1, false⟩, some ⟨.lst (lI (l.take p)), 1, false⟩] (Nat.le_refl _) ⟨h.length, by rw [s0, List.take_length], hq, Nat.le_refl _⟩
  have c := cond j h2
  rw [show viewA _ = [some (.tup [.lst (lI h), .lst (lI l)]), some (.lst (lI (h.take j))), some (.lst (lI (seg h l p j)))] from rfl, c] at ec
  have : j = q := by
    rcases Nat.lt_or_ge q j with y | y
    · have : ch h l (j - 1) = ch h l (j - 1 + p) := (Q.go _ (by omega)).symm
      have z : 0 < j := by omega
      rw [decide_eq_true z, decide_eq_true this] at ec
      cases ec
    · omega
  subst this
  simp only [evT_eq] at e
  simp [sLeast, hc, hr, e]
end PL
set_option exponentiation.threshold 10000
namespace PL
open PySem L2
abbrev Fr := Int × Int
def dF (p : Fr) : D := .tup [.int p.1, .int p.2]
def lowF (a b : Int) : Fr := (a.fdiv (Int.gcd a b), b.fdiv (Int.gcd a b))
theorem Low.uniqN {a b c d x y x' y' : Int} (L : Low a b x y) (M : Low c d x' y') (hb : b ≠ 0) (hd : d ≠ 0) (e : a * d = c * b) : x = x' ∧ y = y' := by
  have e1 := L.eq
  have e2 := M.eq
  have p1 := L.pos
  have p2 := M.pos
  have k : x * y' = x' * y := by
    have : (x * y') * (b * d) = (x' * y) * (b * d) := by
      calc (x * y') * (b * d) = (x * b) * (y' * d) := by ac_rfl
        _ = (a * y) * (y' * d) := by rw [e1]
        _ = (a * d) * (y * y') := by ac_rfl
        _ = (c * b) * (y * y') := by rw [e]
        _ = (c * y') * (b * y) := by ac_rfl
        _ = (x' * d) * (b * y) := by rw [e2]
        _ = (x' * y) * (b * d) := by ac_rfl
    exact Int.eq_of_mul_eq_mul_right (fun z => (Int.mul_eq_zero.mp z).elim hb hd) this
  have kn : x.natAbs * y'.natAbs = x'.natAbs * y.natAbs := by
    have := congrArg Int.natAbs k
    rwa [Int.natAbs_mul, Int.natAbs_mul] at this
  have c1 : Nat.Coprime y.natAbs x.natAbs := by
    have := L.one
    unfold Int.gcd at this
    rw [Nat.coprime_comm]
    exact this
  have c2 : Nat.Coprime y'.natAbs x'.natAbs := by
    have := M.one
    unfold Int.gcd at this
    rw [Nat.coprime_comm]
    exact this
  have d1 : y.natAbs ∣ y'.natAbs := c1.dvd_of_dvd_mul_left ⟨x'.natAbs, by rw [kn, Nat.mul_comm]⟩
  have d2 : y'.natAbs ∣ y.natAbs := c2.dvd_of_dvd_mul_left ⟨x.natAbs, by rw [← kn, Nat.mul_comm]⟩
  have ey : y = y' := by
    have := Nat.dvd_antisymm d1 d2
    omega
  subst ey
  exact ⟨Int.eq_of_mul_eq_mul_right (by omega) k, rfl⟩
theorem Low.uniq {a b c d x y x' y' : Int} (L : Low a b x y) (M : Low c d x' y') (hb : 0 < b) (hd : 0 < d) (e : a * d = c * b) : x = x' ∧ y = y' := L.uniqN M (by omega) (by omega) e
/-- a fraction in lowest terms, no greater than B above and below -/
structure FB (B : Int) (p : Fr) : Prop where
  pos : 0 < p.2
  top : p.1.natAbs ≤ B
  low : p.2 ≤ B
  one : Int.gcd p.1 p.2 = 1
abbrev Sps := List (Nat × List Int)
/-- a spell of m claimants, at most M turns -/
structure SpOk (m M : Nat) (p : Nat × List Int) : Prop where
  t1 : 1 ≤ p.1
  t2 : p.1 ≤ M
  len : p.2.length = m
  w : ∀ x ∈ p.2, 0 ≤ x ∧ x ≤ 1000
  pos : 0 < p.2.sum
/-- a plan's spells -/
structure SpsOk (m M : Nat) (s : Sps) : Prop where
  ne : 0 < s.length
  le : s.length ≤ 8
  m1 : 1 ≤ m
  m6 : m ≤ 6
  sp : ∀ p ∈ s, SpOk m M p
  all : (s.map Prod.fst).sum ≤ 240
end PL
set_option exponentiation.threshold 10000
namespace PL
open PySem L2
@[simp] theorem fldD_obj (fo : Nat → Nat → Bool) (f c : Nat) (ks : List Nat) (vs : List D) : fldD fo f (.obj c ks vs) = if fo c f then (match fldL f ks vs with | some d => .ok d 0 | none => .bad) else .bad := rfl
@[simp] theorem fldL_cons (f k : Nat) (ks : List Nat) (v : D) (vs : List D) : fldL f (k :: ks) (v :: vs) = if k = f then some v else fldL f ks vs := rfl
@[simp] theorem methD_obj (Γ : Fe) (m c : Nat) (ks : List Nat) (vs : List D) (r : RL) : methD Γ m (.obj c ks vs) r = if Γ.mh m c then r.bind fun l => Γ.me m c (.obj c ks vs :: l) else .bad := rfl
def lF (l : List Fr) : List D := l.map dF
def lT (T : List (List Fr)) : List D := T.map fun r => .lst (lF r)
@[simp] theorem lF_len (l : List Fr) : (lF l).length = l.length := by simp [lF]
@[simp] theorem lT_len (l : List (List Fr)) : (lT l).length = l.length := by simp [lT]
@[simp] theorem imm_dF (n : Nat) (p : Fr) : immB n (dF p) = true := by simp [dF]
theorem immL_lF (n : Nat) : ∀ l : List Fr, immBL n (lF l) = true
  | [] => by simp [lF]
  | x :: a => by
    show immBL n (dF x :: lF a) = true
    rw [immL_cons, imm_dF, immL_lF n a]
    rfl
@[simp] theorem imm_lF (n : Nat) (l : List Fr) : immB (n + 1) (.lst (lF l)) = true := by unfold immB; exact immL_lF n l
@[simp] theorem imm_lF1 (l : List Fr) : immB 1 (.lst (lF l)) = true := imm_lF 0 l
@[simp] theorem imm_lF10 (l : List Fr) : immB 10 (.lst (lF l)) = true := imm_lF 9 l
@[simp] theorem imm_lF9 (l : List Fr) : immB 9 (.lst (lF l)) = true := imm_lF 8 l
@[simp] theorem immL_lFs (n : Nat) (l : List Fr) : immBL n (lF l) = true := immL_lF n l
def stp (p : Fr) (i w whole : Int) : Fr := lowF (p.1 * whole + i * w * p.2) (p.2 * whole)
def rowF (first : List Fr) (i : Int) (ws : List Int) : List Fr := (List.range ws.length).map fun who => stp (first.getD who (0, 1)) i (ws.getD who 0) ws.sum
def spellR (first : List Fr) (t : Nat) (ws : List Int) : List (List Fr) := (List.range t).map fun i => rowF first (1 + (i : Nat)) ws
def addSp (T : List (List Fr)) (p : Nat × List Int) : List (List Fr) := T ++ spellR (T.getLastD []) p.1 p.2
def duesF (m : Nat) (s : Sps) : List (List Fr) := s.foldl addSp [List.replicate m (0, 1)]
/-- a table of rows of m fractions -/
structure TB (B : Int) (m : Nat) (T : List (List Fr)) : Prop where
  ne : T ≠ []
  len : ∀ r ∈ T, r.length = m
  fb : ∀ r ∈ T, ∀ p ∈ r, FB B p
theorem FB.mono {B C : Int} {p : Fr} (h : FB B p) (hc : B ≤ C) : FB C p := ⟨h.pos, Int.le_trans h.top hc, Int.le_trans h.low hc, h.one⟩
theorem FB.get {B : Int} {r : List Fr} {i : Nat} (h : ∀ p ∈ r, FB B p) (hi : i < r.length) : FB B (r.getD i (0, 1)) := by
  rw [List.getD_eq_getElem?_getD, List.getElem?_eq_getElem hi]
  exact h _ (List.getElem_mem hi)
end PL
set_option exponentiation.threshold 10000
namespace PL
open PySem L2
def dK (p : Nat × List Int) : D := .tup [.int p.1, .tup (lI p.2)]
theorem lI_atT {l : List Int} {i : Nat} (h : i < l.length) : atD (lI l) (i : Nat) = .ok (.int (l.getD i 0)) 0 := by rw [lI_at h, gd_at h]
section
variable {Γ : Fe} {pl md : Nat} {m M : Nat} {B : Int} (hpl : ∀ (p q : Fr) (C : Int), FB C p → FB C q → C ≤ 10 ^ 100 → Γ.fn pl [dF p, dF q] = .ok (dF (lowF (p.1 * q.2 + q.1 * p.2) (p.2 * q.2))) 9) (hmd : ∀ a b : Int, 0 < b → b.natAbs ≤ 10 ^ 250 → Γ.fn md [.int a, .int b] = .ok (dF (lowF a b)) 9)
include hpl hmd
end
end PL
set_option exponentiation.threshold 10000
namespace PL
open PySem L2
theorem fb01 : FB 1 (0, 1) := ⟨by decide, by decide, by decide, by decide⟩
theorem tb0 (m : Nat) : TB 1 m [List.replicate m (0, 1)] := ⟨by simp, fun r hr => by
  have : r = List.replicate m (0, 1) := by simpa using hr
  rw [this]
  simp, fun r hr p hp => by
  have : r = List.replicate m (0, 1) := by simpa using hr
  rw [this] at hp
  rw [(List.mem_replicate.mp hp).2]
  exact fb01⟩
end PL
set_option exponentiation.threshold 10000
namespace PL
open PySem L2
/-- a plan -/
def dP (m : Nat) (s : Sps) : D := .obj 0 [0, 1] [.lst (s.map dK), .lst (lT (duesF m s))]
@[simp] theorem imm_dK (n : Nat) (p : Nat × List Int) : immB n (dK p) = true := by simp [dK]
theorem immL_dK (n : Nat) : ∀ s : Sps, immBL n (s.map dK) = true
  | [] => by simp
  | p :: s => by rw [List.map_cons, immL_cons, imm_dK, immL_dK n s]; rfl
@[simp] theorem imm_dKs (n : Nat) (s : Sps) : immB (n + 1) (.lst (s.map dK)) = true := by unfold immB; exact immL_dK n s
@[simp] theorem imm_dKs10 (s : Sps) : immB 10 (.lst (s.map dK)) = true := imm_dKs 9 s
end PL
set_option exponentiation.threshold 10000
namespace PL
open PySem L2
@[simp] theorem frzO_nil (k : Nat) (o : Option Sl) : frzO [] k o = o := by
  cases o with
  | none => rfl
  | some s => rfl
section
variable {Γ : Fe} {low : Nat} {m M : Nat} {B : Int} (hlow : ∀ a b : Int, 0 < b → b.natAbs ≤ 10 ^ 250 → Γ.fn low [.int a, .int b] = .ok (dF (lowF a b)) 9)
include hlow
end
end PL
set_option exponentiation.threshold 10000
namespace PL
open PySem L2
/-- a lag: a due less a count -/
def lagP (p : Fr) (c : Int) : Fr := (p.1 - c * p.2, p.2)
theorem lagP_gcd {p : Fr} (c : Int) (h : Int.gcd p.1 p.2 = 1) : Int.gcd (lagP p c).1 (lagP p c).2 = 1 := by
  unfold lagP
  have : p.1 - c * p.2 = p.1 + p.2 * (-c) := by rw [Int.mul_neg, Int.mul_comm]; rfl
  rw [this]
  simpa using h
theorem TB.row {B : Int} {m : Nat} {T : List (List Fr)} (h : TB B m T) {t : Nat} (ht : t < T.length) : (T.getD t []).length = m ∧ ∀ p ∈ T.getD t [], FB B p := by
  have e : T.getD t [] = T[t] := by rw [List.getD_eq_getElem?_getD, List.getElem?_eq_getElem ht]; rfl
  rw [e]
  exact ⟨h.len _ (List.getElem_mem ht), h.fb _ (List.getElem_mem ht)⟩
end PL
set_option exponentiation.threshold 10000
namespace PL
open PySem L2
end PL
set_option exponentiation.threshold 10000
namespace PL
open PySem L2
/-- small, of a positive bottom -/
structure LB (p : Fr) : Prop where
  pos : 0 < p.2
  low : p.2 ≤ 10 ^ 45
  top : p.1.natAbs ≤ 10 ^ 50
structure LT (m : Nat) (T : List (List Fr)) : Prop where
  len : T.length ≤ 1000
  row : ∀ t, t < T.length → (T.getD t []).length = m
  lb : ∀ t w, t < T.length → w < m → LB ((T.getD t []).getD w (0, 1))
end PL
set_option exponentiation.threshold 10000
namespace PL
open PySem L2
end PL
set_option exponentiation.threshold 10000
namespace PL
open PySem L2
/-- things of which whole may be asked -/
def argD : D → Bool
  | .obj _ _ _ => false
  | .dct _ _ => false
  | .exc _ _ => false
  | _ => true
@[simp] theorem argD_int (z : Int) : argD (.int z) = true := rfl
@[simp] theorem argD_bl (b : Bool) : argD (.bl b) = true := rfl
@[simp] theorem argD_non : argD .non = true := rfl
@[simp] theorem argD_str (s : Str) : argD (.str s) = true := rfl
@[simp] theorem argD_lst (l : List D) : argD (.lst l) = true := rfl
@[simp] theorem argD_tup (l : List D) : argD (.tup l) = true := rfl
section
variable {Γ : Fe} {m M : Nat} {s : Sps}
def dueF (T : List (List Fr)) (z w : Nat) : Fr := (T.getD z []).getD w (0, 1)
end
end PL
set_option exponentiation.threshold 10000
namespace PL
open PySem L2
abbrev Bd := Fr × Bool
def dB (b : Bd) : D := .tup [dF b.1, .bl b.2]
structure BdOk (b : Bd) : Prop where
  fb : FB (10 ^ 45) b.1
  nn : 0 ≤ b.1.1
  le : b.1.1 ≤ 300 * b.1.2
@[simp] theorem imm_dB (n : Nat) (b : Bd) : immB n (dB b) = true := by simp [dB]
@[simp] theorem isi_bool_non : isiD .bool .non = .ok (.bl false) 0 := rfl
section
variable {Γ : Fe}
theorem fdiv_spec {a b : Int} (hb : 0 < b) : a.fdiv b * b ≤ a ∧ a < (a.fdiv b + 1) * b := by
  have e := Int.mul_fdiv_add_fmod a b
  have n := Int.fmod_nonneg_of_pos a hb
  have l := Int.fmod_lt_of_pos a hb
  have c1 : a.fdiv b * b = b * a.fdiv b := Int.mul_comm _ _
  rw [Int.add_mul]
  omega
theorem le_fdiv {a b k : Int} (hb : 0 < b) : k ≤ a.fdiv b ↔ k * b ≤ a := by
  obtain ⟨h1, h2⟩ := fdiv_spec (a := a) hb
  constructor
  · intro h
    have := Int.mul_le_mul_of_nonneg_right h (Int.le_of_lt hb)
    omega
  · intro h
    refine Int.not_lt.mp fun z => ?_
    have := Int.mul_le_mul_of_nonneg_right (show a.fdiv b + 1 ≤ k by omega) (Int.le_of_lt hb)
    omega
def mx0 (i : Int) : Int := if i > 0 then i else 0
def lowB (b : Bd) (d : Fr) : Int := if b.2 then mx0 ((d.1 * b.1.2 - b.1.1 * d.2).fdiv (d.2 * b.1.2) + 1) else mx0 (-((-(d.1 * b.1.2 - b.1.1 * d.2)).fdiv (d.2 * b.1.2)))
def highB (b : Bd) (d : Fr) : Int := if b.2 then mx0 (-((-(d.1 * b.1.2 + b.1.1 * d.2)).fdiv (d.2 * b.1.2)) - 1) else (d.1 * b.1.2 + b.1.1 * d.2).fdiv (d.2 * b.1.2)
def letsF (b : Bd) (t d : Int) : Bool := if b.2 then decide (t * b.1.2 < b.1.1 * d) else decide (t * b.1.2 ≤ b.1.1 * d)
def absI (t : Int) : Int := if t < 0 then -t else t
/-- which counts the bound lets by -/
theorem lets_low {b : Bd} {d : Fr} (B : BdOk b) (F : FB (10 ^ 40) d) {k : Int} (hk : 0 ≤ k) : letsF b (d.1 - k * d.2) d.2 = decide (lowB b d ≤ k) := by
  have pb := Int.mul_pos F.pos B.fb.pos
  obtain ⟨⟨p, q⟩, o⟩ := b
  have eN : (d.1 - k * d.2) * q = d.1 * q - k * (d.2 * q) := by rw [Int.sub_mul, Int.mul_assoc]
  dsimp only at pb
  unfold letsF lowB
  dsimp only
  rw [eN]
  generalize d.1 * q = x at *
  generalize p * d.2 = y at *
  generalize d.2 * q = Q at *
  have key := le_fdiv (a := x - y) (k := k) pb
  have key2 := le_fdiv (a := -(x - y)) (k := -k) pb
  rw [Int.neg_mul] at key2
  generalize k * Q = z at *
  cases o
  · simp only [Bool.false_eq_true, if_false]
    congr 1
    apply propext
    unfold mx0
    split <;> omega
  · simp only [if_true]
    congr 1
    apply propext
    unfold mx0
    split <;> omega
theorem lets_high {b : Bd} {d : Fr} (B : BdOk b) (F : FB (10 ^ 40) d) (dn : 0 ≤ d.1) {k : Int} (hk : 1 ≤ k) : letsF b (k * d.2 - d.1) d.2 = decide (k ≤ highB b d) := by
  have pb := Int.mul_pos F.pos B.fb.pos
  obtain ⟨⟨p, q⟩, o⟩ := b
  have eN : (k * d.2 - d.1) * q = k * (d.2 * q) - d.1 * q := by rw [Int.sub_mul, Int.mul_assoc]
  dsimp only at pb
  unfold letsF highB
  dsimp only
  rw [eN]
  generalize d.1 * q = x at *
  generalize p * d.2 = y at *
  generalize d.2 * q = Q at *
  have key := le_fdiv (a := x + y) (k := k) pb
  have key2 := le_fdiv (a := -(x + y)) (k := -k) pb
  rw [Int.neg_mul] at key2
  generalize k * Q = z at *
  cases o
  · simp only [Bool.false_eq_true, if_false]
    congr 1
    apply propext
    omega
  · simp only [if_true]
    congr 1
    apply propext
    unfold mx0
    split <;> omega
theorem low_nn (b : Bd) (d : Fr) : 0 ≤ lowB b d := by
  unfold lowB mx0
  split <;> split <;> omega
theorem high_nn {b : Bd} {d : Fr} (B : BdOk b) (F : FB (10 ^ 40) d) (dn : 0 ≤ d.1) : 0 ≤ highB b d := by
  have pb := Int.mul_pos F.pos B.fb.pos
  have h1 := Int.mul_nonneg dn (Int.le_of_lt B.fb.pos)
  have h2 := Int.mul_nonneg B.nn (Int.le_of_lt F.pos)
  unfold highB
  split
  · unfold mx0
    split <;> omega
  · rw [le_fdiv pb]
    omega
def rngB (b : Bd) (d : Fr) : Int × Int := (lowB b d, highB b d)
end
end PL
set_option exponentiation.threshold 10000
namespace PL
open PySem L2
def NN (r : List Fr) : Prop := ∀ p ∈ r, 0 ≤ p.1 ∧ 0 < p.2
theorem NN.get {r : List Fr} (h : NN r) (i : Nat) : 0 ≤ (r.getD i (0, 1)).1 ∧ 0 < (r.getD i (0, 1)).2 := by
  rw [List.getD_eq_getElem?_getD]
  cases e : r[i]? with
  | none => exact ⟨by decide, by decide⟩
  | some p => exact h p (List.mem_of_getElem? e)
section
variable {Γ : Fe} {m M : Nat} {s : Sps} {ck du lo hi : Nat} {b : Bd}
end
end PL
namespace PL
open PySem L2
section
variable {K : PySem.W.Frag} {A B : Addr} {b : Bool}
end
@[simp] theorem nEx_dF (p : Fr) : nEx (dF p) = true := by simp [dF]
@[simp] theorem nEx_dB (b : Bd) : nEx (dB b) = true := by simp [dB]
@[simp] theorem nExL_lF (l : List Fr) : nExL (lF l) = true := nExL_all fun d hd => by
  obtain ⟨i, _, rfl⟩ := List.mem_map.mp hd
  exact nEx_dF i
@[simp] theorem nExL_lT (T : List (List Fr)) : nExL (lT T) = true := nExL_all fun d hd => by
  obtain ⟨i, _, rfl⟩ := List.mem_map.mp hd
  simp
@[simp] theorem nEx_dP (m : Nat) (s : Sps) : nEx (dP m s) = true := by
  unfold dP
  rw [nEx_obj, nExL_cons, nExL_cons, nEx_lst, nEx_lst, nExL_lT, nExL_nil, nExL_all fun d hd => by
    obtain ⟨i, _, rfl⟩ := List.mem_map.mp hd
    simp [dK]]
  rfl
theorem frzO_not {l : List Nat} {k : Nat} (h : l.contains k = false) (o : Option Sl) : frzO l k o = o := by
  cases o with
  | none => rfl
  | some s => unfold frzO; dsimp only; rw [h]; rfl
end PL
set_option exponentiation.threshold 10000
namespace PL
open PySem L2
def stopO : OS → Bool
  | .rt _ _ => true
  | .exn _ => true
  | _ => false
/-- a for that ends at the first item of a kind -/
theorem forS_find {tg : List Nat} {b : En → OS} (I : Nat → En → Prop) (P : Nat → Bool) (o : Nat → OS) (ho : ∀ i, stopO (o i) = true) : ∀ {xs : List D} {ρ : En} (k : Nat), I k ρ →
    (∀ i x ρ, xs[i]? = some x → I (k + i) ρ → ∃ ρ1, takeS tg x ρ = some ρ1 ∧ (if P (k + i) then b ρ1 = o (k + i) else ∃ ρ2, (b ρ1 = .nx ρ2 ∨ b ρ1 = .ct ρ2) ∧ I (k + i + 1) ρ2)) →
    (∃ i, i < xs.length ∧ P (k + i) = true ∧ (∀ j, j < i → P (k + j) = false) ∧ forS tg b xs ρ = o (k + i)) ∨
    ((∀ j, j < xs.length → P (k + j) = false) ∧ ∃ ρ', forS tg b xs ρ = .nx ρ' ∧ I (k + xs.length) ρ')
  | [], ρ, k, h0, _ => .inr ⟨fun j h => absurd h (by simp), ρ, rfl, h0⟩
  | x :: xs, ρ, k, h0, hs => by
    obtain ⟨ρ1, e1, h1⟩ := hs 0 x ρ rfl h0
    rw [Nat.add_zero] at h1
    cases hp : P k with
    | true =>
      rw [hp, if_pos rfl] at h1
      refine .inl ⟨0, by simp, hp, fun j h => absurd h (by omega), ?_⟩
      unfold forS
      rw [e1]
      dsimp only
      rw [h1, Nat.add_zero]
      have := ho k
      cases e : o k <;> rw [e] at this <;> first | rfl | cases this
    | false =>
      rw [hp, if_neg (by decide)] at h1
      obtain ⟨ρ2, e2, h2⟩ := h1
      have e3 : forS tg b (x :: xs) ρ = forS tg b xs ρ2 := by
        rw [forS, e1]
        dsimp only
        rcases e2 with e2 | e2 <;> rw [e2]
      rcases forS_find I P o ho (xs := xs) (ρ := ρ2) (k + 1) h2 fun i y ρ hy hi => by
        have := hs (i + 1) y ρ (by simpa using hy) (by rw [show k + (i + 1) = k + 1 + i by omega]; exact hi)
        rw [show k + (i + 1) = k + 1 + i by omega] at this
        exact this with ⟨i, a1, a2, a3, a4⟩ | ⟨a1, ρ', a2, a3⟩
      · refine .inl ⟨i + 1, by simpa using a1, by rw [show k + (i + 1) = k + 1 + i by omega]; exact a2, fun j hj => ?_, ?_⟩
        · cases j with
          | zero => exact hp
          | succ j => rw [show k + (j + 1) = k + 1 + j by omega]; exact a3 j (by omega)
        · rw [e3, a4, show k + 1 + i = k + (i + 1) by omega]
      · refine .inr ⟨fun j hj => ?_, ρ', by rw [e3, a2], by rw [List.length_cons, show k + (xs.length + 1) = k + 1 + xs.length by omega]; exact a3⟩
        cases j with
        | zero => exact hp
        | succ j => rw [show k + (j + 1) = k + 1 + j by omega]; exact a1 j (by simpa using hj)
def dO : Option Nat → D
  | none => .non
  | some t => .int t
@[simp] theorem dO_none : dO none = .non := rfl
@[simp] theorem dO_some (t : Nat) : dO (some t) = .int t := rfl
@[simp] theorem imm_dO (n : Nat) (o : Option Nat) : immB n (dO o) = true := by cases o <;> simp
@[simp] theorem isi_bool_dO (o : Option Nat) : isiD .bool (dO o) = .ok (.bl false) 0 := by cases o <;> rfl
section
variable {Γ : Fe} {m M : Nat} {s : Sps} {b : Bd}
end
end PL
set_option exponentiation.threshold 10000
namespace PL
open PySem L2
def LE (t : Int) (r : List Fr) : Prop := ∀ p ∈ r, p.1 ≤ t * p.2
theorem LE.get {t : Int} {r : List Fr} (ht : 0 ≤ t) (h : LE t r) (i : Nat) : (r.getD i (0, 1)).1 ≤ t * (r.getD i (0, 1)).2 := by
  rw [List.getD_eq_getElem?_getD]
  cases e : r[i]? with
  | none => simpa using ht
  | some p => exact h p (List.mem_of_getElem? e)
@[simp] theorem eq_non : eqD .non .non = true := by unfold eqD; rfl
end PL
set_option exponentiation.threshold 10000
namespace PL
open PySem L2
section
variable {Γ : Fe} {m M : Nat} {s : Sps} {row : List Int}
end
end PL
namespace PL
open PySem L2
mutual
theorem eqD_refl : ∀ {n : Nat} {d : D}, shp n d = true → eqD d d = true
  | _, .non, _ => by unfold eqD; rfl
  | _, .bl b, _ => by unfold eqD; simp
  | _, .int i, _ => by unfold eqD; simp
  | _, .str s, _ => by unfold eqD; simp
  | 0, .tup _, h => by simp [shp] at h
  | 0, .lst _, h => by simp [shp] at h
  | n + 1, .tup l, h => by
    unfold shp at h
    unfold eqD
    exact eqDL_refl h
  | n + 1, .lst l, h => by
    unfold shp at h
    unfold eqD
    exact eqDL_refl h
  | 0, .dct _ _, h => by simp [shp] at h
  | n + 1, .dct _ _, h => by simp [shp] at h
  | 0, .obj _ _ _, h => by simp [shp] at h
  | n + 1, .obj _ _ _, h => by simp [shp] at h
  | 0, .exc _ _, h => by simp [shp] at h
  | n + 1, .exc _ _, h => by simp [shp] at h
theorem eqDL_refl : ∀ {n : Nat} {l : List D}, shpL n l = true → eqDL l l = true
  | _, [], _ => by unfold eqDL; rfl
  | n, d :: l, h => by
    unfold shpL at h
    simp only [Bool.and_eq_true] at h
    unfold eqDL
    rw [eqD_refl h.1, eqDL_refl h.2]
    rfl
end
theorem shpL_all {n : Nat} : ∀ {l : List D}, (∀ d ∈ l, shp n d = true) → shpL n l = true
  | [], _ => by unfold shpL; rfl
  | d :: l, h => by
    unfold shpL
    rw [h d List.mem_cons_self, shpL_all fun x hx => h x (List.mem_cons_of_mem _ hx)]
    rfl
theorem shp_lst {n : Nat} {l : List D} (h : ∀ d ∈ l, shp n d = true) : shp (n + 1) (.lst l) = true := by
  unfold shp
  exact shpL_all h
theorem shpT_all {n : Nat} {l : List D} (h : ∀ d ∈ l, shp n d = true) : shp (n + 1) (.tup l) = true := by
  unfold shp
  exact shpL_all h
theorem shp_lsI (n : Nat) (l : List Int) : shp (n + 1) (.lst (lI l)) = true := shp_lst fun d hd => by
  obtain ⟨i, _, rfl⟩ := List.mem_map.mp hd
  exact shp_int _ n
/-- a thing is like itself -/
theorem cmp_self {d : D} (h : shp 60 d = true) : cmpD .eq d d = .ok (.bl true) 0 ∧ cmpD .ne d d = .ok (.bl false) 0 := by
  rw [cmp_eq, cmp_ne, h, eqD_refl h]
  exact ⟨rfl, rfl⟩
@[simp] theorem nEx_dct (k l : List D) : nEx (.dct k l) = nExL l := by rw [nEx]
@[simp] theorem isi_list_non : isiD .list .non = .ok (.bl false) 0 := rfl
@[simp] theorem isi_list_str (s : Str) : isiD .list (.str s) = .ok (.bl false) 0 := rfl
@[simp] theorem isi_list_dct (l : List D) : isiD .list (.dct [] l) = .ok (.bl false) 0 := rfl
@[simp] theorem isi_list_bl (b : Bool) : isiD .list (.bl b) = .ok (.bl false) 0 := rfl
@[simp] theorem isi_tuple_non : isiD .tuple .non = .ok (.bl false) 0 := rfl
@[simp] theorem isi_tuple_str (s : Str) : isiD .tuple (.str s) = .ok (.bl false) 0 := rfl
@[simp] theorem isi_tuple_bl (b : Bool) : isiD .tuple (.bl b) = .ok (.bl false) 0 := rfl
end PL
set_option exponentiation.threshold 10000
namespace PL
open PySem L2
section
variable {Γ : Fe} {m M : Nat} {s : Sps} {b : Bd} {row : List Int}
def keepsP (b : Bd) (p : Fr) : Bool := letsF b (absI p.1) p.2
theorem BdOk.lb (B : BdOk b) : LB b.1 := ⟨B.fb.pos, B.fb.low, by have := B.fb.top; omega⟩
theorem LT.mem {T : List (List Fr)} (L : LT m T) : ∀ r ∈ T, ∀ p ∈ r, LB p := fun r hr p hp => by
  obtain ⟨t, ht, rfl⟩ := List.getElem_of_mem hr
  obtain ⟨w, hw, rfl⟩ := List.getElem_of_mem hp
  have e1 : T.getD t [] = T[t] := by rw [List.getD_eq_getElem?_getD, List.getElem?_eq_getElem ht]; rfl
  have l := L.row t ht
  rw [e1] at l
  have := L.lb t w ht (by omega)
  rw [e1, List.getD_eq_getElem?_getD, List.getElem?_eq_getElem hw] at this
  exact this
end
end PL
set_option exponentiation.threshold 10000
namespace PL
open PySem L2
section
variable {Γ : Fe} {m M : Nat} {s : Sps} {b : Bd} {row : List Int}
end
end PL
set_option exponentiation.threshold 10000
namespace PL
open PySem L2
section
variable {Γ : Fe} {m M : Nat} {s : Sps} {b : Bd} {row : List Int}
def mxI (i j : Int) : Int := if j > i then j else i
def tallyF (m : Nat) (row : List Int) : List Int := (List.range m).map fun w : Nat => ((row.count ((w : Nat) : Int) : Nat) : Int)
def begCell (b : Bd) (row : List Int) (r : List Fr) (w : Nat) : Int × Int := (mxI (row.count ((w : Nat) : Int) : Nat) (lowB b (r.getD w (0, 1))), highB b (r.getD w (0, 1)))
end
end PL
set_option exponentiation.threshold 10000
namespace PL
open PySem L2
section
variable {Γ : Fe} {m M : Nat} {s : Sps} {b : Bd} {row : List Int}
end
end PL
set_option exponentiation.threshold 10000
namespace PL
open PySem L2
section
variable {Γ : Fe} {m M : Nat} {s : Sps} {b : Bd} {row : List Int}
def wtR (o : Bool) (A B : List Fr) (w : Nat) : Int := if o then mx0 ((B.getD w (0, 1)).1 - (A.getD w (0, 1)).2) else mx0 ((B.getD w (0, 1)).2 - (A.getD w (0, 1)).1)
def wantR (o : Bool) (A B : List Fr) : Int := ((List.range A.length).map (wtR o A B)).sum
def rightR (o : Bool) (A B : List Fr) (l : Int) : Bool := if o then decide (l < wantR o A B) else decide (wantR o A B < l)
def rightT (T : List (List Fr)) (f : Nat) (o : Bool) (x y : Nat) : Bool := rightR o (T.getD (x - f) []) (T.getD (y - f) []) ((y : Int) - x)
def rngT (b : Bd) (T : List (List Fr)) : List (List Fr) := T.map fun r => r.map (rngB b)
theorem rngT_len (b : Bd) (T : List (List Fr)) : (rngT b T).length = T.length := by simp [rngT]
theorem rngT_at (b : Bd) (T : List (List Fr)) (t : Nat) : (rngT b T).getD t [] = (T.getD t []).map (rngB b) := by
  unfold rngT
  rw [List.getD_eq_getElem?_getD, List.getD_eq_getElem?_getD, List.getElem?_map]
  cases T[t]? <;> rfl
end
end PL
set_option exponentiation.threshold 10000
namespace PL
open PySem L2
section
variable {Γ : Fe} {m M : Nat} {s : Sps} {b : Bd} {row : List Int}
end
end PL
set_option exponentiation.threshold 10000
namespace PL
open PySem L2
def sumR (m : Nat) (f : Nat → Int) : Int := ((List.range m).map f).sum
theorem sumR_succ (m : Nat) (f : Nat → Int) : sumR (m + 1) f = sumR m f + f m := by
  unfold sumR
  rw [List.range_succ, List.map_append, List.sum_append]
  simp
theorem sumR_le {f g : Nat → Int} : ∀ {m : Nat}, (∀ w, w < m → f w ≤ g w) → sumR m f ≤ sumR m g
  | 0, _ => Int.le_refl _
  | m + 1, h => by
    rw [sumR_succ, sumR_succ]
    have := sumR_le (m := m) fun w hw => h w (by omega)
    have := h m (by omega)
    omega
theorem sumR_lt {f g : Nat → Int} {w0 : Nat} : ∀ {m : Nat}, (∀ w, w < m → f w ≤ g w) → w0 < m → f w0 < g w0 → sumR m f < sumR m g
  | 0, _, h, _ => absurd h (by omega)
  | m + 1, h, hw, hl => by
    rw [sumR_succ, sumR_succ]
    have h0 := sumR_le (m := m) fun w hw => h w (by omega)
    have h1 := h m (by omega)
    by_cases e : w0 = m
    · subst e; omega
    · have := sumR_lt (m := m) (fun w hw => h w (by omega)) (show w0 < m by omega) hl
      omega
theorem sumR_congr {f g : Nat → Int} {m : Nat} (h : ∀ w, w < m → f w = g w) : sumR m f = sumR m g :=
  Int.le_antisymm (sumR_le fun w hw => by rw [h w hw]; exact Int.le_refl _) (sumR_le fun w hw => by rw [h w hw]; exact Int.le_refl _)
theorem sumR_add (f g : Nat → Int) : ∀ m : Nat, sumR m (fun w => f w + g w) = sumR m f + sumR m g
  | 0 => rfl
  | m + 1 => by
    rw [sumR_succ, sumR_succ, sumR_succ, sumR_add f g m]
    omega
theorem sumR_zero : ∀ m : Nat, sumR m (fun _ => 0) = 0
  | 0 => rfl
  | m + 1 => by rw [sumR_succ, sumR_zero m]; rfl
theorem sumR_one (x : Nat) : ∀ m : Nat, sumR m (fun w => if x = w then 1 else 0) = if x < m then 1 else 0
  | 0 => rfl
  | m + 1 => by
    rw [sumR_succ, sumR_one x m]
    by_cases h : x < m
    · rw [if_pos h, if_neg (by omega), if_pos (by omega)]; rfl
    · rw [if_neg h]
      by_cases e : x = m
      · rw [if_pos e, if_pos (by omega)]; rfl
      · rw [if_neg e, if_neg (by omega)]; rfl
theorem sumR_count {m : Nat} : ∀ {l : List Nat}, (∀ x ∈ l, x < m) → sumR m (fun w => ((l.count w : Nat) : Int)) = l.length
  | [], _ => by simp [sumR_zero]
  | x :: l, h => by
    have ih := sumR_count (l := l) fun y hy => h y (List.mem_cons_of_mem _ hy)
    have e : sumR m (fun w => (((x :: l).count w : Nat) : Int)) = sumR m (fun w => ((l.count w : Nat) : Int) + if x = w then 1 else 0) := sumR_congr fun w _ => by
      rw [List.count_cons]
      by_cases z : x = w
      · simp [z]
      · simp [z]
    rw [e, sumR_add, ih, sumR_one, if_pos (h x List.mem_cons_self)]
    simp
def lo (T : List (List Fr)) (t w : Nat) : Int := ((T.getD t []).getD w (0, 1)).1
def hi (T : List (List Fr)) (t w : Nat) : Int := ((T.getD t []).getD w (0, 1)).2
def cn (st : List Int) (r : List Nat) (j w : Nat) : Int := st.getD w 0 + ((r.take j).count w : Nat)
def mustBy (T : List (List Fr)) (t w : Nat) (c : Int) : Nat := match (List.range (T.length - t)).find? (fun i => decide (c < lo T (t + i) w)) with
  | some i => t + i
  | none => T.length
theorem mustBy_gt {T : List (List Fr)} {t w q : Nat} {c : Int} (hq : q < T.length) (h : ∀ p, t ≤ p → p ≤ q → lo T p w ≤ c) : q < mustBy T t w c := by
  unfold mustBy
  split
  · rename_i i e
    have h1 := List.find?_some e
    simp only [decide_eq_true_eq] at h1
    refine Nat.lt_of_not_le fun hle => ?_
    have := h (t + i) (by omega) hle
    omega
  · exact hq
theorem mustBy_le {T : List (List Fr)} {t w q : Nat} {c : Int} (hq : q < T.length) (ht : t ≤ q) (h : c < lo T q w) : mustBy T t w c ≤ q := by
  unfold mustBy
  split
  · rename_i i e
    refine Nat.le_of_not_lt fun hlt => ?_
    have h1 := List.find?_eq_some_iff_append.mp e
    obtain ⟨h1, as, bs, h2, h3⟩ := h1
    have hm : q - t ∈ as := by
      have hi : q - t < i := by omega
      have hl : i = as.length := by
        have : (List.range (T.length - t))[as.length]? = some i := by rw [h2]; simp
        rw [List.getElem?_range] at this
        · exact (Option.some.inj this).symm
        · have := congrArg List.length h2
          simp at this
          omega
      have : (List.range (T.length - t))[q - t]? = some (q - t) := by rw [List.getElem?_range]; omega
      rw [h2, List.getElem?_append_left (by omega)] at this
      exact List.mem_of_getElem? this
    have := h3 _ hm
    rw [show t + (q - t) = q by omega] at this
    simp [h] at this
  · rename_i e
    have := List.find?_eq_none.mp e (q - t) (List.mem_range.mpr (by omega))
    rw [show t + (q - t) = q by omega] at this
    simp [h] at this
structure Mono (m : Nat) (T : List (List Fr)) : Prop where
  lo : ∀ w p q, w < m → p ≤ q → q < T.length → lo T p w ≤ lo T q w
  hi : ∀ w p q, w < m → 1 ≤ p → p ≤ q → q < T.length → hi T p w ≤ hi T q w
structure Edf (T : List (List Fr)) (m : Nat) (st : List Int) (r : List Nat) : Prop where
  wi : ∀ x ∈ r, x < m
  el : ∀ j, j < r.length → cn st r j (r.getD j 0) + 1 ≤ hi T (j + 1) (r.getD j 0)
  ed : ∀ j, j < r.length → ∀ w, w < m → cn st r j w + 1 ≤ hi T (j + 1) w → mustBy T (j + 1) (r.getD j 0) (cn st r j (r.getD j 0)) ≤ mustBy T (j + 1) w (cn st r j w)
theorem cn_zero (st : List Int) (r : List Nat) (w : Nat) : cn st r 0 w = st.getD w 0 := by simp [cn]
theorem cn_app {st : List Int} {r : List Nat} {x j w : Nat} (h : j ≤ r.length) : cn st (r ++ [x]) j w = cn st r j w := by
  unfold cn
  rw [List.take_append_of_le_length h]
theorem cn_succ {st : List Int} {r : List Nat} {j w : Nat} (h : j < r.length) : cn st r (j + 1) w = cn st r j w + if r.getD j 0 = w then 1 else 0 := by
  have g : r.getD j 0 = r[j] := by rw [List.getD_eq_getElem?_getD, List.getElem?_eq_getElem h]; rfl
  rw [g]
  unfold cn
  rw [List.take_succ, List.getElem?_eq_getElem h, Option.toList, List.count_append, List.count_singleton]
  by_cases e : r[j] = w
  · simp [e]; omega
  · simp [e]
theorem cn_last {st : List Int} {r : List Nat} {x w : Nat} : cn st (r ++ [x]) (r.length + 1) w = cn st r r.length w + if x = w then 1 else 0 := by
  rw [cn_succ (by simp), cn_app (Nat.le_refl _)]
  simp
theorem Edf.nil (T : List (List Fr)) (m : Nat) (st : List Int) : Edf T m st [] := ⟨fun x h => (nomatch h), fun j h => absurd h (by simp), fun j h => absurd h (by simp)⟩
theorem Edf.app {T : List (List Fr)} {m : Nat} {st : List Int} {r : List Nat} {x : Nat} (E : Edf T m st r) (hx : x < m) (el : cn st r r.length x + 1 ≤ PL.hi T (r.length + 1) x)
    (ed : ∀ w, w < m → cn st r r.length w + 1 ≤ PL.hi T (r.length + 1) w → mustBy T (r.length + 1) x (cn st r r.length x) ≤ mustBy T (r.length + 1) w (cn st r r.length w)) : Edf T m st (r ++ [x]) := by
  have gl : ∀ j, j < r.length → (r ++ [x]).getD j 0 = r.getD j 0 := fun j hj => by
    rw [List.getD_eq_getElem?_getD, List.getElem?_append_left hj, ← List.getD_eq_getElem?_getD]
  have gr : (r ++ [x]).getD r.length 0 = x := by simp
  refine ⟨fun y hy => ?_, fun j hj => ?_, fun j hj w hw h => ?_⟩
  · rcases List.mem_append.mp hy with h | h
    · exact E.wi y h
    · simp only [List.mem_singleton] at h
      rw [h]; exact hx
  · rw [List.length_append, List.length_singleton] at hj
    rw [cn_app (by omega)]
    by_cases e : j = r.length
    · subst e; rw [gr]; exact el
    · rw [gl j (by omega)]; exact E.el j (by omega)
  · rw [List.length_append, List.length_singleton] at hj
    rw [cn_app (by omega)] at h ⊢
    rw [cn_app (by omega)]
    by_cases e : j = r.length
    · subst e; rw [gr]; exact ed w hw h
    · rw [gl j (by omega)]; exact E.ed j (by omega) w hw h
theorem mx0_le {a b : Int} (h : a ≤ b) : mx0 a ≤ mx0 b := by
  unfold mx0
  split <;> split <;> omega
theorem le_mx0 (a : Int) : a ≤ mx0 a := by
  unfold mx0
  split <;> omega
theorem mx0_nn (a : Int) : 0 ≤ mx0 a := by
  unfold mx0
  split <;> omega
theorem cn_mono {st : List Int} {r : List Nat} {j w : Nat} : ∀ {k : Nat}, j ≤ k → k ≤ r.length → cn st r j w ≤ cn st r k w
  | 0, h, _ => by rw [show j = 0 by omega]; exact Int.le_refl _
  | k + 1, h, hk => by
    by_cases e : j = k + 1
    · rw [e]; exact Int.le_refl _
    · have := cn_mono (st := st) (r := r) (j := j) (w := w) (k := k) (by omega) (by omega)
      rw [cn_succ (by omega)]
      split <;> omega
theorem cn_sum {m : Nat} {st : List Int} {r : List Nat} (wi : ∀ x ∈ r, x < m) {j : Nat} (hj : j ≤ r.length) : sumR m (fun w => cn st r j w) = sumR m (fun w => st.getD w 0) + j := by
  unfold cn
  rw [sumR_add, sumR_count fun x hx => wi x (List.mem_of_mem_take hx), List.length_take, Nat.min_eq_left hj]
/-- what had to come by a place is more than the turns between -/
theorem edf_over {T : List (List Fr)} {m : Nat} {st : List Int} {r : List Nat} {w0 B : Nat} (M : Mono m T) (E : Edf T m st r) (ht : r.length < T.length) (hw : w0 < m) (few : cn st r r.length w0 < PL.lo T r.length w0) (hB : B ≤ r.length)
    (b1 : ∀ j, B ≤ j → j < r.length → cn st r (j + 1) (r.getD j 0) ≤ PL.lo T r.length (r.getD j 0)) (b2 : 0 < B → PL.lo T r.length (r.getD (B - 1) 0) < cn st r B (r.getD (B - 1) 0)) :
    (r.length : Int) - B < sumR m (fun w => mx0 (PL.lo T r.length w - cn st r B w)) ∧ (0 < B → ∀ w, w < m → mx0 (PL.lo T r.length w - cn st r B w) ≤ mx0 (PL.lo T r.length w - PL.hi T B w)) := by
  have key : ∀ w, ∀ k, B ≤ k → k ≤ r.length → cn st r k w = cn st r B w ∨ cn st r k w ≤ PL.lo T r.length w := by
    intro w k
    induction k with
    | zero => intro h _; rw [show B = 0 by omega]; exact .inl rfl
    | succ k ih =>
      intro h hk
      by_cases e : B = k + 1
      · rw [e]; exact .inl rfl
      · rcases ih (by omega) (by omega) with q | q
        all_goals
          by_cases z : r.getD k 0 = w
          · have := b1 k (by omega) (by omega)
            rw [z] at this
            exact .inr this
          · rw [cn_succ (by omega), if_neg z, Int.add_zero]
            first | exact .inl q | exact .inr q
  constructor
  · have s1 := cn_sum (st := st) E.wi (Nat.le_refl r.length)
    have s2 := cn_sum (st := st) E.wi hB
    have s3 : sumR m (fun w => cn st r r.length w) < sumR m (fun w => mx0 (PL.lo T r.length w - cn st r B w) + cn st r B w) := by
      refine sumR_lt (w0 := w0) (fun w hw => ?_) hw ?_
      · rcases key w r.length hB (Nat.le_refl _) with q | q
        · have := mx0_nn (PL.lo T r.length w - cn st r B w); omega
        · have := le_mx0 (PL.lo T r.length w - cn st r B w); omega
      · have := le_mx0 (PL.lo T r.length w0 - cn st r B w0); omega
    rw [sumR_add (fun w => mx0 (PL.lo T r.length w - cn st r B w)) (fun w => cn st r B w)] at s3
    omega
  · intro B0 w hw
    by_cases h : PL.lo T r.length w ≤ cn st r B w
    · have h1 : mx0 (PL.lo T r.length w - cn st r B w) = 0 := by unfold mx0; rw [if_neg (by omega)]
      rw [h1]
      exact mx0_nn _
    · refine mx0_le ?_
      obtain ⟨j, rfl⟩ : ∃ j, B = j + 1 := ⟨B - 1, by omega⟩
      have q := b2 B0
      rw [Nat.add_sub_cancel, cn_succ (by omega), if_pos rfl] at q
      have wj : r.getD j 0 < m := by
        rw [List.getD_eq_getElem?_getD, List.getElem?_eq_getElem (by omega)]
        exact E.wi _ (List.getElem_mem _)
      have far : r.length < mustBy T (j + 1) (r.getD j 0) (cn st r j (r.getD j 0)) := mustBy_gt ht fun p _ hp => by
        have := M.lo (r.getD j 0) p r.length wj hp ht
        omega
      have cm : cn st r j w ≤ cn st r (j + 1) w := cn_mono (by omega) (by omega)
      by_cases el : cn st r j w + 1 ≤ PL.hi T (j + 1) w
      · have e1 := E.ed j (by omega) w hw el
        have e2 := mustBy_le (T := T) (t := j + 1) (w := w) (q := r.length) (c := cn st r j w) ht (by omega) (by omega)
        omega
      · omega
/-- where nobody can be chosen, too few are let in -/
theorem edf_under {T : List (List Fr)} {m : Nat} {st : List Int} {r : List Nat} (E : Edf T m st r) (h0 : ∀ w, w < m → PL.lo T 0 w = st.getD w 0) (no : ∀ w, w < m → ¬ cn st r r.length w + 1 ≤ PL.hi T (r.length + 1) w) :
    sumR m (fun w => mx0 (PL.hi T (r.length + 1) w - PL.lo T 0 w)) < (r.length : Int) + 1 := by
  have s1 := cn_sum (st := st) E.wi (Nat.le_refl r.length)
  have s2 : sumR m (fun w => mx0 (PL.hi T (r.length + 1) w - PL.lo T 0 w) + st.getD w 0) ≤ sumR m (fun w => cn st r r.length w) := sumR_le fun w hw => by
    have a := no w hw
    have b := h0 w hw
    have c : cn st r 0 w ≤ cn st r r.length w := cn_mono (by omega) (Nat.le_refl _)
    rw [cn_zero] at c
    unfold mx0
    split <;> omega
  rw [sumR_add (fun w => mx0 (PL.hi T (r.length + 1) w - PL.lo T 0 w)) (fun w => st.getD w 0)] at s2
  omega
end PL
set_option exponentiation.threshold 10000
namespace PL
open PySem L2
section
variable {Γ : Fe} {m : Nat} {T : List (List Fr)}
def RW (m : Nat) (T : List (List Fr)) : Prop := ∀ t, t < T.length → (T.getD t []).length = m
def tooFar (T : List (List Fr)) (m t : Nat) (cs : List Int) : Bool := (List.range m).any fun w => decide (hi T t w < cs.getD w 0)
def tooFew (T : List (List Fr)) (m t : Nat) (cs : List Int) : Bool := (List.range m).any fun w => decide (cs.getD w 0 < lo T t w)
def soonS (T : List (List Fr)) (t : Nat) (cs : List Int) : Nat → Option (Nat × Nat)
  | 0 => none
  | w + 1 => if cs.getD w 0 + 1 ≤ hi T t w then (match soonS T t cs w with
      | none => some (mustBy T t w (cs.getD w 0), w)
      | some f => if mustBy T t w (cs.getD w 0) < f.1 then some (mustBy T t w (cs.getD w 0), w) else some f)
    else soonS T t cs w
theorem soon_none {t : Nat} {cs : List Int} : ∀ {n : Nat}, soonS T t cs n = none → ∀ w, w < n → ¬ cs.getD w 0 + 1 ≤ hi T t w
  | 0, _, w, h => absurd h (by omega)
  | n + 1, e, w, h => by
    unfold soonS at e
    split at e
    · split at e
      · cases e
      · split at e <;> cases e
    · rename_i z
      by_cases q : w = n
      · rw [q]; exact z
      · exact soon_none e w (by omega)
theorem soon_some {t : Nat} {cs : List Int} {f : Nat × Nat} : ∀ {n : Nat}, soonS T t cs n = some f → f.2 < n ∧ cs.getD f.2 0 + 1 ≤ hi T t f.2 ∧ f.1 = mustBy T t f.2 (cs.getD f.2 0) ∧ ∀ w, w < n → cs.getD w 0 + 1 ≤ hi T t w → f.1 ≤ mustBy T t w (cs.getD w 0)
  | 0, e => by cases e
  | n + 1, e => by
    unfold soonS at e
    split at e
    · rename_i z
      split at e
      · rename_i e0
        cases e
        refine ⟨Nat.lt_succ_self _, z, rfl, fun w hw hz => ?_⟩
        by_cases q : w = n
        · rw [q]; exact Nat.le_refl _
        · exact absurd hz (soon_none e0 w (by omega))
      · rename_i g e0
        obtain ⟨i1, i2, i3, i4⟩ := soon_some (f := g) e0
        split at e
        · rename_i l
          cases e
          refine ⟨Nat.lt_succ_self _, z, rfl, fun w hw hz => ?_⟩
          by_cases q : w = n
          · rw [q]; exact Nat.le_refl _
          · exact Nat.le_trans (Nat.le_of_lt l) (i4 w (by omega) hz)
        · rename_i l
          cases e
          refine ⟨by omega, i2, i3, fun w hw hz => ?_⟩
          by_cases q : w = n
          · rw [q]; omega
          · exact i4 w (by omega) hz
    · rename_i z
      obtain ⟨i1, i2, i3, i4⟩ := soon_some e
      refine ⟨by omega, i2, i3, fun w hw hz => ?_⟩
      by_cases q : w = n
      · rw [q] at hz; exact absurd hz z
      · exact i4 w (by omega) hz
end
end PL
set_option exponentiation.threshold 10000
namespace PL
open PySem L2
section
variable {Γ : Fe} {m : Nat} {T : List (List Fr)} {st : List Int}
def overF (C : Nat → Bool) : Nat → Nat
  | 0 => 0
  | n + 1 => if C n then overF C n else n + 1
theorem overF_le (C : Nat → Bool) : ∀ n, overF C n ≤ n
  | 0 => Nat.le_refl _
  | n + 1 => by
    unfold overF
    split
    · have := overF_le C n; omega
    · exact Nat.le_refl _
theorem overF_all (C : Nat → Bool) : ∀ n j, overF C n ≤ j → j < n → C j = true
  | 0, j, _, h => absurd h (by omega)
  | n + 1, j, h1, h2 => by
    unfold overF at h1
    split at h1
    · rename_i z
      by_cases e : j = n
      · rw [e]; exact z
      · exact overF_all C n j h1 (by omega)
    · omega
theorem overF_stop (C : Nat → Bool) : ∀ n, 0 < overF C n → C (overF C n - 1) = false
  | 0, h => absurd h (by simp [overF])
  | n + 1, h => by
    unfold overF at h ⊢
    split
    · rename_i z
      rw [if_pos z] at h
      exact overF_stop C n h
    · rename_i z
      simpa using z
def okC (T : List (List Fr)) (st : List Int) (r : List Nat) (t j : Nat) : Bool := decide (cn st r (j + 1) (r.getD j 0) ≤ lo T t (r.getD j 0))
def csL (m : Nat) (st : List Int) (r : List Nat) : List Int := (List.range m).map fun w => cn st r r.length w
theorem csL_get {r : List Nat} {w : Nat} (h : w < m) : (csL m st r).getD w 0 = cn st r r.length w := by
  unfold csL
  rw [List.getD_eq_getElem?_getD, List.getElem?_map, List.getElem?_range h]
  rfl
def dRun (T : List (List Fr)) (m : Nat) (st : List Int) : Nat → Except (Bool × Nat × Nat) (List Nat)
  | 0 => .ok []
  | k + 1 => match dRun T m st k with
    | .error e => .error e
    | .ok r => if tooFar T m (k + 1) (csL m st r) then .error (true, k + 1, k + 1) else match soonS T (k + 1) (csL m st r) m with
      | none => .error (false, 0, k + 1)
      | some f => if tooFew T m (k + 1) (csL m st (r ++ [f.2])) then .error (true, overF (okC T st (r ++ [f.2]) (k + 1)) (k + 1), k + 1) else .ok (r ++ [f.2])
def dealtF (T : List (List Fr)) (m : Nat) (st : List Int) : Except (Bool × Nat × Nat) (List Nat) := if tooFew T m 0 st || tooFar T m 0 st then .error (true, 0, 0) else dRun T m st (T.length - 1)
structure DSt (T : List (List Fr)) (m : Nat) (st : List Int) (k : Nat) (r : List Nat) : Prop where
  len : r.length = k
  edf : Edf T m st r
  rng : ∀ j, j ≤ k → ∀ w, w < m → lo T j w ≤ cn st r j w ∧ cn st r j w ≤ hi T j w
def DOk (T : List (List Fr)) (m : Nat) (st : List Int) (k : Nat) : Except (Bool × Nat × Nat) (List Nat) → Prop
  | .ok r => DSt T m st k r
  | .error e => e.2.1 ≤ e.2.2 ∧ e.2.2 ≤ k ∧ rightR e.1 (T.getD e.2.1 []) (T.getD e.2.2 []) ((e.2.2 : Int) - e.2.1) = true
theorem want_over (h : RW m T) {x y : Nat} (hx : x < T.length) : wantR true (T.getD x []) (T.getD y []) = sumR m fun w => mx0 (lo T y w - hi T x w) := by
  unfold wantR sumR
  rw [h x hx]
  rfl
theorem want_under (h : RW m T) {x y : Nat} (hx : x < T.length) : wantR false (T.getD x []) (T.getD y []) = sumR m fun w => mx0 (hi T y w - lo T x w) := by
  unfold wantR sumR
  rw [h x hx]
  rfl
theorem dRun_spec (M : Mono m T) (h : RW m T) (h0 : ∀ w, w < m → lo T 0 w = st.getD w 0) (h1 : ∀ w, w < m → st.getD w 0 ≤ hi T 0 w)
    (h01 : 1 < T.length → ∀ w, w < m → hi T 0 w ≤ hi T 1 w ∨ st.getD w 0 ≤ lo T 1 w)
    (hz : (∀ w, w < m → hi T 0 w ≤ st.getD w 0) ∨ ∀ t, t < T.length → sumR m (fun w => mx0 (lo T t w - st.getD w 0)) ≤ t) : ∀ k, k < T.length → DOk T m st k (dRun T m st k)
  | 0, _ => ⟨rfl, Edf.nil T m st, fun j hj w hw => by
      rw [show j = 0 by omega, cn_zero]
      exact ⟨by rw [h0 w hw]; exact Int.le_refl _, h1 w hw⟩⟩
  | k + 1, hk => by
    have ih := dRun_spec M h h0 h1 h01 hz k (by omega)
    rw [dRun]
    cases e : dRun T m st k with
    | error p =>
      rw [e] at ih
      dsimp only
      exact ⟨ih.1, Nat.le_succ_of_le ih.2.1, ih.2.2⟩
    | ok r =>
      rw [e] at ih
      obtain ⟨rl, E, rg⟩ := ih
      subst rl
      dsimp only
      cases nf : tooFar T m (r.length + 1) (csL m st r) with
      | true =>
      rw [if_pos rfl]
      obtain ⟨w0, hw0, q⟩ := List.any_eq_true.mp nf
      have hw0 := List.mem_range.mp hw0
      rw [csL_get hw0, decide_eq_true_eq] at q
      have a := (rg r.length (Nat.le_refl _) w0 hw0).2
      refine ⟨Nat.le_refl _, Nat.le_refl _, ?_⟩
      by_cases r0 : 1 ≤ r.length
      · have c := M.hi w0 r.length (r.length + 1) hw0 r0 (by omega) hk
        omega
      · have r00 : r.length = 0 := by omega
        rw [r00] at q a hk
        rw [Nat.zero_add] at q hk
        rcases h01 hk w0 hw0 with c | c
        · omega
        · rw [cn_zero] at q
          unfold rightR
          dsimp only
          rw [if_pos rfl, r00, Nat.zero_add, want_over h (by omega), decide_eq_true_eq]
          have : sumR m (fun _ => 0) < sumR m fun w => mx0 (lo T 1 w - hi T 1 w) := sumR_lt (w0 := w0) (fun w _ => mx0_nn _) hw0 (Int.lt_of_lt_of_le (by omega) (le_mx0 _))
          rw [sumR_zero] at this
          omega
      | false =>
      rw [if_neg Bool.false_ne_true]
      cases es : soonS T (r.length + 1) (csL m st r) m with
      | none =>
        have no := soon_none es
        refine ⟨Nat.zero_le _, Nat.le_refl _, ?_⟩
        have u := edf_under (T := T) E h0 fun w hw => by
          have := no w hw
          rwa [csL_get hw] at this
        unfold rightR
        dsimp only
        rw [if_neg Bool.false_ne_true, want_under h (by omega), decide_eq_true_eq]
        show _ < ((r.length + 1 : Nat) : Int) - ((0 : Nat) : Int)
        omega
      | some f =>
        obtain ⟨s1, s2, s3, s4⟩ := soon_some es
        rw [csL_get s1] at s2 s3
        dsimp only
        have E2 := E.app s1 s2 fun w hw hq => by
          have := s4 w hw (by rw [csL_get hw]; exact hq)
          rw [csL_get hw, s3] at this
          exact this
        have ll : (r ++ [f.2]).length = r.length + 1 := by simp
        cases ef : tooFew T m (r.length + 1) (csL m st (r ++ [f.2])) with
        | false =>
          rw [if_neg Bool.false_ne_true]
          refine ⟨ll, E2, fun j hj w hw => ?_⟩
          by_cases z : j = r.length + 1
          · subst z
            have q := List.any_eq_false.mp ef w (List.mem_range.mpr hw)
            rw [csL_get hw, ll, decide_eq_true_eq] at q
            refine ⟨by omega, ?_⟩
            rw [cn_last]
            have a := List.any_eq_false.mp nf w (List.mem_range.mpr hw)
            rw [csL_get hw, decide_eq_true_eq] at a
            by_cases y : f.2 = w
            · rw [if_pos y]; rw [y] at s2; exact s2
            · rw [if_neg y]; omega
          · rw [cn_app (by omega)]
            exact rg j (by omega) w hw
        | true =>
          rw [if_pos rfl]
          obtain ⟨w0, hw0, q⟩ := List.any_eq_true.mp ef
          have hw0 := List.mem_range.mp hw0
          rw [csL_get hw0, decide_eq_true_eq, ll] at q
          have le := overF_le (okC T st (r ++ [f.2]) (r.length + 1)) (r.length + 1)
          have all := overF_all (okC T st (r ++ [f.2]) (r.length + 1)) (r.length + 1)
          have stp := overF_stop (okC T st (r ++ [f.2]) (r.length + 1)) (r.length + 1)
          generalize overF (okC T st (r ++ [f.2]) (r.length + 1)) (r.length + 1) = B at *
          obtain ⟨o1, o2⟩ := edf_over (w0 := w0) (B := B) M E2 (by rw [ll]; exact hk) hw0 (by rw [ll]; exact q) (by rw [ll]; exact le) (fun j hj1 hj2 => by
            rw [ll] at hj2 ⊢
            have := all j hj1 hj2
            unfold okC at this
            exact of_decide_eq_true this) (fun B0 => by
            rw [ll]
            have := stp B0
            unfold okC at this
            have := of_decide_eq_false this
            rw [show B - 1 + 1 = B by omega] at this
            omega)
          rw [ll] at o1 o2
          refine ⟨le, Nat.le_refl _, ?_⟩
          unfold rightR
          dsimp only
          rw [if_pos rfl, want_over h (by omega), decide_eq_true_eq]
          show ((r.length + 1 : Nat) : Int) - (B : Int) < _
          by_cases B0 : 0 < B
          · exact Int.lt_of_lt_of_le o1 (sumR_le fun w hw => o2 B0 w hw)
          · have : B = 0 := by omega
            subst this
            rcases hz with hz | hz
            · refine Int.lt_of_lt_of_le o1 (sumR_le fun w hw => mx0_le ?_)
              have := hz w hw
              rw [cn_zero]
              omega
            · have := hz (r.length + 1) hk
              have e : sumR m (fun w => mx0 (lo T (r.length + 1) w - cn st (r ++ [f.2]) 0 w)) = sumR m (fun w => mx0 (lo T (r.length + 1) w - st.getD w 0)) := sumR_congr fun w hw => by rw [cn_zero]
              rw [e] at o1
              omega
end
end PL
set_option exponentiation.threshold 10000
namespace PL
open PySem L2
section
variable {Γ : Fe} {m : Nat} {T : List (List Fr)} {st : List Int}
end
end PL
set_option exponentiation.threshold 10000
namespace PL
open PySem L2
theorem sumR_mul (f : Nat → Int) (c : Int) : ∀ m : Nat, sumR m (fun w => f w * c) = sumR m f * c
  | 0 => by simp [sumR]
  | m + 1 => by rw [sumR_succ, sumR_succ, sumR_mul f c m, Int.add_mul]
structure Scl (m : Nat) (T : List (List Fr)) (W : Int) (N : Nat → Nat → Int) : Prop where
  pos : 0 < W
  eq : ∀ t w, t < T.length → w < m → (dueF T t w).1 * W = N t w * (dueF T t w).2
  sum : ∀ t, t < T.length → sumR m (N t) = t * W
  mono : ∀ t w, t + 1 < T.length → w < m → N t w ≤ N (t + 1) w
end PL
set_option exponentiation.threshold 10000
namespace PL
open PySem L2
section
variable {b : Bd} {m M : Nat} {s : Sps}
/-- a lesser lag is let by too -/
theorem lets_mono {t d t' d' : Int} (B : BdOk b) (hd : 0 < d) (hd' : 0 < d') (h : t * d' ≤ t' * d) (l : letsF b t' d' = true) : letsF b t d = true := by
  obtain ⟨⟨p, q⟩, o⟩ := b
  have qp : 0 < q := B.fb.pos
  unfold letsF at l ⊢
  dsimp only at l ⊢
  have h1 : t * q * d' ≤ t' * q * d := by
    have := Int.mul_le_mul_of_nonneg_right h (Int.le_of_lt qp)
    calc t * q * d' = t * d' * q := by ac_rfl
      _ ≤ t' * d * q := this
      _ = t' * q * d := by ac_rfl
  cases o
  · rw [if_neg Bool.false_ne_true, decide_eq_true_eq] at l ⊢
    have h2 := Int.mul_le_mul_of_nonneg_right l (Int.le_of_lt hd)
    have h3 : t * q * d' ≤ p * d * d' := by
      calc t * q * d' ≤ t' * q * d := h1
        _ ≤ p * d' * d := h2
        _ = p * d * d' := by ac_rfl
    exact Int.le_of_mul_le_mul_right h3 hd'
  · rw [if_pos rfl, decide_eq_true_eq] at l ⊢
    have h2 := Int.mul_lt_mul_of_pos_right l hd
    have h3 : t * q * d' < p * d * d' := by
      calc t * q * d' ≤ t' * q * d := h1
        _ < p * d' * d := h2
        _ = p * d * d' := by ac_rfl
    exact Int.lt_of_mul_lt_mul_right h3 (Int.le_of_lt hd')
theorem low_mono {d d' : Fr} (B : BdOk b) (F : FB (10 ^ 40) d) (F' : FB (10 ^ 40) d') (h : d.1 * d'.2 ≤ d'.1 * d.2) : lowB b d ≤ lowB b d' := by
  have k0 := low_nn b d'
  have l : letsF b (d'.1 - lowB b d' * d'.2) d'.2 = true := by
    rw [lets_low B F' k0]
    exact decide_eq_true (Int.le_refl _)
  have l2 := lets_mono B F.pos F'.pos (t := d.1 - lowB b d' * d.2) (by
    rw [Int.sub_mul, Int.sub_mul]
    have : lowB b d' * d.2 * d'.2 = lowB b d' * d'.2 * d.2 := by ac_rfl
    omega) l
  rw [lets_low B F k0] at l2
  exact of_decide_eq_true l2
theorem high_mono {d d' : Fr} (B : BdOk b) (F : FB (10 ^ 40) d) (F' : FB (10 ^ 40) d') (n : 0 ≤ d.1) (n' : 0 ≤ d'.1) (h : d.1 * d'.2 ≤ d'.1 * d.2) : highB b d ≤ highB b d' := by
  by_cases z : 1 ≤ highB b d
  · have l : letsF b (highB b d * d.2 - d.1) d.2 = true := by
      rw [lets_high B F n z]
      exact decide_eq_true (Int.le_refl _)
    have l2 := lets_mono B F'.pos F.pos (t := highB b d * d'.2 - d'.1) (by
      rw [Int.sub_mul, Int.sub_mul]
      have : highB b d * d.2 * d'.2 = highB b d * d'.2 * d.2 := by ac_rfl
      omega) l
    rw [lets_high B F' n' z] at l2
    exact of_decide_eq_true l2
  · have := high_nn B F' n'
    omega
theorem keeps_rng {d : Fr} (B : BdOk b) (F : FB (10 ^ 40) d) (n : 0 ≤ d.1) {c : Int} (hc : 0 ≤ c) : keepsP b (lagP d c) = (decide (lowB b d ≤ c) && decide (c ≤ highB b d)) := by
  have l1 := lets_low B F hc
  have fp := F.pos
  unfold keepsP lagP
  dsimp only
  have two : letsF b (absI (d.1 - c * d.2)) d.2 = (letsF b (d.1 - c * d.2) d.2 && letsF b (c * d.2 - d.1) d.2) := by
    unfold absI
    by_cases z : d.1 - c * d.2 < 0
    · rw [if_pos z, show -(d.1 - c * d.2) = c * d.2 - d.1 by omega]
      cases e : letsF b (c * d.2 - d.1) d.2 with
      | false => rw [Bool.and_false]
      | true =>
        have := lets_mono B fp fp (t := d.1 - c * d.2) (Int.mul_le_mul_of_nonneg_right (by omega) (Int.le_of_lt fp)) e
        rw [this]; rfl
    · rw [if_neg z]
      cases e : letsF b (d.1 - c * d.2) d.2 with
      | false => rfl
      | true =>
        have := lets_mono B fp fp (t := c * d.2 - d.1) (Int.mul_le_mul_of_nonneg_right (by omega) (Int.le_of_lt fp)) e
        rw [this]; rfl
  rw [two, l1]
  by_cases c1 : 1 ≤ c
  · rw [lets_high B F n c1]
  · have c0 : c = 0 := by omega
    subst c0
    have hn := high_nn B F n
    rw [decide_eq_true hn]
    by_cases z : lowB b d ≤ 0
    · rw [decide_eq_true z] at l1 ⊢
      have := lets_mono B fp fp (t := 0 * d.2 - d.1) (Int.mul_le_mul_of_nonneg_right (by omega) (Int.le_of_lt fp)) l1
      rw [this]
    · rw [decide_eq_false z]
      rfl
theorem lo_rng {T : List (List Fr)} {t w : Nat} (h : t < T.length) (hw : w < (T.getD t []).length) : lo (rngT b T) t w = lowB b (dueF T t w) ∧ hi (rngT b T) t w = highB b (dueF T t w) := by
  unfold lo hi dueF
  rw [rngT_at]
  generalize T.getD t [] = r at *
  have e : (r.map (rngB b)).getD w (0, 1) = rngB b (r.getD w (0, 1)) := by
    rw [List.getD_eq_getElem?_getD, List.getD_eq_getElem?_getD, List.getElem?_map, List.getElem?_eq_getElem hw]
    rfl
  rw [e]
  exact ⟨rfl, rfl⟩
/-- of a plan's dues -/
structure DuT (m : Nat) (T : List (List Fr)) (W : Int) (N : Nat → Nat → Int) : Prop where
  scl : Scl m T W N
  row : ∀ t, t < T.length → (T.getD t []).length = m
  fb : ∀ t w, t < T.length → w < m → FB (10 ^ 40) (dueF T t w)
  nn : ∀ t w, t < T.length → w < m → 0 ≤ (dueF T t w).1
  zero : ∀ w, w < m → dueF T 0 w = (0, 1)
  m1 : 1 ≤ m
  ne : 0 < T.length
variable {T : List (List Fr)} {W : Int} {N : Nat → Nat → Int}
theorem DuT.cross (h : DuT m T W N) {t t' w : Nat} (hw : w < m) (tt : t ≤ t') (ht : t' < T.length) : (dueF T t w).1 * (dueF T t' w).2 ≤ (dueF T t' w).1 * (dueF T t w).2 := by
  have nm : ∀ k, t + k < T.length → N t w ≤ N (t + k) w := fun k => by
    induction k with
    | zero => intro _; exact Int.le_refl _
    | succ k ih =>
      intro hk
      exact Int.le_trans (ih (by omega)) (h.scl.mono (t + k) w (by omega) hw)
  have n := nm (t' - t) (by omega)
  rw [show t + (t' - t) = t' by omega] at n
  have e1 := h.scl.eq t w (by omega) hw
  have e2 := h.scl.eq t' w ht hw
  have p1 := (h.fb t w (by omega) hw).pos
  have p2 := (h.fb t' w ht hw).pos
  have Wp := h.scl.pos
  generalize dueF T t w = d at *
  generalize dueF T t' w = d' at *
  have g : d.1 * d'.2 * W ≤ d'.1 * d.2 * W := by
    calc d.1 * d'.2 * W = d.1 * W * d'.2 := by ac_rfl
      _ = N t w * (d.2 * d'.2) := by rw [e1]; ac_rfl
      _ ≤ N t' w * (d.2 * d'.2) := Int.mul_le_mul_of_nonneg_right n (Int.le_of_lt (Int.mul_pos p1 p2))
      _ = N t' w * d'.2 * d.2 := by ac_rfl
      _ = d'.1 * d.2 * W := by rw [← e2]; ac_rfl
  exact Int.le_of_mul_le_mul_right g Wp
theorem DuT.mono (h : DuT m T W N) (B : BdOk b) : Mono m (rngT b T) := by
  have l := rngT_len b T
  constructor
  · intro w p q hw pq hq
    rw [l] at hq
    rw [(lo_rng (b := b) (T := T) (t := p) (w := w) (by omega) (by rw [h.row p (by omega)]; exact hw)).1, (lo_rng (b := b) (T := T) (t := q) (w := w) hq (by rw [h.row q hq]; exact hw)).1]
    exact low_mono B (h.fb p w (by omega) hw) (h.fb q w hq hw) (h.cross hw pq hq)
  · intro w p q hw _ pq hq
    rw [l] at hq
    rw [(lo_rng (b := b) (T := T) (t := p) (w := w) (by omega) (by rw [h.row p (by omega)]; exact hw)).2, (lo_rng (b := b) (T := T) (t := q) (w := w) hq (by rw [h.row q hq]; exact hw)).2]
    exact high_mono B (h.fb p w (by omega) hw) (h.fb q w hq hw) (h.nn p w (by omega) hw) (h.nn q w hq hw) (h.cross hw pq hq)
theorem DuT.h01 (h : DuT m T W N) (B : BdOk b) (st : List Int) (t1 : 1 < (rngT b T).length) : ∀ w, w < m → hi (rngT b T) 0 w ≤ hi (rngT b T) 1 w ∨ st.getD w 0 ≤ lo (rngT b T) 1 w := fun w hw => by
  rw [rngT_len] at t1
  refine .inl ?_
  rw [(lo_rng (b := b) (T := T) (t := 0) (w := w) (by omega) (by rw [h.row 0 (by omega)]; exact hw)).2, (lo_rng (b := b) (T := T) (t := 1) (w := w) t1 (by rw [h.row 1 t1]; exact hw)).2]
  exact high_mono B (h.fb 0 w (by omega) hw) (h.fb 1 w t1 hw) (h.nn 0 w (by omega) hw) (h.nn 1 w t1 hw) (h.cross hw (by omega) t1)
theorem DuT.rw (h : DuT m T W N) (b : Bd) : RW m (rngT b T) := fun t ht => by
  rw [rngT_len] at ht
  rw [rngT_at, List.length_map]
  exact h.row t ht
theorem DuT.nn' (h : DuT m T W N) {t w : Nat} (ht : t < T.length) (hw : w < m) : 0 ≤ N t w := by
  have e := h.scl.eq t w ht hw
  have n := h.nn t w ht hw
  have p := (h.fb t w ht hw).pos
  refine Int.not_lt.mp fun z => ?_
  have a := Int.mul_nonneg n (Int.le_of_lt h.scl.pos)
  have c := Int.mul_lt_mul_of_pos_right z p
  rw [Int.zero_mul] at c
  omega
/-- what a count below its due is, over the measure -/
theorem DuT.le (h : DuT m T W N) {t w : Nat} {k : Int} (ht : t < T.length) (hw : w < m) (l : k * (dueF T t w).2 ≤ (dueF T t w).1) : k * W ≤ N t w := by
  have e := h.scl.eq t w ht hw
  have p := (h.fb t w ht hw).pos
  have Wp := h.scl.pos
  generalize dueF T t w = d at *
  have g : k * W * d.2 ≤ N t w * d.2 := by
    rw [← e]
    calc k * W * d.2 = k * d.2 * W := by ac_rfl
      _ ≤ d.1 * W := Int.mul_le_mul_of_nonneg_right l (Int.le_of_lt Wp)
  exact Int.le_of_mul_le_mul_right g p
theorem DuT.ge (h : DuT m T W N) {t w : Nat} {k : Int} (ht : t < T.length) (hw : w < m) (l : (dueF T t w).1 ≤ k * (dueF T t w).2) : N t w ≤ k * W := by
  have e := h.scl.eq t w ht hw
  have p := (h.fb t w ht hw).pos
  have Wp := h.scl.pos
  generalize dueF T t w = d at *
  have g : N t w * d.2 ≤ k * W * d.2 := by
    rw [← e]
    calc d.1 * W ≤ k * d.2 * W := Int.mul_le_mul_of_nonneg_right l (Int.le_of_lt Wp)
      _ = k * W * d.2 := by ac_rfl
  exact Int.le_of_mul_le_mul_right g p
/-- a bound that lets a lag of one by -/
theorem DuT.wide (h : DuT m T W N) (B : BdOk b) (w1 : letsF b 1 1 = true) : ∀ t, t < T.length → sumR m (fun w => mx0 (lo (rngT b T) t w - 0)) ≤ t := fun t ht => by
  have Wp := h.scl.pos
  have key : sumR m (fun w => mx0 (lo (rngT b T) t w - 0) * W) ≤ sumR m (N t) := sumR_le fun w hw => by
    rw [(lo_rng (b := b) (T := T) (t := t) (w := w) ht (by rw [h.row t ht]; exact hw)).1, Int.sub_zero]
    have F := h.fb t w ht hw
    have fp := F.pos
    have k0 := low_nn b (dueF T t w)
    unfold mx0
    by_cases z : lowB b (dueF T t w) > 0
    · rw [if_pos z]
      refine h.le ht hw (Int.not_lt.mp fun c => ?_)
      have l := lets_low B F (k := lowB b (dueF T t w) - 1) (by omega)
      have y : letsF b ((dueF T t w).1 - (lowB b (dueF T t w) - 1) * (dueF T t w).2) (dueF T t w).2 = true := lets_mono B fp (by decide : (0 : Int) < 1) (by
        rw [Int.sub_mul (lowB b (dueF T t w))]
        omega) w1
      rw [y] at l
      have := of_decide_eq_true l.symm
      omega
    · rw [if_neg z, Int.zero_mul]
      exact h.nn' ht hw
  rw [sumR_mul, h.scl.sum t ht] at key
  exact Int.le_of_mul_le_mul_right key Wp
theorem DuT.zeros (h : DuT m T W N) (B : BdOk b) (n1 : letsF b 1 1 = false) : ∀ w, w < m → hi (rngT b T) 0 w ≤ 0 := fun w hw => by
  have r := (lo_rng (b := b) (T := T) (t := 0) (w := w) h.ne (by rw [h.row 0 h.ne]; exact hw)).2
  rw [r, h.zero w hw]
  refine Int.not_lt.mp fun z => ?_
  have F : FB (10 ^ 40) (0, 1) := ⟨by decide, by decide, by decide, by decide⟩
  have l := lets_high B F (by decide) (k := 1) (by decide)
  rw [decide_eq_true (by omega)] at l
  have : letsF b (1 * 1 - 0) 1 = true := l
  rw [show (1 * 1 - 0 : Int) = 1 by decide, n1] at this
  cases this
end
end PL
set_option exponentiation.threshold 10000
namespace PL
open PySem L2
section
variable {Γ : Fe} {b : Bd} {m M : Nat} {s : Sps} {T : List (List Fr)} {W : Int} {N : Nat → Nat → Int}
abbrev KRes := Except (Bool × Nat × Nat) (List Nat)
def keptF (b : Bd) (m : Nat) (T : List (List Fr)) : KRes := dealtF (rngT b T) m (List.replicate m 0)
theorem z_get {m w : Nat} : (List.replicate m (0 : Int)).getD w 0 = 0 := by
  rw [List.getD_eq_getElem?_getD, List.getElem?_replicate]
  split <;> rfl
theorem kept_spec (h : DuT m T W N) (B : BdOk b) : DOk (rngT b T) m (List.replicate m 0) (T.length - 1) (keptF b m T) := by
  have l := rngT_len b T
  have M := h.mono B
  have R := h.rw b
  have F0 : FB (10 ^ 40) (0, 1) := ⟨by decide, by decide, by decide, by decide⟩
  have lo0 : ∀ w, w < m → lo (rngT b T) 0 w = lowB b (0, 1) := fun w hw => by
    rw [(lo_rng (b := b) (T := T) (t := 0) (w := w) h.ne (by rw [h.row 0 h.ne]; exact hw)).1, h.zero w hw]
  have hi0 : ∀ w, w < m → hi (rngT b T) 0 w = highB b (0, 1) := fun w hw => by
    rw [(lo_rng (b := b) (T := T) (t := 0) (w := w) h.ne (by rw [h.row 0 h.ne]; exact hw)).2, h.zero w hw]
  have hn := high_nn B F0 (by decide)
  have ln := low_nn b (0, 1)
  have nf : tooFar (rngT b T) m 0 (List.replicate m 0) = false := List.any_eq_false.mpr fun w hw => by
    rw [hi0 w (List.mem_range.mp hw), z_get, decide_eq_true_eq]
    omega
  unfold keptF dealtF
  rw [nf, Bool.or_false]
  cases fw : tooFew (rngT b T) m 0 (List.replicate m 0) with
  | true =>
    rw [if_pos rfl]
    obtain ⟨w0, hw, q⟩ := List.any_eq_true.mp fw
    have hw := List.mem_range.mp hw
    rw [lo0 w0 hw, z_get, decide_eq_true_eq] at q
    refine ⟨Nat.le_refl _, Nat.zero_le _, ?_⟩
    unfold rightR
    dsimp only
    rw [if_pos rfl, want_over R (by rw [l]; exact h.ne), decide_eq_true_eq]
    have w1 : letsF b 1 1 = false := by
      cases e : letsF b 1 1 with
      | false => rfl
      | true =>
        have y := lets_mono B (by decide : (0 : Int) < 1) (by decide : (0 : Int) < 1) (t := 0 - 0 * 1) (by decide) e
        have l0 := lets_low B F0 (k := 0) (by decide)
        have : letsF b (0 - 0 * 1) 1 = decide (lowB b (0, 1) ≤ 0) := l0
        rw [y] at this
        have := of_decide_eq_true this.symm
        omega
    have z := h.zeros B w1
    have : sumR m (fun _ => 0) < sumR m fun w => mx0 (lo (rngT b T) 0 w - hi (rngT b T) 0 w) := sumR_lt (w0 := w0) (fun w _ => mx0_nn _) hw (by
      have := z w0 hw
      rw [lo0 w0 hw]
      exact Int.lt_of_lt_of_le (by omega) (le_mx0 _))
    rw [sumR_zero] at this
    omega
  | false =>
    rw [if_neg Bool.false_ne_true, l]
    have nw : ∀ w, w < m → lowB b (0, 1) = 0 := fun w hw => by
      have := List.any_eq_false.mp fw w (List.mem_range.mpr hw)
      rw [lo0 w hw, z_get, decide_eq_true_eq] at this
      omega
    have hne := h.ne
    refine dRun_spec M R (fun w hw => by rw [lo0 w hw, z_get, nw w hw]) (fun w hw => by rw [hi0 w hw, z_get]; exact hn) (h.h01 B _) ?_ (T.length - 1) (by rw [l]; omega)
    cases w1 : letsF b 1 1 with
    | true =>
      refine .inr fun t ht => ?_
      rw [l] at ht
      have := h.wide B w1 t ht
      have e : sumR m (fun w => mx0 (lo (rngT b T) t w - (List.replicate m (0 : Int)).getD w 0)) = sumR m (fun w => mx0 (lo (rngT b T) t w - 0)) := sumR_congr fun w _ => by rw [z_get]
      rw [e]
      exact this
    | false => exact .inl fun w hw => by rw [z_get]; exact h.zeros B w1 w hw
end
end PL
set_option exponentiation.threshold 10000
namespace PL
open PySem L2
section
variable {Γ : Fe} {b : Bd} {m M : Nat} {s : Sps} {T : List (List Fr)} {W : Int} {N : Nat → Nat → Int}
end
end PL
set_option exponentiation.threshold 10000
namespace PL
open PySem L2
section
variable {Γ : Fe} {b : Bd} {m M : Nat} {s : Sps} {row : List Int} {T : List (List Fr)} {W : Int} {N : Nat → Nat → Int}
def begF (b : Bd) (m : Nat) (T : List (List Fr)) (row : List Int) : List (List Fr) := ((List.range m).map fun w : Nat => (((row.count ((w : Nat) : Int) : Nat) : Int), ((row.count ((w : Nat) : Int) : Nat) : Int))) :: (T.drop (row.length + 1)).map fun r => (List.range m).map fun w => begCell b row r w
theorem mr_get {α : Type} (f : Nat → α) (d : α) {w : Nat} (h : w < m) : ((List.range m).map f).getD w d = f w := by
  rw [List.getD_eq_getElem?_getD, List.getElem?_map, List.getElem?_range h]
  rfl
theorem begF_at {t : Nat} (h1 : 1 ≤ t) (ht : row.length + t < T.length) : (begF b m T row).getD t [] = (List.range m).map fun w => begCell b row (T.getD (row.length + t) []) w := by
  obtain ⟨k, rfl⟩ : ∃ k, t = k + 1 := ⟨t - 1, by omega⟩
  have e : row.length + 1 + k = row.length + (k + 1) := by omega
  unfold begF
  rw [List.getD_eq_getElem?_getD, List.getElem?_cons_succ, List.getElem?_map, List.getElem?_drop, e, List.getElem?_eq_getElem ht, List.getD_eq_getElem?_getD, List.getElem?_eq_getElem ht]
  rfl
theorem lo_beg0 {w : Nat} (hw : w < m) : lo (begF b m T row) 0 w = (row.count ((w : Nat) : Int) : Nat) := by
  show (((List.range m).map _).getD w (0, 1)).1 = _
  rw [mr_get _ _ hw]
theorem hi_beg0 {w : Nat} (hw : w < m) : hi (begF b m T row) 0 w = (row.count ((w : Nat) : Int) : Nat) := by
  show (((List.range m).map _).getD w (0, 1)).2 = _
  rw [mr_get _ _ hw]
theorem lo_beg {t w : Nat} (h1 : 1 ≤ t) (ht : row.length + t < T.length) (hw : w < m) : lo (begF b m T row) t w = mxI (row.count ((w : Nat) : Int) : Nat) (lowB b (dueF T (row.length + t) w)) := by
  unfold lo
  rw [begF_at h1 ht, mr_get _ _ hw]
  rfl
theorem hi_beg {t w : Nat} (h1 : 1 ≤ t) (ht : row.length + t < T.length) (hw : w < m) : hi (begF b m T row) t w = highB b (dueF T (row.length + t) w) := by
  unfold hi
  rw [begF_at h1 ht, mr_get _ _ hw]
  rfl
theorem tally_get {w : Nat} (hw : w < m) : (tallyF m row).getD w 0 = (row.count ((w : Nat) : Int) : Nat) := by
  unfold tallyF
  rw [mr_get _ _ hw]
end
end PL
set_option exponentiation.threshold 10000
namespace PL
open PySem L2
section
variable {Γ : Fe} {b : Bd} {m M : Nat} {s : Sps} {row : List Int} {T : List (List Fr)} {W : Int} {N : Nat → Nat → Int}
end
end PL
set_option exponentiation.threshold 10000
namespace PL
open PySem L2
section
variable {Γ : Fe} {b : Bd} {m M : Nat} {s : Sps} {row whole : List Int} {T : List (List Fr)} {W : Int} {N : Nat → Nat → Int}
end
end PL
set_option exponentiation.threshold 10000
namespace PL
open PySem L2
section
variable {Γ : Fe} {b : Bd} {m M : Nat} {s : Sps} {row whole : List Int} {T : List (List Fr)} {W : Int} {N : Nat → Nat → Int}
def turnS (s : Sps) : Sps := s.map fun p => (p.1, p.2.reverse)
theorem SpsOk.turn (S : SpsOk m M s) : SpsOk m M (turnS s) := by
  refine ⟨by unfold turnS; rw [List.length_map]; exact S.ne, by unfold turnS; rw [List.length_map]; exact S.le, S.m1, S.m6, fun p hp => ?_, ?_⟩
  · obtain ⟨q, hq, rfl⟩ := List.mem_map.mp hp
    have h := S.sp q hq
    exact ⟨h.t1, h.t2, by rw [List.length_reverse]; exact h.len, fun x hx => h.w x (List.mem_reverse.mp hx), by rw [List.sum_reverse]; exact h.pos⟩
  · unfold turnS
    rw [List.map_map]
    exact S.all
end
end PL
set_option exponentiation.threshold 10000
namespace PL
open PySem L2
section
variable {Γ : Fe} {b : Bd} {m M : Nat} {s : Sps} {row ws : List Int} {T : List (List Fr)}
end
end PL
set_option exponentiation.threshold 10000
namespace PL
open PySem L2
section
variable {Γ : Fe} {b : Bd} {m M n : Nat} {s : Sps} {row ws : List Int} {T : List (List Fr)} {W : Int} {N : Nat → Nat → Int}
/-- weights -/
structure WOk (m : Nat) (ws : List Int) : Prop where
  m1 : 1 ≤ m
  m6 : m ≤ 6
  len : ws.length = m
  w : ∀ x ∈ ws, 0 ≤ x ∧ x ≤ 1000
  pos : 0 < ws.sum
theorem WOk.sp (h : WOk m ws) {k : Nat} (k1 : 1 ≤ k) (k2 : k ≤ M) : SpOk m M (k, ws) := ⟨k1, k2, h.len, h.w, h.pos⟩
end
end PL
set_option exponentiation.threshold 10000
namespace PL
open PySem L2
section
variable {Γ : Fe} {b : Bd} {m M n : Nat} {s : Sps} {row ws : List Int} {T : List (List Fr)}
end
end PL
set_option exponentiation.threshold 10000
namespace PL
open PySem L2
section
variable {Γ : Fe} {b : Bd} {m M n : Nat} {s : Sps} {row ws : List Int} {T : List (List Fr)}
end
end PL
set_option exponentiation.threshold 10000
namespace PL
open PySem L2
section
variable {Γ : Fe} {b : Bd} {m M n : Nat} {s : Sps} {row ws : List Int} {T : List (List Fr)} {W : Int} {N : Nat → Nat → Int}
end
end PL
set_option exponentiation.threshold 10000
namespace PL
open PySem L2
section
variable {Γ : Fe} {b : Bd} {m M n : Nat} {s : Sps} {row ws : List Int} {T : List (List Fr)} {W : Int} {N : Nat → Nat → Int}
theorem sumR_sub (f g : Nat → Int) : ∀ m : Nat, sumR m (fun w => f w - g w) = sumR m f - sumR m g
  | 0 => by simp [sumR]
  | m + 1 => by rw [sumR_succ, sumR_succ, sumR_succ, sumR_sub f g m]; omega
theorem paper_no (h : RW m T) {c : Nat → Nat → Int} {x y : Nat} (hx : x < T.length)
    (gx : ∀ w, w < m → lo T x w ≤ c x w ∧ c x w ≤ hi T x w) (gy : ∀ w, w < m → lo T y w ≤ c y w ∧ c y w ≤ hi T y w) (mono : ∀ w, w < m → c x w ≤ c y w) (sum : sumR m (c y) - sumR m (c x) = (y : Int) - x) (o : Bool) :
    rightR o (T.getD x []) (T.getD y []) ((y : Int) - x) = false := by
  unfold rightR
  cases o
  · rw [if_neg Bool.false_ne_true, want_under h hx]
    refine decide_eq_false fun q => ?_
    have : sumR m (fun w => c y w - c x w) ≤ sumR m fun w => mx0 (hi T y w - lo T x w) := sumR_le fun w hw => by
      have a := gx w hw
      have d := gy w hw
      exact Int.le_trans (by omega) (le_mx0 _)
    rw [sumR_sub] at this
    omega
  · rw [if_pos rfl, want_over h hx]
    refine decide_eq_false fun q => ?_
    have : sumR m (fun w => mx0 (lo T y w - hi T x w)) ≤ sumR m fun w => c y w - c x w := sumR_le fun w hw => by
      have a := gx w hw
      have d := gy w hw
      have e := mono w hw
      unfold mx0
      split <;> omega
    rw [sumR_sub] at this
    omega
theorem take_mono {r : List Nat} {x y w : Nat} (h : x ≤ y) : (((r.take x).count w : Nat) : Int) ≤ ((r.take y).count w : Nat) := by
  have : (r.take x).count w ≤ (r.take y).count w := by
    have e : r.take x = (r.take y).take x := by rw [List.take_take, Nat.min_eq_left h]
    rw [e]
    exact (List.take_sublist x (r.take y)).count_le w
  omega
theorem take_sum {r : List Nat} {t : Nat} (wi : ∀ x ∈ r, x < m) (h : t ≤ r.length) : sumR m (fun w => (((r.take t).count w : Nat) : Int)) = t := by
  rw [sumR_count fun x hx => wi x (List.mem_of_mem_take hx), List.length_take, Nat.min_eq_left h]
/-- all lags keep it -/
def AllK (b : Bd) (m : Nat) (T : List (List Fr)) (r : List Nat) (f : Nat) : Prop := ∀ t w, f ≤ t → t < T.length → w < m → keepsP b (lagP (dueF T t w) (((r.take t).count w : Nat) : Int)) = true
theorem rng_of (h : DuT m T W N) (B : BdOk b) {t w : Nat} {c : Int} (ht : t < T.length) (hw : w < m) (c0 : 0 ≤ c) (k : keepsP b (lagP (dueF T t w) c) = true) : lowB b (dueF T t w) ≤ c ∧ c ≤ highB b (dueF T t w) := by
  rw [keeps_rng B (h.fb t w ht hw) (h.nn t w ht hw) c0, Bool.and_eq_true] at k
  exact ⟨of_decide_eq_true k.1, of_decide_eq_true k.2⟩
theorem kept_of (h : DuT m T W N) (B : BdOk b) {r : List Nat} (rl : r.length = T.length - 1) (wi : ∀ x ∈ r, x < m) (k : AllK b m T r 0) : (∃ q, keptF b m T = .ok q) ∧ ∀ (o : Bool) (x y : Nat), x ≤ y → y < T.length → rightT (rngT b T) 0 o x y = false := by
  have l := rngT_len b T
  have no : ∀ (o : Bool) (x y : Nat), x ≤ y → y < T.length → rightR o ((rngT b T).getD x []) ((rngT b T).getD y []) ((y : Int) - x) = false := fun o x y xy hy => by
    have g : ∀ t w, t < T.length → w < m → lo (rngT b T) t w ≤ (((r.take t).count w : Nat) : Int) ∧ (((r.take t).count w : Nat) : Int) ≤ hi (rngT b T) t w := fun t w ht hw => by
      obtain ⟨e1, e2⟩ := lo_rng (b := b) (T := T) (t := t) (w := w) ht (by rw [h.row t ht]; exact hw)
      rw [e1, e2]
      exact rng_of h B ht hw (by omega) (k t w (Nat.zero_le _) ht hw)
    refine paper_no (c := fun t w => (((r.take t).count w : Nat) : Int)) (h.rw b) (by omega) (fun w hw => g x w (by omega) hw) (fun w hw => g y w hy hw) (fun w hw => take_mono xy) ?_ o
    rw [take_sum wi (by omega), take_sum wi (by omega)]
  refine ⟨?_, fun o x y xy hy => no o x y xy hy⟩
  have K := kept_spec h B
  cases e : keptF b m T with
  | ok q => exact ⟨q, rfl⟩
  | error p =>
    exfalso
    rw [e] at K
    obtain ⟨a1, a2, a3⟩ := K
    have := h.ne
    rw [no p.1 p.2.1 p.2.2 a1 (by omega)] at a3
    cases a3
end
end PL
set_option exponentiation.threshold 10000
namespace PL
open PySem L2
section
variable {Γ : Fe} {m M n : Nat} {ws : List Int}
end
end PL
namespace PL
open PySem L2
def chOk (x : Str) : Prop := x.cps.all (· < 0x110000) = true
theorem chOk_of (s : String) : chOk (Str.ofString s) := by
  unfold chOk
  rw [Str.ofString_eq_toList]
  simp only [List.all_toArray, List.all_map, List.all_eq_true]
  intro c _
  have := c.valid
  have h : c.toNat < 0x110000 := by
    have v : c.val.toNat < 0xd800 ∨ (0xdfff < c.val.toNat ∧ c.val.toNat < 0x110000) := c.valid
    show c.val.toNat < 0x110000
    omega
  simpa using h
/-- a tree whose text is known to be short -/
structure Tx (n B : Nat) (d : D) : Prop where
  len : (toP d).shown.length ≤ B
  ok : chOk (toP d).shown
  sh : (toP d).showable = true
  sp : shp n d = true
theorem Tx.mono {n B C : Nat} {d : D} (t : Tx n B d) (h : B ≤ C) : Tx n C d := ⟨Nat.le_trans t.len h, t.ok, t.sh, t.sp⟩
/-- two alike containers have one text -/
theorem Tx.same {B : Nat} {d : D} (t : Tx 60 B d) (hB : B ≤ 16777216) (hc : (∃ l, d = .lst l) ∨ ∃ l, d = .tup l) : ∃ x, biD .reprL [d] = .ok (.str x) 0 ∧ cmpD .ne (.str x) (.str x) = .ok (.bl false) 0 ∧ cmpD .eq (.str x) (.str x) = .ok (.bl true) 0 := by
  have c : shp 60 (.str (toP d).shown) = true := by
    show PyData.strOk _ = true
    exact t.ok
  obtain ⟨c1, c2⟩ := cmp_self c
  have l : (toP d).shown.length ≤ szLine := by have := t.len; show _ ≤ 16777216; omega
  refine ⟨(toP d).shown, bi_reprL ?_, c2, c1⟩
  rcases hc with ⟨l', rfl⟩ | ⟨l', rfl⟩ <;> (unfold shwD; simp only [t.sp, t.sh, decide_eq_true l]; rfl)
end PL
namespace PL
open PySem L2
section
variable {Γ : Fe} {m : Nat} {ws h l : List Int}
def dRn (h l : List Int) : D := .tup [.lst (lI h), .lst (lI l)]
end
end PL
namespace PL
open PySem L2
section
variable {Γ : Fe} {m : Nat} {ws h l : List Int} {b : Bd}
/-- a lag's numerator over the weights' sum -/
def nmF (ws h l : List Int) (w t : Nat) : Int := (t : Int) * ws.getD w 0 - ((rw_ h l t).count (w : Int) : Nat) * ws.sum
def dnF (ws l : List Int) (w : Nat) : Int := (l.length : Int) * ws.getD w 0 - (l.count (w : Int) : Nat) * ws.sum
/-- whether the lag keeps the bound -/
def kpF (b : Bd) (ws h l : List Int) (w t : Nat) : Bool := letsF b (absI (nmF ws h l w t)) ws.sum
theorem nm_lap (hl : 0 < l.length) {w t : Nat} (ht : h.length ≤ t) (k : Nat) : nmF ws h l w (t + k * l.length) = nmF ws h l w t + k * dnF ws l w := by
  unfold nmF dnF
  rw [rw_count hl (n := t + k * l.length) (by omega), rw_count hl ht]
  have e1 : (t + k * l.length - h.length) / l.length = (t - h.length) / l.length + k := by
    rw [show t + k * l.length - h.length = (t - h.length) + k * l.length by omega, Nat.add_mul_div_right _ _ hl]
  have e2 : (t + k * l.length - h.length) % l.length = (t - h.length) % l.length := by
    rw [show t + k * l.length - h.length = (t - h.length) + k * l.length by omega, Nat.add_mul_mod_self_right]
  rw [e1, e2]
  generalize (t - h.length) / l.length = a
  generalize (l.take ((t - h.length) % l.length)).count (w : Int) = c
  generalize l.count (w : Int) = d
  generalize h.count (w : Int) = e
  generalize ws.getD w 0 = y
  generalize ws.sum = S
  generalize l.length = n
  push_cast
  have x2 : ((e : Int) + (((a : Int) + (k : Int)) * (d : Int) + (c : Int))) * S = ((e : Int) + ((a : Int) * (d : Int) + (c : Int))) * S + (k : Int) * (d : Int) * S := by
    rw [← Int.add_mul]
    congr 1
    rw [Int.add_mul (a : Int) (k : Int)]
    omega
  rw [x2, Int.add_mul (t : Int), Int.mul_sub, ← Int.mul_assoc (k : Int), ← Int.mul_assoc (k : Int)]
  omega
/-- the least number of laps behind which a lag a that grows by d each lap is out -/
def OutAt (b : Bd) (S a d : Int) (k : Nat) : Prop := letsF b (absI (a + k * d)) S = false ∧ ∀ j : Nat, j < k → letsF b (absI (a + j * d)) S = true
end
end PL
namespace PL
open PySem L2
section
variable {Γ : Fe} {m : Nat} {ws h l : List Int} {b : Bd}
def optD : Option Nat → D
  | none => .non
  | some T => .int T
/-- the first turn, or that there is none -/
def FirstOut (b : Bd) (ws h l : List Int) (w : Nat) : Option Nat → Prop
  | none => (∀ t, kpF b ws h l w t = true) ∧ dnF ws l w = 0
  | some T => kpF b ws h l w T = false ∧ (∀ t, t < T → kpF b ws h l w t = true) ∧ T ≤ 10 ^ 16
structure Fd (b : Bd) (ws h l : List Int) (w i : Nat) (fs : List Nat) : Prop where
  hd : i ≤ h.length → fs = []
  kp : ∀ t, t < h.length → t < i → kpF b ws h l w t = true
  ou : ∀ x ∈ fs, kpF b ws h l w x = false ∧ x ≤ 10 ^ 16
  al : ∀ t, h.length ≤ t → t < i → ∀ j, kpF b ws h l w (t + j * l.length) = false → ∃ x ∈ fs, x ≤ t + j * l.length
  dn : dnF ws l w ≠ 0 → h.length < i → fs ≠ []
  ln : fs.length ≤ i
theorem kp_lap (hl : 0 < l.length) {w t : Nat} (ht : h.length ≤ t) (k : Nat) : kpF b ws h l w (t + k * l.length) = letsF b (absI (nmF ws h l w t + k * dnF ws l w)) ws.sum := by
  unfold kpF
  rw [nm_lap hl ht]
/-- a turn whose lag is looked at -/
theorem Fd.one (W : WOk m ws) (hl : 0 < l.length) (hl2 : l.length ≤ 400) {w t k : Nat} {fs : List Nat} (F : Fd b ws h l w t fs) (ht : h.length ≤ t) (ht2 : t ≤ 1000) (hk : k ≤ 10 ^ 13) (O : OutAt b ws.sum (nmF ws h l w t) (dnF ws l w) k) : Fd b ws h l w (t + 1) (fs ++ [t + l.length * k]) := by
  have kl : l.length * k ≤ 400 * 10 ^ 13 := Nat.mul_le_mul hl2 hk
  have ek : t + l.length * k = t + k * l.length := by rw [Nat.mul_comm]
  refine ⟨fun x => absurd x (by omega), fun x h1 h2 => F.kp x h1 (by omega), fun x hx => ?_, fun x h1 h2 j hj => ?_, fun _ _ => by simp, by have := F.ln; simp; omega⟩
  · rcases List.mem_append.mp hx with hx | hx
    · exact F.ou x hx
    · rw [List.mem_singleton] at hx
      subst hx
      refine ⟨?_, by omega⟩
      rw [ek, kp_lap hl ht]
      exact O.1
  · by_cases z : x < t
    · obtain ⟨y, hy, hy2⟩ := F.al x h1 z j hj
      exact ⟨y, List.mem_append_left _ hy, hy2⟩
    · obtain rfl : x = t := by omega
      refine ⟨_, List.mem_append_right _ (List.mem_singleton.mpr rfl), ?_⟩
      rw [kp_lap hl h1] at hj
      by_cases q : k ≤ j
      · have := Nat.mul_le_mul_right l.length q
        omega
      · have := O.2 j (by omega)
        rw [this] at hj
        cases hj
/-- a turn whose lag stays for ever -/
theorem Fd.skip (hl : 0 < l.length) {w t : Nat} {fs : List Nat} (F : Fd b ws h l w t fs) (ht : h.length ≤ t) (hd : dnF ws l w = 0) (hk : kpF b ws h l w t = true) : Fd b ws h l w (t + 1) fs := by
  refine ⟨fun x => absurd x (by omega), fun x h1 h2 => F.kp x h1 (by omega), F.ou, fun x h1 h2 j hj => ?_, fun h0 => absurd hd h0, by have := F.ln; omega⟩
  by_cases z : x < t
  · exact F.al x h1 z j hj
  · obtain rfl : x = t := by omega
    rw [kp_lap hl h1, hd, Int.mul_zero, Int.add_zero] at hj
    have : letsF b (absI (nmF ws h l w x)) ws.sum = true := hk
    rw [this] at hj
    cases hj
theorem Fd.head {w t : Nat} {fs : List Nat} (F : Fd b ws h l w t fs) (ht : t < h.length) (hk : kpF b ws h l w t = true) : Fd b ws h l w (t + 1) fs := by
  refine ⟨fun _ => F.hd (by omega), fun x h1 h2 => ?_, F.ou, fun x h1 h2 => absurd h1 (by omega), fun _ hh => absurd hh (by omega), by have := F.ln; omega⟩
  by_cases z : x < t
  · exact F.kp x h1 z
  · obtain rfl : x = t := by omega
    exact hk
theorem Fd.zero (w : Nat) : Fd b ws h l w 0 [] := ⟨fun _ => rfl, fun t _ h => absurd h (by omega), fun x hx => (nomatch hx), fun t _ h => absurd h (by omega), fun _ h => absurd h (by omega), Nat.le_refl _⟩
structure Bk (b : Bd) (ws h l : List Int) (i : Nat) (ps : List (Int × Int)) : Prop where
  mem : ∀ p ∈ ps, ∃ T w : Nat, p = ((T : Int), (w : Int)) ∧ w < i ∧ FirstOut b ws h l w (some T)
  all : ∀ w, w < i → FirstOut b ws h l w none ∨ ∃ T : Nat, ((T : Int), (w : Int)) ∈ ps ∧ FirstOut b ws h l w (some T)
  ln : ps.length ≤ i
theorem Bk.skip {i : Nat} {ps : List (Int × Int)} (K : Bk b ws h l i ps) (F : FirstOut b ws h l i none) : Bk b ws h l (i + 1) ps :=
  ⟨fun p hp => by obtain ⟨T, w, e, hw, f⟩ := K.mem p hp; exact ⟨T, w, e, by omega, f⟩, fun w hw => by
    by_cases z : w = i
    · subst z; exact .inl F
    · exact K.all w (by omega), by have := K.ln; omega⟩
theorem Bk.one {i : Nat} {ps : List (Int × Int)} (K : Bk b ws h l i ps) {T : Nat} (F : FirstOut b ws h l i (some T)) : Bk b ws h l (i + 1) (ps ++ [((T : Int), (i : Int))]) :=
  ⟨fun p hp => by
    rcases List.mem_append.mp hp with hp | hp
    · obtain ⟨T, w, e, hw, f⟩ := K.mem p hp
      exact ⟨T, w, e, by omega, f⟩
    · rw [List.mem_singleton] at hp
      exact ⟨T, i, hp, by omega, F⟩, fun w hw => by
    by_cases z : w = i
    · subst z; exact .inr ⟨T, List.mem_append_right _ (List.mem_singleton.mpr rfl), F⟩
    · rcases K.all w (by omega) with q | ⟨T', hT, q⟩
      · exact .inl q
      · exact .inr ⟨T', List.mem_append_left _ hT, q⟩, by have := K.ln; simp; omega⟩
end
end PL
namespace PL
open PySem L2
inductive Sen where
  | went (w b : Nat) | often (w b n : Nat) | more (v w b : Nat) | no (s : Sen) | al (l : List Sen) | an (l : List Sen)
  deriving Inhabited
mutual
/-- how many sentences within -/
def szS : Sen → Nat
  | .no s => 1 + szS s
  | .al l => 1 + szL l
  | .an l => 1 + szL l
  | _ => 1
def szL : List Sen → Nat
  | [] => 0
  | s :: l => szS s + szL l
end
mutual
def dpS : Sen → Nat
  | .no s => 1 + dpS s
  | .al l => 1 + dpL l
  | .an l => 1 + dpL l
  | _ => 1
def dpL : List Sen → Nat
  | [] => 0
  | s :: l => max (dpS s) (dpL l)
end
mutual
def okS (m far : Nat) : Sen → Prop
  | .went w b => w < m ∧ 1 ≤ b ∧ b ≤ far
  | .often w b n => w < m ∧ 1 ≤ b ∧ b ≤ far ∧ 1 ≤ n ∧ n ≤ b
  | .more v w b => v < m ∧ w < m ∧ v ≠ w ∧ 1 ≤ b ∧ b ≤ far
  | .no s => okS m far s
  | .al l => l.length ≤ 4 ∧ okL m far l
  | .an l => l.length ≤ 4 ∧ okL m far l
def okL (m far : Nat) : List Sen → Prop
  | [] => True
  | s :: l => okS m far s ∧ okL m far l
end
mutual
theorem okS.up {m m' far far' : Nat} (hm : m ≤ m') (hf : far ≤ far') : ∀ {s : Sen}, okS m far s → okS m' far' s
  | .went w b, h => by unfold okS at h ⊢; omega
  | .often w b n, h => by unfold okS at h ⊢; omega
  | .more v w b, h => by unfold okS at h ⊢; omega
  | .no s, h => by unfold okS at h ⊢; exact okS.up hm hf h
  | .al l, h => by unfold okS at h ⊢; exact ⟨h.1, okL.up hm hf h.2⟩
  | .an l, h => by unfold okS at h ⊢; exact ⟨h.1, okL.up hm hf h.2⟩
theorem okL.up {m m' far far' : Nat} (hm : m ≤ m') (hf : far ≤ far') : ∀ {l : List Sen}, okL m far l → okL m' far' l
  | [], h => by unfold okL; trivial
  | s :: l, h => by unfold okL at h ⊢; exact ⟨okS.up hm hf h.1, okL.up hm hf h.2⟩
end
def lastN (b : Nat) (p : List Int) : List Int := p.drop (p.length - b)
mutual
/-- whether a sentence holds of a past -/
def hoS (p : List Int) : Sen → Bool
  | .went w b => decide (b ≤ p.length) && decide (p.getD (p.length - b) 0 = (w : Int))
  | .often w b n => decide (n ≤ (lastN b p).count (w : Int))
  | .more v w b => decide ((lastN b p).count (w : Int) < (lastN b p).count (v : Int))
  | .no s => !hoS p s
  | .al l => hoAl p l
  | .an l => hoAn p l
def hoAl (p : List Int) : List Sen → Bool
  | [] => true
  | s :: l => hoS p s && hoAl p l
def hoAn (p : List Int) : List Sen → Bool
  | [] => false
  | s :: l => hoS p s || hoAn p l
end
mutual
/-- how far back a sentence looks -/
def rcS : Sen → Nat
  | .went _ b => b
  | .often _ b _ => b
  | .more _ _ b => b
  | .no s => rcS s
  | .al l => rcL l
  | .an l => rcL l
def rcL : List Sen → Nat
  | [] => 0
  | s :: l => max (rcS s) (rcL l)
end
mutual
theorem rcS_le {m far : Nat} : ∀ {s : Sen}, okS m far s → rcS s ≤ far
  | .went w b, h => by unfold okS at h; unfold rcS; omega
  | .often w b n, h => by unfold okS at h; unfold rcS; omega
  | .more v w b, h => by unfold okS at h; unfold rcS; omega
  | .no s, h => by unfold okS at h; unfold rcS; exact rcS_le h
  | .al l, h => by unfold okS at h; unfold rcS; exact rcL_le h.2
  | .an l, h => by unfold okS at h; unfold rcS; exact rcL_le h.2
theorem rcL_le {m far : Nat} : ∀ {l : List Sen}, okL m far l → rcL l ≤ far
  | [], h => Nat.zero_le _
  | s :: l, h => by unfold okL at h; unfold rcL; exact Nat.max_le.mpr ⟨rcS_le h.1, rcL_le h.2⟩
end
mutual
theorem shp_up : ∀ {n m : Nat} {d : D}, n ≤ m → shp n d = true → shp m d = true
  | _, _, .non, _, _ => by unfold shp; rfl
  | _, _, .bl _, _, _ => by unfold shp; rfl
  | _, _, .int _, _, _ => by unfold shp; rfl
  | _, _, .str s, _, h => by unfold shp at h ⊢; exact h
  | 0, _, .tup _, _, h => by unfold shp at h; cases h
  | n + 1, 0, .tup _, hm, _ => by omega
  | n + 1, m + 1, .tup l, hm, h => by unfold shp at h ⊢; exact shpL_up (by omega) h
  | 0, _, .lst _, _, h => by unfold shp at h; cases h
  | n + 1, 0, .lst _, hm, _ => by omega
  | n + 1, m + 1, .lst l, hm, h => by unfold shp at h ⊢; exact shpL_up (by omega) h
  | 0, _, .dct _ _, _, h => by unfold shp at h; cases h
  | n + 1, _, .dct _ _, _, h => by unfold shp at h; cases h
  | 0, _, .obj _ _ _, _, h => by unfold shp at h; cases h
  | n + 1, _, .obj _ _ _, _, h => by unfold shp at h; cases h
  | 0, _, .exc _ _, _, h => by unfold shp at h; cases h
  | n + 1, _, .exc _ _, _, h => by unfold shp at h; cases h
theorem shpL_up : ∀ {n m : Nat} {l : List D}, n ≤ m → shpL n l = true → shpL m l = true
  | _, _, [], _, _ => by unfold shpL; rfl
  | n, m, d :: l, hm, h => by
    unfold shpL at h ⊢
    rw [Bool.and_eq_true] at h ⊢
    exact ⟨shp_up hm h.1, shpL_up hm h.2⟩
end
end PL
namespace PL
open PySem L2
@[simp] theorem isi_str_str (x : Str) : isiD .str (.str x) = .ok (.bl true) 0 := rfl
@[simp] theorem addFn_same (Γ : Fe) (i : Nat) (F : List D → Res) : (Γ.addFn i F).fn i = F := by unfold Fe.addFn; simp
@[simp] theorem addFn_gl (Γ : Fe) (i : Nat) (F : List D → Res) : (Γ.addFn i F).gl = Γ.gl := rfl
section
variable {Γ : Fe}
end
end PL
namespace PL
open PySem L2
section
variable {Γ : Fe}
end
end PL
namespace PL
open PySem L2
section
variable {Γ : Fe}
end
end PL
namespace PL
open PySem L2
section
variable {Γ : Fe}
end
end PL
namespace PL
open PySem L2
structure BkOk (m : Nat) (rs : List (Sen × Nat)) : Prop where
  m1 : 1 ≤ m
  m4 : m ≤ 4
  le : rs.length ≤ 8
  ru : ∀ r ∈ rs, okS m 5 r.1 ∧ szS r.1 ≤ 40 ∧ dpS r.1 ≤ 14 ∧ r.2 < m
def amx (f : Nat → Nat) : Nat → Nat
  | 0 => 0
  | n + 1 => if f (amx f n) < f (n + 1) then n + 1 else amx f n
theorem amx_spec (f : Nat → Nat) : ∀ n, amx f n ≤ n ∧ (∀ j, j ≤ n → f j ≤ f (amx f n)) ∧ ∀ j, j < amx f n → f j < f (amx f n)
  | 0 => ⟨Nat.le_refl _, fun j h => by rw [show j = 0 by omega]; exact Nat.le_refl _, fun j h => absurd h (by unfold amx; omega)⟩
  | n + 1 => by
    obtain ⟨h1, h2, h3⟩ := amx_spec f n
    unfold amx
    split
    · rename_i h
      refine ⟨Nat.le_refl _, fun j hj => ?_, fun j hj => ?_⟩
      · by_cases z : j = n + 1
        · subst z; exact Nat.le_refl _
        · have := h2 j (by omega); omega
      · have := h2 j (by omega); omega
    · rename_i h
      refine ⟨by omega, fun j hj => ?_, h3⟩
      by_cases z : j = n + 1
      · subst z; omega
      · exact h2 j (by omega)
/-- the first rule that holds -/
def ruF (p : List Int) (rs : List (Sen × Nat)) : Option Nat := rs.findIdx? fun r => hoS p r.1
def wtF (last : List Int) (w : Nat) : Nat := if (w : Int) ∈ last then last.reverse.idxOf (w : Int) else last.length + 1
def agoF (m : Nat) (last : List Int) : Nat := amx (wtF last) (m - 1)
def brF (m : Nat) (rs : List (Sen × Nat)) : Nat := (rs.map fun r => rcS r.1).foldl max (m - 1)
def chF (m : Nat) (rs : List (Sen × Nat)) (reach : Nat) (p : List Int) : Nat := match ruF p rs with
  | none => agoF m (lastN reach p)
  | some n => (rs.getD n (default, 0)).2
theorem agoF_lt {m : Nat} (h : 1 ≤ m) (last : List Int) : agoF m last < m := by
  have := (amx_spec (wtF last) (m - 1)).1
  unfold agoF
  omega
theorem ruF_lt {p : List Int} {rs : List (Sen × Nat)} {n : Nat} (h : ruF p rs = some n) : n < rs.length := by
  unfold ruF at h
  obtain ⟨h1, _⟩ := List.findIdx?_eq_some_iff_getElem.mp h
  exact h1
theorem chF_lt {m : Nat} {rs : List (Sen × Nat)} (B : BkOk m rs) (reach : Nat) (p : List Int) : chF m rs reach p < m := by
  unfold chF
  split
  · exact agoF_lt B.m1 _
  · rename_i n h
    have hn := ruF_lt h
    rw [List.getD_eq_getElem?_getD, List.getElem?_eq_getElem hn]
    exact (B.ru _ (List.getElem_mem hn)).2.2.2
theorem brF_le {m : Nat} {rs : List (Sen × Nat)} (B : BkOk m rs) : brF m rs ≤ 5 := by
  have h : ∀ (l : List Nat) (b : Nat), (∀ x ∈ l, x ≤ 5) → b ≤ 5 → l.foldl max b ≤ 5 := fun l => by
    induction l with
    | nil => intro b _ hb; exact hb
    | cons x l ih => intro b hl hb; exact ih _ (fun y hy => hl y (List.mem_cons_of_mem _ hy)) (Nat.max_le.mpr ⟨hb, hl x List.mem_cons_self⟩)
  refine h _ _ (fun x hx => ?_) (by have := B.m4; omega)
  obtain ⟨r, hr, rfl⟩ := List.mem_map.mp hx
  exact rcS_le (B.ru r hr).1
section
variable {Γ : Fe}
end
end PL
namespace PL
open PySem L2
section
variable {Γ : Fe}
end
end PL
namespace PL
open PySem L2
section
variable {Γ : Fe}
end
end PL
namespace PL
open PySem L2
def pkF (m : Nat) (rs : List (Sen × Nat)) (p : List Int) : Nat := chF m rs (brF m rs) p
section
variable {Γ : Fe}
theorem rep_opt {r : Option Nat} (h : ∀ n, r = some n → n ≤ 1000) : ∃ x, biD .repr [optD r] = .ok (.str x) 0 ∧ cmpD .ne (.str x) (.str x) = .ok (.bl false) 0 := by
  have c : ∀ s : String, cmpD .ne (.str s) (.str s) = .ok (.bl false) 0 := fun s => (cmp_self (by
    show PySem.PyData.strOk _ = true
    exact chOk_of s)).2
  cases r with
  | none => exact ⟨"None", rfl, c "None"⟩
  | some n =>
    have hn := h n rfl
    have a : ((n : Int)).natAbs < 2 ^ 1900 := Nat.lt_of_le_of_lt (show ((n : Int)).natAbs ≤ 1000 by omega) (Nat.lt_of_lt_of_le (show 1000 < 2 ^ 10 by decide) (Nat.pow_le_pow_right (by decide) (by decide)))
    have l := log2_of_le (i := (n : Int)) a (by decide)
    have l2 : ((n : Int)).natAbs.log2 < 1920 := by omega
    refine ⟨toString ((n : Nat) : Int), ?_, c _⟩
    show biD .repr [.int (n : Int)] = _
    rw [bi_reprI, if_pos (by simpa using l2)]
end
end PL
namespace PL
open PySem L2
/-- a past and one choice more -/
def onwF (m : Nat) (p : List Int) : List (List Int) := (List.range m).map fun w : Nat => p ++ [(w : Int)]
/-- the pasts of so many choices -/
def lvF (m : Nat) : Nat → List (List Int)
  | 0 => [[]]
  | k + 1 => (lvF m k).flatMap (onwF m)
def stF (m : Nat) : Nat → List (List Int)
  | 0 => [[]]
  | k + 1 => stF m k ++ lvF m (k + 1)
theorem lvF_len (m : Nat) : ∀ k, (lvF m k).length = m ^ k
  | 0 => rfl
  | k + 1 => by
    unfold lvF
    rw [List.length_flatMap]
    have : (lvF m k).map (fun a => (onwF m a).length) = List.replicate (m ^ k) m := by
      rw [← lvF_len m k]
      unfold onwF
      simp [List.map_const']
    rw [this]
    simp [Nat.pow_succ]
theorem lvF_of (m : Nat) : ∀ k, ∀ p ∈ lvF m k, p.length = k ∧ Wi (m : Int) p
  | 0, p, h => by
    unfold lvF at h
    rw [List.mem_singleton] at h
    subst h
    exact ⟨rfl, fun x hx => (nomatch hx)⟩
  | k + 1, p, h => by
    unfold lvF at h
    obtain ⟨q, hq, hp⟩ := List.mem_flatMap.mp h
    obtain ⟨w, hw, rfl⟩ := List.mem_map.mp hp
    obtain ⟨h1, h2⟩ := lvF_of m k q hq
    refine ⟨by rw [List.length_append, h1]; rfl, fun x hx => ?_⟩
    rcases List.mem_append.mp hx with hx | hx
    · exact h2 x hx
    · rw [List.mem_singleton] at hx
      subst hx
      have := List.mem_range.mp hw
      omega
theorem stF_of (m : Nat) : ∀ k, ∀ p ∈ stF m k, p.length ≤ k ∧ Wi (m : Int) p
  | 0, p, h => by
    have := lvF_of m 0 p h
    exact ⟨by omega, this.2⟩
  | k + 1, p, h => by
    unfold stF at h
    rcases List.mem_append.mp h with h | h
    · have := stF_of m k p h
      exact ⟨by omega, this.2⟩
    · have := lvF_of m (k + 1) p h
      exact ⟨by omega, this.2⟩
theorem lastN_len (b : Nat) (p : List Int) : (lastN b p).length = min b p.length := by unfold lastN; rw [List.length_drop]; omega
theorem lastN_last {k b : Nat} (h : k ≤ b) (p : List Int) : lastN k (lastN b p) = lastN k p := by
  have e := lastN_len b p
  unfold lastN at e ⊢
  rw [List.drop_drop, e]
  congr 1
  omega
section
variable {Γ : Fe}
end
end PL
namespace PL
open PySem L2
def zc (m : Nat) : List Int := List.replicate m 0
/-- one more of a claimant -/
def incC (c : List Int) (w : Nat) : List Int := c.set w (c.getD w 0 + 1)
def fitB (m : Nat) (r : List Fr) (c : List Int) : Bool := (List.range m).all fun w => decide ((r.getD w (0, 1)).1 ≤ c.getD w 0) && decide (c.getD w 0 ≤ (r.getD w (0, 1)).2)
def insL (K : List (List Int)) (c : List Int) : List (List Int) := if c ∈ K then K else K ++ [c]
def addC (m : Nat) (r : List Fr) (c : List Int) (K : List (List Int)) (w : Nat) : List (List Int) := if fitB m r (incC c w) then insL K (incC c w) else K
end PL
namespace PL
open PySem L2
section
variable {Γ : Fe} {m : Nat}
end
end PL
namespace PL
open PySem L2
section
variable {Γ : Fe} {m : Nat} {R : List (List Fr)}
variable {om ft : Nat}
end
end PL
namespace PL
open PySem L2
section
variable {Γ : Fe} {m : Nat} {R : List (List Fr)} {N : Nat}
end
end PL
namespace PL
open PySem L2
section
variable {Γ : Fe} {m : Nat} {R : List (List Fr)} {N : Nat}
theorem z_len : (zc m).length = m := by simp [zc]
variable {cn wo mn om ck tn : Nat} {pl bd : D} {cc : Nat} {ks : List Nat} {vs : List D}
end
end PL
namespace PL
open PySem L2
section
variable {Γ : Fe} {m : Nat} {R : List (List Fr)} {N : Nat}
variable {cn wo mn om ck tn cw : Nat} {pl bd : D} {cc : Nat} {ks : List Nat} {vs : List D}
end
end PL
namespace PL
open PySem L2
section
variable {Γ : Fe} {m : Nat} {R : List (List Fr)} {N : Nat}
variable {b : Bd} {T : List (List Fr)} {W : Int} {N2 : Nat → Nat → Int}
end
end PL
namespace PL
open PySem L2
section
variable {Γ : Fe} {m : Nat} {R : List (List Fr)} {N : Nat}
variable {cn wo mn om ck tn cw hm nu ra cr lg lk w : Nat} {pl bd row : D} {cc : Nat} {ks : List Nat} {vs : List D} {x : Exn}
end
end PL
namespace PL
open PySem L2
section
variable (Γ : Fe) (δ : Ev)
@[simp] theorem ev_hof (f : Nat) (a : Ex) (js : List Nat) (b : Ex) : evE Γ (.hof f a js b) δ = (evE Γ a δ).bind fun x => Γ.hf f x (one1 fun d => evE Γ b (lamEv d js δ)) := by first | rfl | rw [evE]
@[simp] theorem ev_dctl (es : List Ex) : evE Γ (.dctl es) δ = (evL Γ es δ).bind dctlD := by first | rfl | rw [evE]
end
def leP (p q : Fr) : Prop := p.1 * q.2 ≤ q.1 * p.2
theorem leP_refl (p : Fr) : leP p p := Int.le_refl _
theorem leP_trans {p q r : Fr} (hp : 0 < p.2) (hq : 0 < q.2) (hr : 0 < r.2) (h : leP p q) (k : leP q r) : leP p r := by
  unfold leP at *
  have a := Int.mul_le_mul_of_nonneg_right h (Int.le_of_lt hr)
  have b := Int.mul_le_mul_of_nonneg_right k (Int.le_of_lt hp)
  have c : p.1 * r.2 * q.2 ≤ r.1 * p.2 * q.2 := by
    calc p.1 * r.2 * q.2 = p.1 * q.2 * r.2 := by ac_rfl
      _ ≤ q.1 * p.2 * r.2 := a
      _ = q.1 * r.2 * p.2 := by ac_rfl
      _ ≤ r.1 * q.2 * p.2 := b
      _ = r.1 * p.2 * q.2 := by ac_rfl
  exact Int.le_of_mul_le_mul_right c hq
/-- two rising lists on the way to one -/
structure MI (xs ys : List Fr) (i a : Nat) (F : List Fr) : Prop where
  al : a ≤ ys.length
  pm : F.Perm (xs.take i ++ ys.take a)
  so : F.Pairwise leP
  le : ∀ f ∈ F, ∀ z ∈ xs.drop i ++ ys.drop a, leP f z
section
variable {xs ys F : List Fr} {i a : Nat}
theorem MI.zero (xs ys : List Fr) : MI xs ys 0 0 [] := ⟨Nat.zero_le _, List.Perm.refl _, List.Pairwise.nil, fun _ h => nomatch h⟩
theorem drop_split {l : List Fr} {k : Nat} (h : k < l.length) : l.drop k = l[k] :: l.drop (k + 1) := List.drop_eq_getElem_cons h
theorem sorted_head {l : List Fr} (s : l.Pairwise leP) {k : Nat} (h : k < l.length) : ∀ z ∈ l.drop (k + 1), leP l[k] z := by
  have := s.sublist (List.drop_sublist k l)
  rw [drop_split h] at this
  exact (List.pairwise_cons.mp this).1
theorem MI.y (h : MI xs ys i a F) (px : ∀ p ∈ xs, 0 < p.2) (py : ∀ p ∈ ys, 0 < p.2) (sx : xs.Pairwise leP) (sy : ys.Pairwise leP) (hi : i < xs.length) (ha : a < ys.length) (l : leP ys[a] xs[i]) : MI xs ys i (a + 1) (F ++ [ys[a]]) := by
  have ym : ys[a] ∈ ys := List.getElem_mem _
  have xm : xs[i] ∈ xs := List.getElem_mem _
  refine ⟨ha, ?_, ?_, fun f hf z hz => ?_⟩
  · rw [← List.take_append_getElem ha, ← List.append_assoc]
    exact h.pm.append_right _
  · refine List.pairwise_append.mpr ⟨h.so, List.pairwise_singleton _ _, fun f hf z hz => ?_⟩
    rw [List.mem_singleton] at hz
    subst hz
    exact h.le f hf _ (List.mem_append_right _ (by rw [drop_split ha]; exact List.mem_cons_self))
  · have sub : z ∈ xs.drop i ++ ys.drop a := by
      rcases List.mem_append.mp hz with q | q
      · exact List.mem_append_left _ q
      · exact List.mem_append_right _ (by rw [drop_split ha]; exact List.mem_cons_of_mem _ q)
    rcases List.mem_append.mp hf with hf | hf
    · exact h.le f hf z sub
    · rw [List.mem_singleton] at hf
      subst hf
      rcases List.mem_append.mp hz with q | q
      · rw [drop_split hi] at q
        rcases List.mem_cons.mp q with rfl | q2
        · exact l
        · exact leP_trans (py _ ym) (px _ xm) (px _ (List.mem_of_mem_drop q2)) l (sorted_head sx hi z q2)
      · exact sorted_head sy ha z q
theorem MI.x (h : MI xs ys i a F) (px : ∀ p ∈ xs, 0 < p.2) (py : ∀ p ∈ ys, 0 < p.2) (sx : xs.Pairwise leP) (sy : ys.Pairwise leP) (hi : i < xs.length) (l : ∀ ha : a < ys.length, leP xs[i] ys[a]) : MI xs ys (i + 1) a (F ++ [xs[i]]) := by
  have xm : xs[i] ∈ xs := List.getElem_mem _
  refine ⟨h.al, ?_, ?_, fun f hf z hz => ?_⟩
  · rw [← List.take_append_getElem hi, List.append_assoc]
    refine (h.pm.append_right _).trans ?_
    rw [List.append_assoc]
    exact List.Perm.append_left _ List.perm_append_comm
  · refine List.pairwise_append.mpr ⟨h.so, List.pairwise_singleton _ _, fun f hf z hz => ?_⟩
    rw [List.mem_singleton] at hz
    subst hz
    exact h.le f hf _ (List.mem_append_left _ (by rw [drop_split hi]; exact List.mem_cons_self))
  · have sub : z ∈ xs.drop i ++ ys.drop a := by
      rcases List.mem_append.mp hz with q | q
      · exact List.mem_append_left _ (by rw [drop_split hi]; exact List.mem_cons_of_mem _ q)
      · exact List.mem_append_right _ q
    rcases List.mem_append.mp hf with hf | hf
    · exact h.le f hf z sub
    · rw [List.mem_singleton] at hf
      subst hf
      rcases List.mem_append.mp hz with q | q
      · exact sorted_head sx hi z q
      · rcases Nat.lt_or_ge a ys.length with ha | ha
        · have ym : ys[a] ∈ ys := List.getElem_mem _
          rw [drop_split ha] at q
          rcases List.mem_cons.mp q with rfl | q2
          · exact l ha
          · exact leP_trans (px _ xm) (py _ ym) (py _ (List.mem_of_mem_drop q2)) (l ha) (sorted_head sy ha z q2)
        · rw [List.drop_eq_nil_of_le ha] at q
          cases q
theorem MI.done (h : MI xs ys xs.length a F) (sy : ys.Pairwise leP) : (F ++ ys.drop a).Perm (xs ++ ys) ∧ (F ++ ys.drop a).Pairwise leP := by
  refine ⟨?_, List.pairwise_append.mpr ⟨h.so, sy.sublist (List.drop_sublist _ _), fun f hf z hz => h.le f hf z (List.mem_append_right _ hz)⟩⟩
  have := h.pm.append_right (ys.drop a)
  rwa [List.take_length, List.append_assoc, List.take_append_drop] at this
theorem MI.len (h : MI xs ys i a F) : F.length ≤ xs.length + ys.length := by
  have := h.pm.length_eq
  rw [List.length_append, List.length_take, List.length_take] at this
  omega
end
section
variable {Γ : Fe}
end
end PL
namespace PL
open PySem L2
section
variable {Γ : Fe}
def cA (w : Int) (d : Fr) : Fr := ((w - 1) * d.2 + d.1.fmod d.2, d.2)
def cB (w : Int) (d : Fr) : Fr := (w * d.2 - d.1.fmod d.2, d.2)
def Cand (w : Int) (X : List Fr) (c : Fr) : Prop := c = (w, 1) ∨ ∃ d ∈ X, d.1.fmod d.2 ≠ 0 ∧ (c = cA w d ∨ c = cB w d)
theorem part_eq {d : Fr} : (d.1.fmod d.2, d.2) = lagP d (d.1.fdiv d.2) := by
  unfold lagP
  have := Int.mul_fdiv_add_fmod d.1 d.2
  rw [Int.mul_comm] at this
  refine Prod.ext ?_ rfl
  show d.1.fmod d.2 = d.1 - d.1.fdiv d.2 * d.2
  omega
theorem part_gcd {d : Fr} (h : Int.gcd d.1 d.2 = 1) : Int.gcd (d.1.fmod d.2) d.2 = 1 := by
  have := lagP_gcd (d.1.fdiv d.2) h
  rw [← part_eq] at this
  exact this
theorem cA_gcd {w : Int} {d : Fr} (h : Int.gcd d.1 d.2 = 1) : Int.gcd (cA w d).1 (cA w d).2 = 1 := by
  have := lagP_gcd (p := (d.1.fmod d.2, d.2)) (-(w - 1)) (part_gcd h)
  unfold lagP at this
  unfold cA
  dsimp only at this ⊢
  rwa [show (w - 1) * d.2 + d.1.fmod d.2 = d.1.fmod d.2 - -(w - 1) * d.2 by rw [Int.neg_mul]; omega]
theorem cB_gcd {w : Int} {d : Fr} (h : Int.gcd d.1 d.2 = 1) : Int.gcd (cB w d).1 (cB w d).2 = 1 := by
  have := lagP_gcd (p := (d.1.fmod d.2, d.2)) w (part_gcd h)
  unfold lagP at this
  unfold cB
  dsimp only at this ⊢
  rwa [show w * d.2 - d.1.fmod d.2 = -(d.1.fmod d.2 - w * d.2) by omega, Int.neg_gcd]
theorem part_rng {d : Fr} (h : 0 < d.2) : 0 ≤ d.1.fmod d.2 ∧ d.1.fmod d.2 < d.2 := ⟨Int.fmod_nonneg_of_pos _ h, Int.fmod_lt_of_pos _ h⟩
theorem natAbs_le_of {a b : Int} (h1 : -b ≤ a) (h2 : a ≤ b) : (a.natAbs : Int) ≤ b := by omega
theorem wb_mul {w b : Int} (w0 : 0 ≤ w) (w1 : w ≤ 300) (b0 : 0 ≤ b) : 0 ≤ w * b ∧ w * b ≤ 300 * b := ⟨Int.mul_nonneg w0 b0, Int.mul_le_mul_of_nonneg_right w1 b0⟩
theorem cA_fb {w : Int} (w0 : 0 ≤ w) (w1 : w ≤ 300) {d : Fr} (F : FB (10 ^ 40) d) : FB (10 ^ 44) (cA w d) := by
  have r := part_rng F.pos
  have q := wb_mul w0 w1 (Int.le_of_lt F.pos)
  have l := F.low
  have e : (w - 1) * d.2 = w * d.2 - d.2 := by rw [Int.sub_mul, Int.one_mul]
  refine ⟨F.pos, natAbs_le_of ?_ ?_, by show d.2 ≤ _; omega, cA_gcd F.one⟩
  · show -(10 ^ 44) ≤ (w - 1) * d.2 + d.1.fmod d.2
    rw [e]
    omega
  · show (w - 1) * d.2 + d.1.fmod d.2 ≤ 10 ^ 44
    rw [e]
    omega
theorem cB_fb {w : Int} (w0 : 0 ≤ w) (w1 : w ≤ 300) {d : Fr} (F : FB (10 ^ 40) d) : FB (10 ^ 44) (cB w d) := by
  have r := part_rng F.pos
  have q := wb_mul w0 w1 (Int.le_of_lt F.pos)
  have l := F.low
  refine ⟨F.pos, natAbs_le_of ?_ ?_, by show d.2 ≤ _; omega, cB_gcd F.one⟩
  · show -(10 ^ 44) ≤ w * d.2 - d.1.fmod d.2
    omega
  · show w * d.2 - d.1.fmod d.2 ≤ 10 ^ 44
    omega
theorem one_fb {w : Int} (h : w.natAbs ≤ 1000) : FB (10 ^ 44) (w, 1) := ⟨by show (0 : Int) < 1; decide, by show (w.natAbs : Int) ≤ _; omega, by show (1 : Int) ≤ _; decide, by show Int.gcd w 1 = 1; exact Int.gcd_one_right _⟩
theorem Cand.fb {w : Int} (w0 : 0 ≤ w) (w1 : w ≤ 300) {X : List Fr} (hX : ∀ d ∈ X, FB (10 ^ 40) d) {c : Fr} (h : Cand w X c) : FB (10 ^ 44) c := by
  rcases h with rfl | ⟨d, hd, _, rfl | rfl⟩
  · exact one_fb (by omega)
  · exact cA_fb w0 w1 (hX d hd)
  · exact cB_fb w0 w1 (hX d hd)
theorem FB.lb {B : Int} {p : Fr} (F : FB B p) (h : B ≤ 10 ^ 45) : LB p := ⟨F.pos, Int.le_trans F.low h, by have := F.top; omega⟩
end
end PL
namespace PL
open PySem L2
section
variable {b : Bd} {m M : Nat} {s : Sps} {row : List Int} {T : List (List Fr)} {W : Int} {N : Nat → Nat → Int}
/-- how many turns are left -/
def lefK (T : List (List Fr)) (row : List Int) : Nat := T.length - row.length - 1
def lagA (m : Nat) (T : List (List Fr)) (row : List Int) (r : List Nat) (j w : Nat) : Fr := lagP (dueF T (row.length + j) w) (cn (tallyF m row) r j w)
/-- a row that goes on -/
structure GoR (m : Nat) (T : List (List Fr)) (row : List Int) (r : List Nat) : Prop where
  len : r.length = lefK T row
  wi : ∀ x ∈ r, x < m
/-- .. and keeps the bound -/
def KB (b : Bd) (m : Nat) (T : List (List Fr)) (row : List Int) (r : List Nat) : Prop := ∀ j, 1 ≤ j → j ≤ lefK T row → ∀ w, w < m → keepsP b (lagA m T row r j w) = true
theorem cn_ge (st : List Int) (r : List Nat) (j w : Nat) : st.getD w 0 ≤ cn st r j w := by
  unfold cn
  omega
theorem cn_nn {r : List Nat} {j w : Nat} (hw : w < m) : 0 ≤ cn (tallyF m row) r j w := by
  have := cn_ge (tallyF m row) r j w
  rw [tally_get hw] at this
  omega
theorem KB.rng (h : DuT m T W N) (B : BdOk b) (hl : row.length < T.length) {r : List Nat} (g : GoR m T row r) (k : KB b m T row r) : ∀ j, j ≤ r.length → ∀ w, w < m → lo (begF b m T row) j w ≤ cn (tallyF m row) r j w ∧ cn (tallyF m row) r j w ≤ hi (begF b m T row) j w := by
  intro j hj w hw
  have gl := g.len
  unfold lefK at gl
  cases j with
  | zero => rw [lo_beg0 hw, hi_beg0 hw, cn_zero, tally_get hw]; exact ⟨Int.le_refl _, Int.le_refl _⟩
  | succ j =>
    have il : row.length + (j + 1) < T.length := by omega
    rw [lo_beg (by omega) il hw, hi_beg (by omega) il hw]
    have q := k (j + 1) (by omega) (by unfold lefK; omega) w hw
    unfold lagA at q
    rw [keeps_rng B (h.fb _ w il hw) (h.nn _ w il hw) (cn_nn hw), Bool.and_eq_true, decide_eq_true_eq, decide_eq_true_eq] at q
    refine ⟨?_, q.2⟩
    have c := cn_ge (tallyF m row) r (j + 1) w
    rw [tally_get hw] at c
    have q1 := q.1
    unfold mxI
    split <;> assumption
theorem bd_one {w : Int} (w0 : 0 ≤ w) (w1 : w ≤ 300) (o : Bool) : BdOk ((w, 1), o) := by
  have F := one_fb (w := w) (by omega)
  exact ⟨⟨F.pos, Int.le_trans F.top (by decide), Int.le_trans F.low (by decide), F.one⟩, w0, by show w ≤ 300 * 1; omega⟩
end
end PL
namespace PL
open PySem L2
section
variable {Γ : Fe}
@[simp] theorem ev_ixo (Γ : Fe) (δ : Ev) (a : Ex) (k : Int) : evE Γ (.ixo a k) δ = ixoD k (evE Γ a δ) := by first | rfl | rw [evE]
@[simp] theorem ex_mv (Γ : Fe) (ρ : En) (tg : List Nat) (j : Nat) : exS Γ (.mv tg j) ρ = mvS tg j ρ := by rw [exS]
variable {m M : Nat} {s : Sps} {row : List Int}
end
end PL
namespace PL
open PySem L2
section
variable {Γ : Fe}
end
end PL
namespace PL
open PySem PySem.Spec L2 PyProof.Rows
section
variable {g : G} {xg : XG} {Γ : Fe} {P : Program} {w : World} {K : PySem.W.Frag} {mg : Str → Option Value} {base : Heap} {kl : Nat}
end
end PL
namespace PL
open PySem L2
section
variable {b : Bd} {m M : Nat} {s : Sps} {T : List (List Fr)} {W : Int} {N : Nat → Nat → Int}
/-- the parts of one -/
def Part1 (X : List Fr) (c : Fr) : Prop := c = (0, 1) ∨ c = (1, 1) ∨ ∃ d ∈ X, c = cA 1 d ∨ c = cB 1 d
theorem Part1.bd {X : List Fr} (hX : ∀ d ∈ X, FB (10 ^ 40) d) {c : Fr} (h : Part1 X c) (o : Bool) : BdOk (c, o) ∧ leP c (1, 1) := by
  rcases h with rfl | rfl | ⟨d, hd, rfl | rfl⟩
  · exact ⟨bd_one (by decide) (by decide) o, by show (0 : Int) * 1 ≤ 1 * 1; decide⟩
  · exact ⟨bd_one (by decide) (by decide) o, leP_refl _⟩
  · have D := hX d hd
    have F := cA_fb (w := 1) (by decide) (by decide) D
    have r := part_rng D.pos
    have e : (cA 1 d).1 = d.1.fmod d.2 := by
      show (1 - 1) * d.2 + d.1.fmod d.2 = _
      rw [Int.sub_self, Int.zero_mul, Int.zero_add]
    refine ⟨⟨⟨F.pos, Int.le_trans F.top (by decide), Int.le_trans F.low (by decide), F.one⟩, by show 0 ≤ (cA 1 d).1; rw [e]; exact r.1, ?_⟩, ?_⟩
    · show (cA 1 d).1 ≤ 300 * d.2
      rw [e]
      omega
    · show (cA 1 d).1 * 1 ≤ 1 * d.2
      rw [e]
      omega
  · have D := hX d hd
    have F := cB_fb (w := 1) (by decide) (by decide) D
    have r := part_rng D.pos
    have e : (cB 1 d).1 = d.2 - d.1.fmod d.2 := by
      show 1 * d.2 - d.1.fmod d.2 = _
      rw [Int.one_mul]
    refine ⟨⟨⟨F.pos, Int.le_trans F.top (by decide), Int.le_trans F.low (by decide), F.one⟩, by show 0 ≤ (cB 1 d).1; rw [e]; omega, ?_⟩, ?_⟩
    · show (cB 1 d).1 ≤ 300 * d.2
      rw [e]
      omega
    · show (cB 1 d).1 * 1 ≤ 1 * d.2
      rw [e]
      omega
end
end PL
namespace PL
open PySem L2
section
variable {Γ : Fe} {m M : Nat} {s : Sps} {row : List Int}
end
end PL
namespace PL
open PySem L2
section
variable {Γ : Fe}
end
end PL
namespace PL
open PySem L2
section
variable {m : Nat} {T : List (List Fr)} {W : Int} {N : Nat → Nat → Int}
end
end PL
namespace PL
open PySem L2
section
variable {Γ : Fe} {m M : Nat} {s : Sps}
end
end PL
namespace PL
open PySem L2
section
variable {Γ : Fe} {m M : Nat} {s : Sps} {T : List (List Fr)} {W : Int} {N : Nat → Nat → Int}
def scS (c : Int) (s : Sps) : Sps := s.map fun p => (p.1, p.2.map fun w => w * c)
theorem sum_sc (c : Int) : ∀ l : List Int, (l.map fun w => w * c).sum = l.sum * c
  | [] => by simp
  | x :: l => by rw [List.map_cons, List.sum_cons, List.sum_cons, sum_sc c l, Int.add_mul]
theorem SpsOk.sc (S : SpsOk m M s) {c : Int} (hc : 0 < c) (h : ∀ p ∈ s, ∀ w ∈ p.2, w * c ≤ 1000) : SpsOk m M (scS c s) := by
  refine ⟨by unfold scS; rw [List.length_map]; exact S.ne, by unfold scS; rw [List.length_map]; exact S.le, S.m1, S.m6, fun p hp => ?_, ?_⟩
  · obtain ⟨q, hq, rfl⟩ := List.mem_map.mp hp
    have P := S.sp q hq
    refine ⟨P.t1, P.t2, by show (q.2.map _).length = m; rw [List.length_map]; exact P.len, fun x hx => ?_, by show 0 < (q.2.map _).sum; rw [sum_sc]; exact Int.mul_pos P.pos hc⟩
    obtain ⟨w, hw, rfl⟩ := List.mem_map.mp hx
    exact ⟨Int.mul_nonneg (P.w w hw).1 (Int.le_of_lt hc), h q hq w hw⟩
  · unfold scS
    rw [List.map_map]
    exact S.all
end
end PL
namespace PL
open PySem L2
section
variable {b : Bd} {m : Nat} {T : List (List Fr)} {W : Int} {N : Nat → Nat → Int}
/-- a whole row that is kept -/
structure Kep (b : Bd) (m : Nat) (T : List (List Fr)) (r : List Nat) : Prop where
  len : r.length = T.length - 1
  wi : ∀ x ∈ r, x < m
  all : AllK b m T r 0
end
end PL
namespace PL
open PySem L2
section
variable {Γ : Fe} {b : Bd} {m M : Nat} {s : Sps} {row : List Int} {T : List (List Fr)} {W : Int} {N : Nat → Nat → Int}
end
end PL
namespace PL
open PySem L2
section
variable {Γ : Fe} {m M : Nat} {s : Sps} {T : List (List Fr)} {W : Int} {N : Nat → Nat → Int}
def cutS : Nat → Sps → Sps
  | _, [] => []
  | l, p :: s => if 0 < l then (min p.1 l, p.2) :: cutS (l - p.1) s else []
theorem cutS_mem : ∀ {s : Sps} {l : Nat} {q : Nat × List Int}, q ∈ cutS l s → ∃ p ∈ s, q.2 = p.2 ∧ (1 ≤ p.1 → 1 ≤ q.1) ∧ q.1 ≤ p.1
  | [], _, _, h => by cases h
  | p :: s, l, q, h => by
    unfold cutS at h
    split at h
    · rcases List.mem_cons.mp h with rfl | h
      · exact ⟨p, List.mem_cons_self, rfl, fun _ => by show 1 ≤ min p.1 l; omega, Nat.min_le_left _ _⟩
      · obtain ⟨p', h1, h2⟩ := cutS_mem h
        exact ⟨p', List.mem_cons_of_mem _ h1, h2⟩
    · cases h
theorem cutS_len : ∀ (s : Sps) (l : Nat), (cutS l s).length ≤ s.length
  | [], _ => Nat.le_refl _
  | p :: s, l => by
    unfold cutS
    split
    · rw [List.length_cons, List.length_cons]
      exact Nat.succ_le_succ (cutS_len s _)
    · exact Nat.zero_le _
theorem cutS_sum : ∀ (s : Sps) (l : Nat), ((cutS l s).map Prod.fst).sum = min l ((s.map Prod.fst).sum)
  | [], l => by simp [cutS]
  | p :: s, l => by
    unfold cutS
    split
    · rw [List.map_cons, List.sum_cons, List.map_cons, List.sum_cons, cutS_sum s]
      show min p.1 l + _ = _
      omega
    · have : l = 0 := by omega
      subst this
      simp
theorem SpsOk.cut (S : SpsOk m M s) {l : Nat} (l1 : 1 ≤ l) : SpsOk m M (cutS l s) := by
  have sn := S.ne
  refine ⟨?_, Nat.le_trans (cutS_len s l) S.le, S.m1, S.m6, fun q hq => ?_, ?_⟩
  · cases s with
    | nil => simp at sn
    | cons p s => unfold cutS; rw [if_pos (by omega)]; simp
  · obtain ⟨p, hp, e, h1, h2⟩ := cutS_mem hq
    have P := S.sp p hp
    exact ⟨h1 P.t1, Nat.le_trans h2 P.t2, by rw [e]; exact P.len, by rw [e]; exact P.w, by rw [e]; exact P.pos⟩
  · rw [cutS_sum]
    exact Nat.le_trans (Nat.min_le_right _ _) S.all
end
end PL
namespace PL
open PySem L2
section
variable {b b' : Bd} {m : Nat} {T : List (List Fr)} {W : Int} {N : Nat → Nat → Int} {p q : Fr} {r : List Nat} {e : Bool × Nat × Nat}
section
variable (pp : 0 < p.2) (p0 : 0 ≤ p.1) (p1 : p.1 < p.2) (pl : p.2 ≤ 10 ^ 40) {o : Int} (o2 : 2 ≤ o) (ob : o ≤ 1002)
include pp p0 p1 pl o2 ob
end
theorem Kep.kept (h : DuT m T W N) (B : BdOk b) {r : List Nat} (K : Kep b m T r) : ∃ q, keptF b m T = .ok q := (kept_of h B K.len K.wi K.all).1
end
end PL
namespace PL
open PySem L2
section
variable {b : Bd} {m : Nat} {T : List (List Fr)} {W : Int} {N : Nat → Nat → Int} {row : List Int}
end
end PL
namespace PL
open PySem L2
def grw (ws : List Int) (k : Int) (as : List Int) : List Int := (List.range as.length).map fun i => as.getD i 0 + ws.getD i 0 * k
def crI (g : List Int) : Nat → Nat
  | 0 => 0
  | k + 1 => if g.getD (crI g k) 0 < g.getD (k + 1) 0 then k + 1 else crI g k
def chI (g : List Int) : Nat := crI g (g.length - 1)
def stpA (N : Int) (g : List Int) : List Int := g.set (chI g) (g.getD (chI g) 0 - N)
structure Crd (m : Nat) (N : Int) (as : List Int) : Prop where
  len : as.length = m
  pos : 0 < N
  sum : as.sum = 0
  low : ∀ a ∈ as, -N < a
theorem crI_le (g : List Int) : ∀ k, crI g k ≤ k
  | 0 => Nat.le_refl 0
  | k + 1 => by
    have := crI_le g k
    unfold crI
    split <;> omega
theorem crI_max (g : List Int) : ∀ k i, i ≤ k → g.getD i 0 ≤ g.getD (crI g k) 0
  | 0, i, h => by
    obtain rfl : i = 0 := by omega
    exact Int.le_refl _
  | k + 1, i, h => by
    have ih := crI_max g k
    unfold crI
    rcases Nat.lt_or_ge i (k + 1) with y | y
    · have := ih i (by omega)
      split <;> omega
    · obtain rfl : i = k + 1 := by omega
      split
      · exact Int.le_refl _
      · omega
theorem sum_setZ : ∀ {l : List Int} {i : Nat} {x : Int}, i < l.length → (l.set i x).sum = l.sum - l.getD i 0 + x
  | [], i, x, h => by simp at h
  | y :: l, 0, x, h => by
    rw [List.set_cons_zero, List.sum_cons, List.sum_cons]
    simp only [List.getD_cons_zero]
    omega
  | y :: l, i + 1, x, h => by
    rw [List.set_cons_succ, List.sum_cons, List.sum_cons, sum_setZ (by simpa using h)]
    simp only [List.getD_cons_succ]
    omega
theorem sum_le0 : ∀ l : List Int, (∀ x ∈ l, x ≤ 0) → l.sum ≤ 0
  | [], _ => Int.le_refl _
  | x :: l, h => by
    have a := h x List.mem_cons_self
    have b := sum_le0 l fun y hy => h y (List.mem_cons_of_mem _ hy)
    rw [List.sum_cons]
    omega
theorem sum_gtN (N : Int) : ∀ l : List Int, l ≠ [] → (∀ x ∈ l, -N < x) → -((l.length : Int) * N) < l.sum
  | [], h, _ => absurd rfl h
  | [x], _, h => by
    have := h x List.mem_cons_self
    simp
    omega
  | x :: y :: l, _, h => by
    have a := h x List.mem_cons_self
    have b := sum_gtN N (y :: l) (by simp) fun z hz => h z (List.mem_cons_of_mem _ hz)
    rw [List.sum_cons, List.length_cons, Int.natCast_add, Int.add_mul]
    generalize ((y :: l).length : Int) * N = q at *
    omega
theorem grw_len (ws : List Int) (k : Int) (as : List Int) : (grw ws k as).length = as.length := by simp [grw]
theorem grw_at (ws : List Int) (k : Int) {as : List Int} {i : Nat} (h : i < as.length) : (grw ws k as).getD i 0 = as.getD i 0 + ws.getD i 0 * k := by
  simp [grw, List.getD_eq_getElem?_getD, h]
theorem grw_zip (ws : List Int) (k : Int) (as : List Int) (h : ws.length = as.length) : grw ws k as = List.zipWith (fun a w => a + w * k) as ws := by
  refine List.ext_getElem (by simp [grw, h]) fun i h1 h2 => ?_
  rw [grw_len] at h1
  simp [grw, List.getD_eq_getElem?_getD, h1, show i < ws.length by omega]
theorem zip_sum (k : Int) : ∀ (as ws : List Int), ws.length = as.length → (List.zipWith (fun a w => a + w * k) as ws).sum = as.sum + ws.sum * k
  | [], [], _ => by simp
  | [], _ :: _, h => by simp at h
  | _ :: _, [], h => by simp at h
  | a :: as, w :: ws, h => by
    have := zip_sum k as ws (by simpa using h)
    rw [List.zipWith_cons_cons, List.sum_cons, List.sum_cons, List.sum_cons, this, Int.add_mul]
    omega
theorem grw_sum (ws : List Int) (k : Int) (as : List Int) (h : ws.length = as.length) : (grw ws k as).sum = as.sum + ws.sum * k := by
  rw [grw_zip ws k as h, zip_sum k as ws h]
variable {m : Nat} {N k : Int} {as ws : List Int}
theorem chI_lt {g : List Int} (h : 0 < g.length) : chI g < g.length := by
  have := crI_le g (g.length - 1)
  unfold chI
  omega
theorem Crd.step (C : Crd m N as) (m1 : 1 ≤ m) (hw : ws.length = m) (w0 : ∀ w ∈ ws, 0 ≤ w) (k0 : 0 ≤ k) (hs : ws.sum * k = N) : Crd m N (stpA N (grw ws k as)) := by
  have gl := grw_len ws k as
  have al := C.len
  have gs := grw_sum ws k as (by omega)
  rw [C.sum, Int.zero_add, hs] at gs
  have ga := fun i (h : i < m) => grw_at ws k (as := as) (i := i) (by omega)
  have cl := chI_lt (g := grw ws k as) (by omega)
  have mx := crI_max (grw ws k as) ((grw ws k as).length - 1)
  have wk : ∀ i, 0 ≤ ws.getD i 0 * k := fun i => by
    refine Int.mul_nonneg ?_ k0
    rw [List.getD_eq_getElem?_getD]
    rcases Nat.lt_or_ge i ws.length with h | h
    · rw [List.getElem?_eq_getElem h]; exact w0 _ (List.getElem_mem h)
    · rw [List.getElem?_eq_none h]; exact Int.le_refl _
  have low : ∀ i, i < m → -N < (grw ws k as).getD i 0 := fun i hi => by
    rw [ga i hi]
    have a := C.low (as.getD i 0) (by rw [List.getD_eq_getElem?_getD, List.getElem?_eq_getElem (by omega)]; exact List.getElem_mem _)
    have b := wk i
    omega
  change ∀ i, i ≤ (grw ws k as).length - 1 → (grw ws k as).getD i 0 ≤ (grw ws k as).getD (chI (grw ws k as)) 0 at mx
  generalize grw ws k as = g at *
  have pos : 0 < g.getD (chI g) 0 := by
    rcases Int.lt_or_le 0 (g.getD (chI g) 0) with h | h
    · exact h
    · have := sum_le0 g fun x hx => by
        obtain ⟨i, hi, rfl⟩ := List.mem_iff_getElem.mp hx
        have q := mx i (by omega)
        rw [List.getD_eq_getElem?_getD, List.getElem?_eq_getElem hi] at q
        exact Int.le_trans q h
      have := C.pos
      omega
  unfold stpA
  refine ⟨by rw [List.length_set]; omega, C.pos, by rw [sum_setZ cl]; omega, fun a ha => ?_⟩
  rcases List.mem_or_eq_of_mem_set ha with h | h
  · obtain ⟨i, hi, rfl⟩ := List.mem_iff_getElem.mp h
    have := low i (by omega)
    rwa [List.getD_eq_getElem?_getD, List.getElem?_eq_getElem hi] at this
  · have := C.pos
    omega
theorem Crd.up (C : Crd m N as) (m2 : 2 ≤ m) : ∀ a ∈ as, a < ((m : Int) - 1) * N := fun a ha => by
  obtain ⟨i, hi, rfl⟩ := List.mem_iff_getElem.mp ha
  have al := C.len
  have e : as = as.take i ++ as[i] :: as.drop (i + 1) := by rw [← List.drop_eq_getElem_cons hi, List.take_append_drop]
  have s := C.sum
  rw [e, List.sum_append, List.sum_cons] at s
  have l : (as.take i ++ as.drop (i + 1)).length = m - 1 := by
    rw [List.length_append, List.length_take, List.length_drop]
    omega
  have g := sum_gtN N (as.take i ++ as.drop (i + 1)) (fun z => by rw [z] at l; simp at l; omega) fun x hx => by
    rcases List.mem_append.mp hx with h | h
    · exact C.low x (List.mem_of_mem_take h)
    · exact C.low x (List.mem_of_mem_drop h)
  rw [l, List.sum_append, show ((m - 1 : Nat) : Int) = (m : Int) - 1 by omega] at g
  generalize ((m : Int) - 1) * N = q at *
  omega
theorem Crd.one (C : Crd 1 N as) : as = [0] := by
  have l := C.len
  have s := C.sum
  match as, l with
  | [a], _ =>
    rw [List.sum_cons, List.sum_nil] at s
    have : a = 0 := by omega
    rw [this]
theorem Crd.abs (C : Crd m N as) (m6 : m ≤ 6) : ∀ a ∈ as, (a.natAbs : Int) ≤ 6 * N := fun a ha => by
  have lo := C.low a ha
  have p := C.pos
  rcases Nat.lt_or_ge m 2 with h | h
  · rcases (by omega : m = 0 ∨ m = 1) with rfl | rfl
    · have := List.length_eq_zero_iff.mp C.len
      rw [this] at ha
      cases ha
    · rw [C.one] at ha
      have : a = 0 := by simpa using ha
      omega
  · have up := C.up h a ha
    have : ((m : Int) - 1) * N ≤ 5 * N := Int.mul_le_mul_of_nonneg_right (by omega) (by omega)
    omega
end PL
namespace PL
open PySem L2
section
variable {Γ : Fe} {pl md le mi f0 c : Nat} {m : Nat} {N k : Int} {as ws : List Int}
end
end PL
namespace PL
open PySem L2
section
variable {Γ : Fe}
end
end PL
namespace PL
open PySem L2
theorem nd_le {α : Type} [DecidableEq α] : ∀ (l L : List α), l.Nodup → (∀ x ∈ l, x ∈ L) → l.length ≤ L.length
  | [], _, _, _ => Nat.zero_le _
  | x :: l, L, nd, h => by
    obtain ⟨n1, n2⟩ := List.nodup_cons.mp nd
    have hx := h x List.mem_cons_self
    have ih := nd_le l (L.erase x) n2 fun y hy => (List.mem_erase_of_ne (fun e => n1 (by rw [← e]; exact hy))).mpr (h y (List.mem_cons_of_mem _ hy))
    rw [List.length_erase_of_mem hx] at ih
    have := List.length_pos_of_mem hx
    rw [List.length_cons]
    omega
section
variable {m : Nat} {rs : List (Sen × Nat)}
theorem lvF_mem : ∀ (k : Nat) (p : List Int), p.length = k → Wi (m : Int) p → p ∈ lvF m k
  | 0, p, h, _ => by
    have := List.length_eq_zero_iff.mp h
    subst this
    simp [lvF]
  | k + 1, p, h, W => by
    have ne : p ≠ [] := fun e => by subst e; simp at h
    have e := List.dropLast_concat_getLast ne
    have hw := W (p.getLast ne) (List.getLast_mem ne)
    have ih := lvF_mem k p.dropLast (by rw [List.length_dropLast]; omega) fun x hx => W x (List.dropLast_subset _ hx)
    unfold lvF
    refine List.mem_flatMap.mpr ⟨p.dropLast, ih, ?_⟩
    unfold onwF
    refine List.mem_map.mpr ⟨(p.getLast ne).toNat, List.mem_range.mpr (by omega), ?_⟩
    rw [show (((p.getLast ne).toNat : Nat) : Int) = p.getLast ne by omega, e]
theorem stF_mem : ∀ (k : Nat) (p : List Int), p.length ≤ k → Wi (m : Int) p → p ∈ stF m k
  | 0, p, h, _ => by
    have := List.length_eq_zero_iff.mp (Nat.le_zero.mp h)
    subst this
    simp [stF]
  | k + 1, p, h, W => by
    unfold stF
    rcases Nat.lt_or_ge k p.length with z | z
    · exact List.mem_append_right _ (lvF_mem (k + 1) p (by omega) W)
    · exact List.mem_append_left _ (stF_mem k p z W)
def g4 : Nat → Nat
  | 0 => 1
  | k + 1 => g4 k + 4 ^ (k + 1)
theorem stF_g4 (m4 : m ≤ 4) : ∀ k, (stF m k).length ≤ g4 k
  | 0 => Nat.le_refl _
  | k + 1 => by
    unfold stF g4
    rw [List.length_append, lvF_len]
    exact Nat.add_le_add (stF_g4 m4 k) (Nat.pow_le_pow_left m4 _)
theorem stF_1365 (m4 : m ≤ 4) {k : Nat} (k5 : k ≤ 5) : (stF m k).length ≤ 1365 := by
  refine Nat.le_trans (stF_g4 m4 k) ?_
  rcases (show k = 0 ∨ k = 1 ∨ k = 2 ∨ k = 3 ∨ k = 4 ∨ k = 5 by omega) with rfl | rfl | rfl | rfl | rfl | rfl <;> decide
theorem lastN_app {b : Nat} (h : 1 ≤ b) (x : List Int) (c : Int) : lastN b (x ++ [c]) = lastN (b - 1) x ++ [c] := by
  unfold lastN
  rw [List.length_append, List.length_singleton, show x.length + 1 - b = x.length - (b - 1) by omega, List.drop_append_of_le_length (by omega)]
theorem lastN_snoc (b : Nat) (p : List Int) (c : Int) : lastN b (lastN b p ++ [c]) = lastN b (p ++ [c]) := by
  by_cases h : b = 0
  · subst h
    simp [lastN]
  · rw [lastN_app (by omega), lastN_app (by omega), lastN_last (by omega)]
theorem lastN_wi {b : Nat} {p : List Int} {q : Int} (W : Wi q p) : Wi q (lastN b p) := W.drop _
theorem lastN_all {b : Nat} {p : List Int} (h : p.length ≤ b) : lastN b p = p := by
  unfold lastN
  rw [show p.length - b = 0 by omega, List.drop_zero]
/-- the stand behind a stand -/
def nxF (m : Nat) (rs : List (Sen × Nat)) (s : List Int) : List Int := lastN (brF m rs) (s ++ [((pkF m rs s : Nat) : Int)])
def stN (m : Nat) (rs : List (Sen × Nat)) (s : List Int) : Nat → List Int
  | 0 => s
  | k + 1 => nxF m rs (stN m rs s k)
/-- what is dealt behind a past, choice by choice -/
def dcF (m : Nat) (rs : List (Sen × Nat)) (p : List Int) (i : Nat) : Int := ((pkF m rs (stN m rs (lastN (brF m rs) p) i) : Nat) : Int)
def dlF (m : Nat) (rs : List (Sen × Nat)) (p : List Int) (k : Nat) : List Int := (List.range k).map (dcF m rs p)
theorem dlF_len (p : List Int) (k : Nat) : (dlF m rs p k).length = k := by simp [dlF]
theorem dlF_succ (p : List Int) (k : Nat) : dlF m rs p (k + 1) = dlF m rs p k ++ [dcF m rs p k] := by
  unfold dlF
  rw [List.range_succ, List.map_append]
  rfl
theorem pkF_lt (B : BkOk m rs) (p : List Int) : pkF m rs p < m := chF_lt B _ p
theorem nxF_ok (B : BkOk m rs) {s : List Int} (W : Wi (m : Int) s) : (nxF m rs s).length ≤ brF m rs ∧ Wi (m : Int) (nxF m rs s) := by
  unfold nxF
  have := pkF_lt B s
  exact ⟨by rw [lastN_len]; omega, lastN_wi (W.app fun x hx => by simp only [List.mem_singleton] at hx; omega)⟩
theorem stN_ok (B : BkOk m rs) {s : List Int} (hs : s.length ≤ brF m rs) (W : Wi (m : Int) s) : ∀ k, (stN m rs s k).length ≤ brF m rs ∧ Wi (m : Int) (stN m rs s k)
  | 0 => ⟨hs, W⟩
  | k + 1 => nxF_ok B (stN_ok B hs W k).2
theorem stN_add (s : List Int) (a : Nat) : ∀ b, stN m rs s (a + b) = stN m rs (stN m rs s a) b
  | 0 => rfl
  | b + 1 => by
    show nxF m rs (stN m rs s (a + b)) = nxF m rs _
    rw [stN_add s a b]
theorem dcF_wi (B : BkOk m rs) (p : List Int) (i : Nat) : 0 ≤ dcF m rs p i ∧ dcF m rs p i < m := by
  have := pkF_lt B (stN m rs (lastN (brF m rs) p) i)
  unfold dcF
  omega
theorem dlF_wi (B : BkOk m rs) (p : List Int) (k : Nat) : Wi (m : Int) (dlF m rs p k) := fun x hx => by
  obtain ⟨i, _, rfl⟩ := List.mem_map.mp hx
  exact dcF_wi B p i
theorem dlF_last (p : List Int) : ∀ k, lastN (brF m rs) (p ++ dlF m rs p k) = stN m rs (lastN (brF m rs) p) k
  | 0 => by rw [show dlF m rs p 0 = [] from rfl, List.append_nil]; rfl
  | k + 1 => by
    rw [dlF_succ, ← List.append_assoc, ← lastN_snoc, dlF_last p k]
    rfl
theorem st_again (B : BkOk m rs) {s : List Int} (hs : s.length ≤ brF m rs) (W : Wi (m : Int) s) {k : Nat} (nd : ((List.range k).map (stN m rs s)).Nodup) : k ≤ 1365 := by
  have h := nd_le _ (stF m (brF m rs)) nd fun x hx => by
    obtain ⟨i, _, rfl⟩ := List.mem_map.mp hx
    obtain ⟨a, b⟩ := stN_ok B hs W i
    exact stF_mem _ _ a b
  have := stF_1365 B.m4 (brF_le B)
  rw [List.length_map, List.length_range] at h
  omega
structure LstF (h l : List Int) : Prop where
  pos : 0 < l.length
  lp : LP l l.length
  st : St0 h l l.length h.length
theorem go_mul {h l : List Int} {p q : Nat} (Q : St0 h l p q) {k : Nat} (hk : q ≤ k) : ∀ n, ch h l (k + p * n) = ch h l k
  | 0 => rfl
  | n + 1 => by
    rw [Nat.mul_succ, ← Nat.add_assoc, Q.go _ (by omega), go_mul Q hk n]
theorem least_ch {h l : List Int} {p q : Nat} (L : LP l p) (Q : St0 h l p q) (i : Nat) : ch (h.take q) (seg h l p q) i = ch h l i := by
  have hq := Q.le
  have hp := L.pos
  have lt : (h.take q).length = q := by rw [List.length_take]; omega
  have sl := seg_len h l p q
  by_cases c : i < q
  · unfold ch
    rw [if_pos (by omega), if_pos (by omega), List.getD_eq_getElem?_getD, List.getElem?_take, if_pos c, ← List.getD_eq_getElem?_getD]
  · obtain ⟨x, rfl⟩ : ∃ x, i = q + x := ⟨i - q, by omega⟩
    have e : ch h l (q + x) = ch h l (q + x % p) := by
      have := go_mul Q (k := q + x % p) (by omega) (x / p)
      rw [Nat.add_assoc, Nat.mod_add_div] at this
      exact this
    rw [e]
    unfold ch
    rw [if_neg (by omega), lt, Nat.add_sub_cancel_left, sl]
    have hm : x % p < p := Nat.mod_lt _ hp
    unfold seg
    rw [List.getD_eq_getElem?_getD, List.getElem?_map, List.getElem?_range hm]
    rfl
theorem least_lst {h l : List Int} {p q : Nat} (L : LP l p) (Q : St0 h l p q) : LstF (h.take q) (seg h l p q) := by
  have hq := Q.le
  have hp := L.pos
  have lt : (h.take q).length = q := by rw [List.length_take]; omega
  have sl := seg_len h l p q
  have same := least_ch L Q
  have cl_eq : ∀ k, cl (seg h l p q) k = ch h l (q + k) := fun k => by
    rw [← same, ← ch_far (h := h.take q), lt]
  refine ⟨by omega, ⟨by omega, per_len _, fun s s0 hs => ?_⟩, ⟨Nat.le_refl _, fun k hk => ?_, fun t ht => ?_⟩⟩
  · rw [sl]
    refine L.min s s0 fun k => ?_
    have := hs (h.length - q + k)
    rw [cl_eq, cl_eq, show q + (h.length - q + k + s) = h.length + (k + s) by omega, show q + (h.length - q + k) = h.length + k by omega, ch_far, ch_far] at this
    exact this
  · rw [sl, same, same]
    exact Q.go k (by omega)
  · rw [lt]
    refine Q.min t fun k hk => ?_
    have := ht k hk
    rw [sl, same, same] at this
    exact this
/-- two least forms of one row are the same -/
theorem LstF.uniq {h l h' l' : List Int} (A : LstF h l) (B : LstF h' l') (e : ∀ i, ch h l i = ch h' l' i) : h = h' ∧ l = l' := by
  -- both laps are periods of the other far out
  have far : ∀ {h l h' l' : List Int}, LstF h l → LstF h' l' → (∀ i, ch h l i = ch h' l' i) → l.length ≤ l'.length := fun {h l h' l'} A B e => by
    refine A.lp.min _ B.pos fun k => ?_
    have h1 : cl l (k + l'.length) = cl l k := by
      have f1 := A.lp.per
      -- far out in both
      obtain ⟨N, hN⟩ : ∃ N, h'.length ≤ h.length + (k + l.length * N) := ⟨h'.length, by
        have : h'.length ≤ l.length * h'.length := Nat.le_mul_of_pos_left _ A.pos
        omega⟩
      have a1 : cl l k = cl l (k + l.length * N) := (Per.mul f1 k N).symm
      have a2 : cl l (k + l'.length) = cl l (k + l'.length + l.length * N) := (Per.mul f1 (k + l'.length) N).symm
      rw [a1, a2, ← ch_far (h := h), ← ch_far (h := h), e, e, show h.length + (k + l'.length + l.length * N) = h.length + (k + l.length * N) + l'.length by omega]
      exact far_go B.lp hN
    exact h1
  have le1 := far A B e
  have le2 := far B A fun i => (e i).symm
  have ll : l.length = l'.length := by omega
  have hl : h.length = h'.length := by
    have a1 := A.st.min h'.length fun k hk => by rw [e, e, ll]; exact B.st.go k hk
    have a2 := B.st.min h.length fun k hk => by rw [← e, ← e, ← ll]; exact A.st.go k hk
    omega
  constructor
  · refine List.ext_getElem hl fun i h1 h2 => ?_
    have := e i
    unfold ch at this
    rw [if_pos h1, if_pos h2, List.getD_eq_getElem?_getD, List.getElem?_eq_getElem h1, List.getD_eq_getElem?_getD, List.getElem?_eq_getElem h2] at this
    exact this
  · refine List.ext_getElem ll fun i h1 h2 => ?_
    have := e (h.length + i)
    rw [ch_far, hl, ch_far, cl_at h1, cl_at h2, List.getD_eq_getElem?_getD, List.getElem?_eq_getElem h1, List.getD_eq_getElem?_getD, List.getElem?_eq_getElem h2] at this
    exact this
end
end PL
namespace PL
open PySem L2
section
variable {Γ : Fe} {h l : List Int} {p q : Nat}
def TT (h l : List Int) (lo n s : Nat) : List Int := ((List.range n).filter fun i => ch h l (lo + i) != ch h l (lo + i + s)).map fun i => ((lo + i : Nat) : Int)
end
section
variable {Γ : Fe} {m : Nat} {rs : List (Sen × Nat)}
/-- the stands met, in order -/
def stL (m : Nat) (rs : List (Sen × Nat)) (s : List Int) (k : Nat) : List (List Int) := (List.range k).map (stN m rs s)
theorem stL_len (s : List Int) (k : Nat) : (stL m rs s k).length = k := by simp [stL]
theorem nodup_snoc {α : Type} {l : List α} {x : α} (h : l.Nodup) (hx : x ∉ l) : (l ++ [x]).Nodup := by
  rw [List.nodup_append]
  exact ⟨h, by simp, fun a ha b hb e => by simp only [List.mem_singleton] at hb; subst hb; subst e; exact hx ha⟩
end
end PL
namespace PL
open PySem L2
section
variable {Γ : Fe} {m : Nat} {rs : List (Sen × Nat)}
theorem shp_dRn (h l : List Int) : shp 60 (dRn h l) = true := by
  unfold dRn
  exact shpT_all fun d hd => by
    simp only [List.mem_cons, List.not_mem_nil, or_false] at hd
    rcases hd with rfl | rfl
    · exact shp_lsI 58 h
    · exact shp_lsI 58 l
end
end PL
namespace PL
open PySem L2
section
variable {Γ : Fe}
end
end PL
namespace PL
open PySem L2
section
variable {Γ : Fe} {m : Nat} {rs rs' : List (Sen × Nat)}
end
end PL
namespace PL
open PySem L2
section
variable {Γ : Fe} {m : Nat} {rs rs' : List (Sen × Nat)}
/-- None, or the first turn (from 1 on) at which f and g answer differently -/
structure ApOk (f g : Nat → Int) (o : Option Nat) : Prop where
  no : o = none → ∀ i, f i = g i
  at_ : ∀ t, o = some t → 1 ≤ t ∧ t ≤ 1366 ∧ f (t - 1) ≠ g (t - 1) ∧ ∀ i, i < t - 1 → f i = g i
theorem ApOk.uniq {f g : Nat → Int} {o o' : Option Nat} (A : ApOk f g o) (B : ApOk f g o') : o = o' := by
  cases o with
  | none =>
    cases o' with
    | none => rfl
    | some t => exact absurd (A.no rfl _) (B.at_ t rfl).2.2.1
  | some s =>
    obtain ⟨s1, _, s3, s4⟩ := A.at_ s rfl
    cases o' with
    | none => exact absurd (B.no rfl _) s3
    | some t =>
      obtain ⟨t1, _, t3, t4⟩ := B.at_ t rfl
      have a : ¬ s - 1 < t - 1 := fun h => s3 (t4 _ h)
      have b : ¬ t - 1 < s - 1 := fun h => t3 (s4 _ h)
      congr 1
      omega
def sCir : List St := [.asgs [2, 3] (.var 0) (.fz [0]), .ife (.cmp .le (.var 1) (.bi .len [.var 2])) [.ret (.ix (.var 2) (.bin .sub (.var 1) (.con (.int 1))))] [], .ret (.ix (.var 3) (.bin .mod (.bin .sub (.bin .sub (.var 1) (.bi .len [.var 2])) (.con (.int 1))) (.bi .len [.var 3])))]
theorem cir_ok {h l : List Int} (pos : 0 < l.length) (i : Nat) : runF Γ 4 2 sCir [dRn h l, .int ((i + 1 : Nat) : Int)] = .ok (.int (ch h l i)) 0 := by
  have lh := lI_length h
  have ll := lI_length l
  have iH : ∀ n, immBL n (lI h) = true := fun n => by simp
  have iL : ∀ n, immBL n (lI l) = true := fun n => by simp
  unfold dRn ch
  by_cases c : i < h.length
  · have a := lI_atT (l := h) c
    rw [if_pos c]
    generalize h.getD i 0 = z at *
    generalize lI h = HH at *
    generalize lI l = LL at *
    have c1 : (i : Int) + 1 ≤ (h.length : Int) := by omega
    have c2 : i + 1 ≤ h.length := by omega
    have e : (i : Int) + 1 - 1 = (i : Int) := by omega
    refine run_of rfl (step (ρ' := [some ⟨.tup [.lst HH, .lst LL], 0, false⟩, some ⟨.int ((i + 1 : Nat) : Int), 0, false⟩, some ⟨.lst HH, 0, false⟩, some ⟨.lst LL, 0, false⟩]) ?_ (stop ?_))
    · simp [frzO_not, iH, iL]
    · simp [lh, c1, c2, e, a]
  · have md : (i - h.length) % l.length < l.length := Nat.mod_lt _ pos
    have a := lI_atT (l := l) md
    rw [if_neg c]
    generalize l.getD ((i - h.length) % l.length) 0 = z at *
    generalize lI h = HH at *
    generalize lI l = LL at *
    have c1 : ¬ ((i : Int) + 1 ≤ (h.length : Int)) := by omega
    have c2 : ¬ (i + 1 ≤ h.length) := by omega
    have c3 : ¬ ((l.length : Int) = 0) := by omega
    have c4 : ¬ (l.length = 0) := by omega
    have c5 : l ≠ [] := fun e => by subst e; simp at pos
    have e : ((i : Int) + 1 - (h.length : Int) - 1).fmod (l.length : Int) = (((i - h.length) % l.length : Nat) : Int) := by
      rw [show (i : Int) + 1 - (h.length : Int) - 1 = ((i - h.length : Nat) : Int) by omega, Int.fmod_eq_emod_of_nonneg _ (by omega)]
      rfl
    refine run_of rfl (step (ρ' := [some ⟨.tup [.lst HH, .lst LL], 0, false⟩, some ⟨.int ((i + 1 : Nat) : Int), 0, false⟩, some ⟨.lst HH, 0, false⟩, some ⟨.lst LL, 0, false⟩]) ?_ (step (ρ' := [some ⟨.tup [.lst HH, .lst LL], 0, false⟩, some ⟨.int ((i + 1 : Nat) : Int), 0, false⟩, some ⟨.lst HH, 0, false⟩, some ⟨.lst LL, 0, false⟩]) ?_ (stop ?_)))
    · simp [frzO_not, iH, iL]
    · simp [lh, c1, c2]
    · push_cast at a
      simp [lh, ll, c3, c4, c5, e, a]
theorem cmp_dRn (h l h' l' : List Int) : cmpD .eq (dRn h l) (dRn h' l') = .ok (.bl (decide (h = h' ∧ l = l'))) 0 ∧ cmpD .ne (dRn h l) (dRn h' l') = .ok (.bl (!decide (h = h' ∧ l = l'))) 0 := by
  have s1 := shp_dRn h l
  have s2 := shp_dRn h' l'
  have e : eqD (dRn h l) (dRn h' l') = decide (h = h' ∧ l = l') := by
    unfold dRn
    unfold eqD
    simp [Bool.decide_and]
  rw [cmp_eq, cmp_ne, s1, s2, e]
  exact ⟨rfl, rfl⟩
end
end PL
namespace PL
open PySem L2
section
variable {Γ : Fe} {m : Nat} {rs rs' : List (Sen × Nat)}
end
end PL
namespace PL
open PySem L2
section
variable {Γ : Fe} {m : Nat} {rs rs' : List (Sen × Nat)}
end
end PL
namespace PL
open PySem L2
section
variable {Γ : Fe} {m : Nat} {rs : List (Sen × Nat)}
end
end PL
namespace PL
open PySem L2
section
variable {Γ : Fe}
end
end PL
namespace PL
open PySem L2
section
variable {Γ : Fe} {m : Nat} {rs : List (Sen × Nat)} {s : Sen} {ws : List Int}
end
end PL
namespace PL
open PySem L2
section
variable {Γ : Fe} {m : Nat} {rs : List (Sen × Nat)} {s : Sen} {ws : List Int} {w : Nat}
end
end PL
namespace PL
open PySem L2
section
variable {Γ : Fe} {m q : Nat} {rs : List (Sen × Nat)} {s : Sen} {ws h l : List Int}
end
end PL
namespace PL
open PySem L2
def xvT : List (Nat × Addr) → Nat → Value
  | [], _ => .type "ValueError"
  | p :: l, c => if c = p.1 then .ref p.2 else xvT l c
theorem xvT_cl (l : List (Nat × Addr)) (c : Nat) : isCl (xvT l c) = true := by
  induction l with
  | nil => rfl
  | cons p l ih =>
    unfold xvT
    split
    · rfl
    · exact ih
section
variable {Γ : Fe} {c k : Nat} {vs : List D} {A : List St} {s : Option Sl}
end
end PL
namespace PL
open PySem L2
section
variable {Γ : Fe}
end
end PL
namespace PL
open PySem L2
section
variable {Γ : Fe}
end
section
variable {Γ : Fe}
end
end PL
namespace PL
section
variable {α : Type} (nx : α → α) (ch : α → Bool)
def itN : Nat → α → α
  | 0, s => s
  | i + 1, s => itN i (nx s)
theorem least_of {P : Nat → Prop} (h : ∃ i, P i) : ∃ i, P i ∧ ∀ j, j < i → ¬ P j := by
  obtain ⟨n, hn⟩ := h
  induction n using Nat.strongRecOn with
  | ind n ih =>
    by_cases z : ∃ j, j < n ∧ P j
    · obtain ⟨j, h1, h2⟩ := z
      exact ih j h1 h2
    · exact ⟨n, hn, fun j hj pj => z ⟨j, hj, pj⟩⟩
open Classical in
/-- the first turn at which the row behind s chooses -/
noncomputable def waF (s : α) : Option Nat := if h : ∃ i, ch (itN nx i s) = true then some (Classical.choose (least_of h) + 1) else none
variable {nx ch}
end
end PL
namespace PL
open PySem L2
section
variable {Γ : Fe} {m : Nat} {rs : List (Sen × Nat)}
theorem stF_ne (m k : Nat) : stF m k ≠ [] := fun e => by
  have := stF_mem (m := m) k [] (by simp) (fun x hx => nomatch hx)
  rw [e] at this
  cases this
/-- the stands of a book -/
def ssF (m : Nat) (rs : List (Sen × Nat)) : List (List Int) := stF m (brF m rs)
theorem ssF_len (B : BkOk m rs) : (ssF m rs).length ≤ 1365 := stF_1365 B.m4 (brF_le B)
theorem ssF_nx (B : BkOk m rs) {s : List Int} (h : s ∈ ssF m rs) : nxF m rs s ∈ ssF m rs := by
  have := nxF_ok B (stF_of m _ s h).2
  exact stF_mem _ _ this.1 this.2
end
end PL
namespace PL
open PySem L2
section
variable {Γ : Fe} {m : Nat} {rs : List (Sen × Nat)} {w : Nat}
noncomputable def wN (m : Nat) (rs : List (Sen × Nat)) (w : Nat) (s : List Int) : Option Nat := waF (nxF m rs) (fun s => decide (pkF m rs s = w)) s
theorem insL_mem {K : List (List Int)} {c x : List Int} : x ∈ insL K c ↔ x ∈ K ∨ x = c := by
  unfold insL
  by_cases h : c ∈ K
  · rw [if_pos h]
    exact ⟨.inl, fun q => q.elim id fun e => e ▸ h⟩
  · rw [if_neg h]
    simp
theorem insL_nd {K : List (List Int)} {c : List Int} (nd : K.Nodup) : (insL K c).Nodup := by
  unfold insL
  split
  · exact nd
  · rename_i h
    exact nodup_snoc nd h
end
end PL
namespace PL
open PySem L2
section
variable {Γ : Fe} {m : Nat} {rs : List (Sen × Nat)} {w : Nat}
/-- what is found: right, no stand twice -/
structure FdOk (m : Nat) (rs : List (Sen × Nat)) (w : Nat) (L : List (List Int)) : Prop where
  nd : L.Nodup
  ok : ∀ s ∈ L, s ∈ ssF m rs ∧ ∃ n, wN m rs w s = some n
  ch : ∀ s ∈ ssF m rs, pkF m rs s = w → s ∈ L
theorem FdOk.len (B : BkOk m rs) {L : List (List Int)} (F : FdOk m rs w L) : L.length ≤ 1365 :=
  Nat.le_trans (nd_le L (ssF m rs) F.nd fun x hx => (F.ok x hx).1) (ssF_len B)
end
end PL
namespace PL
open PySem L2
section
variable {Γ : Fe} {m : Nat} {rs : List (Sen × Nat)} {w : Nat}
end
end PL
namespace PL
open PySem L2
section
variable {Γ : Fe} {m : Nat} {rs : List (Sen × Nat)} {w : Nat}
end
end PL
namespace PL
open PySem L2
theorem len1 {s : List Int} (h : s.length = 1) : ∃ x, s = [x] := by
  match s, h with
  | [x], _ => exact ⟨x, rfl⟩
theorem Tx.up {n k B : Nat} {d : D} (t : Tx n B d) (h : n ≤ k) : Tx k B d := ⟨t.len, t.ok, t.sh, shp_up h t.sp⟩
end PL
namespace PL
open PySem L2
section
variable {Γ : Fe} {m : Nat} {rs : List (Sen × Nat)} {w : Nat}
end
end PL
namespace PL
open PySem L2
section
variable {Γ : Fe} {m : Nat} {rs : List (Sen × Nat)} {w : Nat}
end
end PL
namespace PL
open PySem L2
end PL
namespace PL
open PySem L2
section
variable {m : Nat} {rs : List (Sen × Nat)}
theorem ss_ok {s : List Int} (hs : s ∈ ssF m rs) : s.length ≤ brF m rs ∧ Wi (m : Int) s := stF_of m _ s hs
theorem ss_last {s : List Int} (hs : s ∈ ssF m rs) : lastN (brF m rs) s = s := lastN_all (ss_ok hs).1
theorem ss_N (B : BkOk m rs) {s : List Int} (hs : s ∈ ssF m rs) (k : Nat) : stN m rs s k ∈ ssF m rs := by
  obtain ⟨a, b⟩ := stN_ok B (ss_ok hs).1 (ss_ok hs).2 k
  exact stF_mem _ _ a b
theorem stN_comm (s : List Int) (a b : Nat) : stN m rs (stN m rs s a) b = stN m rs (stN m rs s b) a := by
  rw [← stN_add, ← stN_add, Nat.add_comm]
/-- s stands on a lap of n turns -/
structure CyL (m : Nat) (rs : List (Sen × Nat)) (s : List Int) (n : Nat) : Prop where
  pos : 0 < n
  back : stN m rs s n = s
  min : ∀ j, 0 < j → j < n → stN m rs s j ≠ s
theorem cyl_of {s : List Int} {n : Nat} (h : 0 < n) (e : stN m rs s n = s) : ∃ L, CyL m rs s L := by
  obtain ⟨L, ⟨h1, h2⟩, h3⟩ := least_ex (P := fun n => 0 < n ∧ stN m rs s n = s) ⟨n, h, e⟩
  exact ⟨L, h1, h2, fun j a b c => absurd (h3 j ⟨a, c⟩) (by omega)⟩
theorem CyL.mul {s : List Int} {n : Nat} (C : CyL m rs s n) : ∀ k, stN m rs s (n * k) = s
  | 0 => rfl
  | k + 1 => by rw [Nat.mul_succ, stN_add, C.mul k, C.back]
theorem CyL.add {s : List Int} {n : Nat} (C : CyL m rs s n) (i k : Nat) : stN m rs s (i + n * k) = stN m rs s i := by
  rw [Nat.add_comm, stN_add, C.mul]
theorem CyL.uniq {s : List Int} {n k : Nat} (C : CyL m rs s n) (D : CyL m rs s k) : n = k := by
  rcases Nat.lt_trichotomy n k with h | h | h
  · exact absurd C.back (D.min n C.pos h)
  · exact h
  · exact absurd D.back (C.min k D.pos h)
theorem CyL.fwd {s : List Int} {n : Nat} (C : CyL m rs s n) (j : Nat) : CyL m rs (stN m rs s j) n := by
  refine ⟨C.pos, by rw [stN_comm, C.back], fun i h0 h1 e => C.min i h0 h1 ?_⟩
  have hj : j ≤ n * j := by have := Nat.mul_le_mul C.pos (Nat.le_refl j); omega
  have back : stN m rs (stN m rs s j) (n * j - j) = s := by
    rw [← stN_add, show j + (n * j - j) = n * j by omega, C.mul]
  have h2 : stN m rs (stN m rs s i) 0 = stN m rs s i := rfl
  have : stN m rs s i = stN m rs (stN m rs (stN m rs s j) (n * j - j)) i := by rw [back]
  rw [this, stN_comm, e, back]
/-- back to where it was -/
theorem CyL.ret {s : List Int} {n : Nat} (C : CyL m rs s n) (j : Nat) : ∃ k, stN m rs (stN m rs s j) k = s := by
  have hj : j ≤ n * j := by have := Nat.mul_le_mul C.pos (Nat.le_refl j); omega
  exact ⟨n * j - j, by rw [← stN_add, show j + (n * j - j) = n * j by omega, C.mul]⟩
theorem not_nd {f : Nat → List Int} : ∀ {k : Nat}, ¬ ((List.range k).map f).Nodup → ∃ i j, i < j ∧ j < k ∧ f i = f j
  | 0, h => absurd List.nodup_nil h
  | k + 1, h => by
    by_cases h2 : ((List.range k).map f).Nodup
    · rw [List.range_succ, List.map_append] at h
      have : f k ∈ (List.range k).map f := by
        refine Classical.byContradiction fun q => h ?_
        exact nodup_snoc h2 q
      obtain ⟨i, hi, e⟩ := List.mem_map.mp this
      exact ⟨i, k, List.mem_range.mp hi, Nat.lt_succ_self k, e⟩
    · obtain ⟨i, j, h3, h4, h5⟩ := not_nd h2
      exact ⟨i, j, h3, by omega, h5⟩
theorem cyl_far (B : BkOk m rs) {s : List Int} (hs : s ∈ ssF m rs) : ∃ L, CyL m rs (stN m rs s 1366) L := by
  obtain ⟨i, j, h1, h2, h3⟩ := not_nd (f := stN m rs s) (k := 1366) fun nd => by
    have := st_again B (ss_ok hs).1 (ss_ok hs).2 nd
    omega
  obtain ⟨L, C⟩ := cyl_of (m := m) (rs := rs) (s := stN m rs s i) (n := j - i) (by omega) (by rw [← stN_add, show i + (j - i) = j by omega, h3])
  have := C.fwd (1366 - i)
  rw [← stN_add, show i + (1366 - i) = 1366 by omega] at this
  exact ⟨L, this⟩
theorem lastN_long {b : Nat} (p x : List Int) (h : b ≤ x.length) : lastN b (p ++ x) = lastN b x := by
  unfold lastN
  rw [List.length_append, List.drop_append, List.drop_eq_nil_of_le (by omega), List.nil_append]
  congr 1
  omega
theorem same_st {s t : List Int} (hs : s ∈ ssF m rs) (ht : t ∈ ssF m rs) {n k : Nat} (C : CyL m rs s n) (D : CyL m rs t k) (e : ∀ i, dcF m rs s i = dcF m rs t i) : s = t := by
  obtain ⟨N, hN⟩ : ∃ N, N = n * (k * (brF m rs + 1)) := ⟨_, rfl⟩
  have h1 : brF m rs ≤ N := by
    have a := Nat.mul_le_mul D.pos (Nat.le_refl (brF m rs + 1))
    have b := Nat.mul_le_mul C.pos (Nat.le_refl (k * (brF m rs + 1)))
    omega
  have e1 : stN m rs s N = s := by rw [hN]; exact C.mul _
  have e2 : stN m rs t N = t := by rw [hN, Nat.mul_left_comm]; exact D.mul _
  have a := dlF_last (m := m) (rs := rs) s N
  have b := dlF_last (m := m) (rs := rs) t N
  rw [ss_last hs, e1, lastN_long _ _ (by rw [dlF_len]; exact h1)] at a
  rw [ss_last ht, e2, lastN_long _ _ (by rw [dlF_len]; exact h1)] at b
  rw [← a, ← b]
  unfold dlF
  rw [List.map_congr_left fun i _ => e i]
theorem dcF_fwd (B : BkOk m rs) {s : List Int} (hs : s ∈ ssF m rs) (j i : Nat) : dcF m rs (stN m rs s j) i = dcF m rs s (j + i) := by
  unfold dcF
  rw [ss_last (ss_N B hs j), ss_last hs, stN_add]
theorem dcF_per (hs : s ∈ ssF m rs) {n : Nat} (C : CyL m rs s n) (i k : Nat) : dcF m rs s (i + n * k) = dcF m rs s i := by
  unfold dcF
  rw [ss_last hs, C.add]
theorem dlF_at (s : List Int) {n i : Nat} (h : i < n) : (dlF m rs s n)[i]'(by rw [dlF_len]; exact h) = dcF m rs s i := by
  simp [dlF]
theorem rot_row (B : BkOk m rs) {s : List Int} (hs : s ∈ ssF m rs) {n : Nat} (C : CyL m rs s n) {j : Nat} (hj : j < n) : dlF m rs (stN m rs s j) n = (dlF m rs s n).drop j ++ (dlF m rs s n).take j := by
  refine List.ext_getElem (by simp [dlF_len]; omega) fun i h1 h2 => ?_
  rw [dlF_len] at h1
  rw [dlF_at _ h1, dcF_fwd B hs]
  by_cases h : i < n - j
  · rw [List.getElem_append_left (by rw [List.length_drop, dlF_len]; exact h), List.getElem_drop, dlF_at _ (by omega)]
  · rw [List.getElem_append_right (by rw [List.length_drop, dlF_len]; omega)]
    have e : i - ((dlF m rs s n).drop j).length = i - (n - j) := by rw [List.length_drop, dlF_len]
    simp only [e]
    rw [List.getElem_take, dlF_at _ (by omega)]
    have := dcF_per hs C (i - (n - j)) 1
    rw [Nat.mul_one] at this
    rw [← this]
    congr 1
    omega
def rots (l : List Int) : List (List Int) := (List.range l.length).map fun k => l.drop k ++ l.take k
def trn (l : List Int) : List Int := match rots l with
  | r :: q => minR r q
  | [] => []
theorem minR_ok : ∀ (q : List (List Int)) (r : List Int), minR r q ∈ r :: q ∧ ∀ x ∈ r :: q, minR r q ≤ x
  | [], r => ⟨List.mem_cons_self, fun x hx => by rcases List.mem_singleton.mp hx with rfl; exact List.le_refl _⟩
  | y :: q, r => by
    have e : minR r (y :: q) = minR (if y < r then y else r) q := rfl
    rw [e]
    obtain ⟨h1, h2⟩ := minR_ok q (if y < r then y else r)
    by_cases h : y < r
    · rw [if_pos h] at h1 h2 ⊢
      refine ⟨List.mem_cons_of_mem _ h1, fun x hx => ?_⟩
      rcases List.mem_cons.mp hx with rfl | hx
      · exact List.le_trans (h2 y List.mem_cons_self) (List.le_of_lt h)
      · exact h2 x hx
    · rw [if_neg h] at h1 h2 ⊢
      refine ⟨?_, fun x hx => ?_⟩
      · rcases List.mem_cons.mp h1 with h1 | h1
        · rw [h1]; exact List.mem_cons_self
        · exact List.mem_cons_of_mem _ (List.mem_cons_of_mem _ h1)
      · rcases List.mem_cons.mp hx with rfl | hx
        · exact h2 _ List.mem_cons_self
        · rcases List.mem_cons.mp hx with rfl | hx
          · exact List.le_trans (h2 r List.mem_cons_self) (List.not_lt.mp h)
          · exact h2 x (List.mem_cons_of_mem _ hx)
theorem trn_ok {l : List Int} (h : 0 < l.length) : trn l ∈ rots l ∧ ∀ x ∈ rots l, trn l ≤ x := by
  have ne : rots l ≠ [] := fun e => by
    have := congrArg List.length e
    unfold rots at this
    rw [List.length_map, List.length_range] at this
    simp at this
    rw [this] at h
    simp at h
  unfold trn
  cases e : rots l with
  | nil => exact absurd e ne
  | cons r q => exact minR_ok q r
theorem rots_row (B : BkOk m rs) {s : List Int} (hs : s ∈ ssF m rs) {n : Nat} (C : CyL m rs s n) {x : List Int} : x ∈ rots (dlF m rs s n) ↔ ∃ j, x = dlF m rs (stN m rs s j) n := by
  constructor
  · intro h
    obtain ⟨k, hk, rfl⟩ := List.mem_map.mp h
    have hk := List.mem_range.mp hk
    rw [dlF_len] at hk
    exact ⟨k, (rot_row B hs C hk).symm⟩
  · rintro ⟨j, rfl⟩
    have e : stN m rs s j = stN m rs s (j % n) := by
      have := C.add (j % n) (j / n)
      rw [← this]
      congr 1
      have := Nat.mod_add_div j n
      omega
    have hj : j % n < n := Nat.mod_lt _ C.pos
    rw [e, rot_row B hs C hj]
    exact List.mem_map.mpr ⟨j % n, List.mem_range.mpr (by rw [dlF_len]; exact hj), rfl⟩
theorem trn_fwd (B : BkOk m rs) {s : List Int} (hs : s ∈ ssF m rs) {n : Nat} (C : CyL m rs s n) (j : Nat) : trn (dlF m rs (stN m rs s j) n) = trn (dlF m rs s n) := by
  have p1 : 0 < (dlF m rs s n).length := by rw [dlF_len]; exact C.pos
  have p2 : 0 < (dlF m rs (stN m rs s j) n).length := by rw [dlF_len]; exact C.pos
  obtain ⟨a1, a2⟩ := trn_ok p1
  obtain ⟨b1, b2⟩ := trn_ok p2
  have hj := ss_N B hs j
  have Cj := C.fwd j
  refine List.le_antisymm (b2 _ ?_) (a2 _ ?_)
  · obtain ⟨i, e⟩ := (rots_row B hs C).mp a1
    obtain ⟨k, hk⟩ := C.ret j
    rw [e]
    refine (rots_row B hj Cj).mpr ⟨k + i, ?_⟩
    rw [stN_add, hk]
  · obtain ⟨i, e⟩ := (rots_row B hj Cj).mp b1
    rw [e]
    exact (rots_row B hs C).mpr ⟨j + i, by rw [stN_add]⟩
/-- one turned row, one lap -/
theorem trn_one (B : BkOk m rs) {s t : List Int} (hs : s ∈ ssF m rs) (ht : t ∈ ssF m rs) {n k : Nat} (C : CyL m rs s n) (D : CyL m rs t k) (e : trn (dlF m rs s n) = trn (dlF m rs t k)) : n = k ∧ ∃ j, t = stN m rs s j := by
  have p1 : 0 < (dlF m rs s n).length := by rw [dlF_len]; exact C.pos
  have p2 : 0 < (dlF m rs t k).length := by rw [dlF_len]; exact D.pos
  obtain ⟨i, e1⟩ := (rots_row B hs C).mp (trn_ok p1).1
  obtain ⟨j, e2⟩ := (rots_row B ht D).mp (trn_ok p2).1
  rw [e1, e2] at e
  have nk : n = k := by
    have := congrArg List.length e
    rwa [dlF_len, dlF_len] at this
  subst nk
  have hi := ss_N B hs i
  have hj := ss_N B ht j
  have Ci := C.fwd i
  have Dj := D.fwd j
  have same : stN m rs s i = stN m rs t j := same_st hi hj Ci Dj fun q => by
    have md : q % n < n := Nat.mod_lt _ C.pos
    have q1 : q % n + n * (q / n) = q := by have := Nat.mod_add_div q n; omega
    have a := dcF_per hi Ci (q % n) (q / n)
    have b := dcF_per hj Dj (q % n) (q / n)
    rw [q1] at a b
    rw [a, b, ← dlF_at _ md, ← dlF_at _ md]
    simp only [e]
  obtain ⟨r, hr⟩ := D.ret j
  exact ⟨rfl, i + r, by rw [stN_add, same, hr]⟩
structure LapL (m : Nat) (rs : List (Sen × Nat)) (L : List (List Int)) : Prop where
  nd : L.Nodup
  mem : ∀ x, x ∈ L ↔ ∃ s ∈ ssF m rs, ∃ n, CyL m rs s n ∧ x = trn (dlF m rs s n)
def srtR (L : List (List Int)) : List (List Int) := L.mergeSort fun a b => decide (a ≤ b)
theorem srt_perm {L M : List (List Int)} (h : L.Perm M) : srtR L = srtR M := by
  have pw : ∀ K : List (List Int), (srtR K).Pairwise fun a b => decide (a ≤ b) = true := fun K => List.pairwise_mergeSort (le := fun a b => decide (a ≤ b)) (fun a b c h1 h2 => decide_eq_true (List.le_trans (of_decide_eq_true h1) (of_decide_eq_true h2))) (fun a b => by
    rcases List.le_total a b with h | h
    · rw [decide_eq_true h]; rfl
    · rw [decide_eq_true h, Bool.or_true]) K
  refine List.Perm.eq_of_pairwise (fun a b _ _ h1 h2 => List.le_antisymm (of_decide_eq_true h1) (of_decide_eq_true h2)) (pw L) (pw M) ?_
  exact (List.mergeSort_perm L _).trans (h.trans (List.mergeSort_perm M _).symm)
theorem LapL.same {L M : List (List Int)} (A : LapL m rs L) (B : LapL m rs M) : srtR L = srtR M :=
  srt_perm ((List.perm_ext_iff_of_nodup A.nd B.nd).mpr fun x => (A.mem x).trans (B.mem x).symm)
end
end PL
namespace PL
open PySem L2
section
variable {m : Nat} {rs : List (Sen × Nat)}
/-- what the program has found so far -/
structure LpI (m : Nat) (rs : List (Sen × Nat)) (F Dn : List (List Int)) : Prop where
  nd : F.Nodup
  dn : Dn.Nodup
  ss : ∀ s ∈ Dn, s ∈ ssF m rs
  cl : ∀ s ∈ Dn, nxF m rs s ∈ Dn
  mem : ∀ x, x ∈ F ↔ ∃ s ∈ Dn, ∃ n, CyL m rs s n ∧ x = trn (dlF m rs s n)
theorem LpI.nil : LpI m rs [] [] := ⟨List.nodup_nil, List.nodup_nil, fun _ h => (nomatch h), fun _ h => (nomatch h), fun x => ⟨fun h => (nomatch h), fun ⟨_, h, _⟩ => (nomatch h)⟩⟩
theorem cl_N {Dn : List (List Int)} (cl : ∀ s ∈ Dn, nxF m rs s ∈ Dn) {s : List Int} (hs : s ∈ Dn) : ∀ k, stN m rs s k ∈ Dn
  | 0 => hs
  | k + 1 => cl _ (cl_N cl hs k)
theorem stL_mem {s t : List Int} {i : Nat} : t ∈ stL m rs s i ↔ ∃ j, j < i ∧ t = stN m rs s j := by
  constructor
  · intro h
    obtain ⟨j, hj, rfl⟩ := List.mem_map.mp h
    exact ⟨j, List.mem_range.mp hj, rfl⟩
  · rintro ⟨j, hj, rfl⟩
    exact List.mem_map.mpr ⟨j, List.mem_range.mpr hj, rfl⟩
theorem nd_app {A C : List (List Int)} (a : A.Nodup) (c : C.Nodup) (h : ∀ t ∈ C, t ∉ A) : (A ++ C).Nodup :=
  List.nodup_append.mpr ⟨a, c, fun x hx y hy e => h y hy (e ▸ hx)⟩
/-- the walk came to a stand seen behind an earlier one -/
theorem LpI.old {F Dn : List (List Int)} (I : LpI m rs F Dn) (B : BkOk m rs) {s : List Int} (hs : s ∈ ssF m rs) {i : Nat} (nd : (stL m rs s i).Nodup) (dis : ∀ t ∈ stL m rs s i, t ∉ Dn) (e : stN m rs s i ∈ Dn) : LpI m rs F (Dn ++ stL m rs s i) := by
  refine ⟨I.nd, nd_app I.dn nd dis, fun t ht => ?_, fun t ht => ?_, fun x => ?_⟩
  · rcases List.mem_append.mp ht with ht | ht
    · exact I.ss t ht
    · obtain ⟨j, _, rfl⟩ := stL_mem.mp ht
      exact ss_N B hs j
  · rcases List.mem_append.mp ht with ht | ht
    · exact List.mem_append_left _ (I.cl t ht)
    · obtain ⟨j, hj, rfl⟩ := stL_mem.mp ht
      by_cases z : j + 1 < i
      · exact List.mem_append_right _ (stL_mem.mpr ⟨j + 1, z, rfl⟩)
      · refine List.mem_append_left _ ?_
        rw [show i = j + 1 by omega] at e
        exact e
  · rw [I.mem x]
    constructor
    · rintro ⟨t, ht, n, C, e2⟩
      exact ⟨t, List.mem_append_left _ ht, n, C, e2⟩
    · rintro ⟨t, ht, n, C, e2⟩
      rcases List.mem_append.mp ht with h | h
      · exact ⟨t, h, n, C, e2⟩
      · exfalso
        obtain ⟨j, hj, rfl⟩ := stL_mem.mp h
        obtain ⟨k, hk⟩ := C.ret (i - j)
        refine dis _ h ?_
        rw [← hk, ← stN_add (s) j (i - j), show j + (i - j) = i by omega]
        exact cl_N I.cl e k
/-- .. or to one of its own -/
theorem cyl_own {s : List Int} {i j : Nat} (hj : j < i) (nd : (stL m rs s i).Nodup) (e : stN m rs s i = stN m rs s j) : CyL m rs (stN m rs s j) (i - j) := by
  refine ⟨by omega, by rw [← stN_add, show j + (i - j) = i by omega, e], fun k h0 h1 e2 => ?_⟩
  rw [← stN_add] at e2
  have a : (stL m rs s i)[j + k]? = some (stN m rs s (j + k)) := by
    unfold stL
    rw [List.getElem?_map, List.getElem?_range (by omega)]
    rfl
  have b : (stL m rs s i)[j]? = some (stN m rs s j) := by
    unfold stL
    rw [List.getElem?_map, List.getElem?_range (by omega)]
    rfl
  rw [e2, ← b] at a
  have := (List.getElem?_inj (by rw [stL_len]; omega) nd).mp a
  omega
theorem LpI.new {F Dn : List (List Int)} (I : LpI m rs F Dn) (B : BkOk m rs) {s : List Int} (hs : s ∈ ssF m rs) {i j : Nat} (hj : j < i) (nd : (stL m rs s i).Nodup) (dis : ∀ t ∈ stL m rs s i, t ∉ Dn) (e : stN m rs s i = stN m rs s j) :
    LpI m rs (insL F (trn (dlF m rs (stN m rs s j) (i - j)))) (Dn ++ stL m rs s i) := by
  have U := cyl_own hj nd e
  have uin : stN m rs s j ∈ stL m rs s i := stL_mem.mpr ⟨j, hj, rfl⟩
  refine ⟨insL_nd I.nd, nd_app I.dn nd dis, fun t ht => ?_, fun t ht => ?_, fun x => ?_⟩
  · rcases List.mem_append.mp ht with ht | ht
    · exact I.ss t ht
    · obtain ⟨k, _, rfl⟩ := stL_mem.mp ht
      exact ss_N B hs k
  · rcases List.mem_append.mp ht with ht | ht
    · exact List.mem_append_left _ (I.cl t ht)
    · obtain ⟨k, hk, rfl⟩ := stL_mem.mp ht
      refine List.mem_append_right _ ?_
      by_cases z : k + 1 < i
      · exact stL_mem.mpr ⟨k + 1, z, rfl⟩
      · have : nxF m rs (stN m rs s k) = stN m rs s i := by rw [show i = k + 1 by omega]; rfl
        rw [this, e]
        exact uin
  · rw [insL_mem, I.mem x]
    constructor
    · rintro (⟨t, ht, n, C, e2⟩ | rfl)
      · exact ⟨t, List.mem_append_left _ ht, n, C, e2⟩
      · exact ⟨_, List.mem_append_right _ uin, _, U, rfl⟩
    · rintro ⟨t, ht, n, C, e2⟩
      rcases List.mem_append.mp ht with h | h
      · exact .inl ⟨t, h, n, C, e2⟩
      · refine .inr ?_
        obtain ⟨k, hk, rfl⟩ := stL_mem.mp h
        have eu : stN m rs (stN m rs s k) (i - k) = stN m rs s j := by rw [← stN_add, show k + (i - k) = i by omega, e]
        have := C.fwd (i - k)
        rw [eu] at this
        have nn := this.uniq U
        subst nn
        rw [e2, ← trn_fwd B (ss_N B hs k) C (i - k), eu]
theorem LpI.done {F Dn : List (List Int)} (I : LpI m rs F Dn) (h : ∀ s ∈ ssF m rs, s ∈ Dn) : LapL m rs F :=
  ⟨I.nd, fun x => (I.mem x).trans ⟨fun ⟨s, hs, z⟩ => ⟨s, I.ss s hs, z⟩, fun ⟨s, hs, z⟩ => ⟨s, h s hs, z⟩⟩⟩
theorem all_cyl (B : BkOk m rs) {Lf : List (List Int)} (ss : ∀ s ∈ Lf, s ∈ ssF m rs) (pr : ∀ s ∈ Lf, ∃ t ∈ Lf, nxF m rs t = s) {s : List Int} (hs : s ∈ Lf) : ∃ n, CyL m rs s n := by
  have back : ∀ k, ∀ s ∈ Lf, ∃ t ∈ Lf, stN m rs t k = s := fun k => by
    induction k with
    | zero => exact fun s hs => ⟨s, hs, rfl⟩
    | succ k ih =>
      intro s hs
      obtain ⟨t, ht, e⟩ := pr s hs
      obtain ⟨u, hu, e2⟩ := ih t ht
      exact ⟨u, hu, by show nxF m rs (stN m rs u k) = s; rw [e2, e]⟩
  obtain ⟨t, ht, e⟩ := back 1366 s hs
  obtain ⟨L, C⟩ := cyl_far B (ss t ht)
  rw [e] at C
  exact ⟨L, C⟩
/-- what is left while laps are told: stands on laps, with all behind them; what was told -/
structure LlI (m : Nat) (rs : List (Sen × Nat)) (Lf : List (List Int)) (F : List (List Int)) : Prop where
  nd : Lf.Nodup
  ss : ∀ s ∈ Lf, s ∈ ssF m rs
  cy : ∀ s ∈ Lf, ∃ n, CyL m rs s n
  cl : ∀ s ∈ Lf, nxF m rs s ∈ Lf
  fn : F.Nodup
  mem : ∀ x, x ∈ F ↔ ∃ s ∈ ssF m rs, s ∉ Lf ∧ ∃ n, CyL m rs s n ∧ x = trn (dlF m rs s n)
/-- one lap told -/
theorem LlI.next {Lf F : List (List Int)} (I : LlI m rs Lf F) (B : BkOk m rs) {s : List Int} (hs : s ∈ Lf) {n : Nat} (C : CyL m rs s n) : LlI m rs (Lf.filter fun t => decide (t ∉ stL m rs s n)) (F ++ [trn (dlF m rs s n)]) := by
  have ks := I.ss s hs
  have orb : ∀ k, stN m rs s k ∈ stL m rs s n := fun k => by
    have := C.add (k % n) (k / n)
    rw [show k % n + n * (k / n) = k by have := Nat.mod_add_div k n; omega] at this
    rw [this]
    exact stL_mem.mpr ⟨k % n, Nat.mod_lt _ C.pos, rfl⟩
  have sub : ∀ t ∈ stL m rs s n, t ∈ Lf := fun t ht => by
    obtain ⟨j, _, rfl⟩ := stL_mem.mp ht
    exact cl_N I.cl hs j
  refine ⟨I.nd.filter _, fun t ht => I.ss t (List.mem_filter.mp ht).1, fun t ht => I.cy t (List.mem_filter.mp ht).1, fun t ht => ?_, nodup_snoc I.fn fun q => ?_, fun x => ?_⟩
  · obtain ⟨h1, h2⟩ := List.mem_filter.mp ht
    have h2 := of_decide_eq_true h2
    refine List.mem_filter.mpr ⟨I.cl t h1, decide_eq_true fun q => h2 ?_⟩
    obtain ⟨j, _, e⟩ := stL_mem.mp q
    obtain ⟨k, D⟩ := I.cy t h1
    obtain ⟨r, hr⟩ := D.ret 1
    have : nxF m rs t = stN m rs t 1 := rfl
    rw [← hr, ← this, e, ← stN_add]
    exact orb _
  · obtain ⟨t, ht, h2, k, D, e⟩ := (I.mem _).mp q
    obtain ⟨_, j, hj⟩ := trn_one B ks ht C D e
    exact h2 (by rw [hj]; exact cl_N I.cl hs j)
  · rw [List.mem_append, List.mem_singleton, I.mem x]
    constructor
    · rintro (⟨t, ht, h2, k, D, e⟩ | rfl)
      · exact ⟨t, ht, fun q => h2 (List.mem_filter.mp q).1, k, D, e⟩
      · exact ⟨s, ks, fun q => of_decide_eq_true (List.mem_filter.mp q).2 (orb 0), n, C, rfl⟩
    · rintro ⟨t, ht, h2, k, D, e⟩
      by_cases z : t ∈ Lf
      · refine .inr ?_
        have : t ∈ stL m rs s n := Classical.byContradiction fun q => h2 (List.mem_filter.mpr ⟨z, decide_eq_true q⟩)
        obtain ⟨j, _, rfl⟩ := stL_mem.mp this
        have := D.uniq (C.fwd j)
        subst this
        rw [e, trn_fwd B ks C]
      · exact .inl ⟨t, ht, z, k, D, e⟩
theorem LlI.first (B : BkOk m rs) {Lf : List (List Int)} (nd : Lf.Nodup) (ss : ∀ s ∈ Lf, s ∈ ssF m rs) (pr : ∀ s ∈ Lf, ∃ t ∈ Lf, nxF m rs t = s) (al : ∀ s ∈ ssF m rs, (∃ n, CyL m rs s n) → s ∈ Lf) : LlI m rs Lf [] := by
  refine ⟨nd, ss, fun s hs => all_cyl B ss pr hs, fun s hs => ?_, List.nodup_nil, fun x => ⟨fun h => (nomatch h), fun ⟨s, hs, h, n, C, _⟩ => absurd (al s hs ⟨n, C⟩) h⟩⟩
  obtain ⟨n, C⟩ := all_cyl B ss pr hs
  exact al _ (ssF_nx B (ss s hs)) ⟨n, C.fwd 1⟩
end
end PL
namespace PL
open PySem L2
section
variable {Γ : Fe} {m : Nat} {rs : List (Sen × Nat)}
end
end PL
namespace PL
open PySem L2
section
variable {Γ : Fe} {m : Nat} {rs : List (Sen × Nat)}
theorem LpI.len {F Dn : List (List Int)} (I : LpI m rs F Dn) (B : BkOk m rs) : Dn.length ≤ 1365 := Nat.le_trans (nd_le _ _ I.dn I.ss) (ssF_len B)
theorem some_cyl (B : BkOk m rs) : ∃ s ∈ ssF m rs, ∃ n, CyL m rs s n := by
  cases e : ssF m rs with
  | nil => exact absurd e (stF_ne m _)
  | cons s l =>
    have hs : s ∈ ssF m rs := by rw [e]; exact List.mem_cons_self
    obtain ⟨n, C⟩ := cyl_far B hs
    exact ⟨_, e ▸ ss_N B hs 1366, n, C⟩
theorem LapL.ne {F : List (List Int)} (L : LapL m rs F) (B : BkOk m rs) : F ≠ [] := fun e => by
  obtain ⟨s, hs, n, C⟩ := some_cyl B
  have := (L.mem _).mpr ⟨s, hs, n, C, rfl⟩
  rw [e] at this
  cases this
theorem LapL.row {F : List (List Int)} (L : LapL m rs F) (B : BkOk m rs) {r : List Int} (h : r ∈ F) : 0 < r.length ∧ r.length ≤ 1365 ∧ Wi (m : Int) r := by
  obtain ⟨s, hs, n, C, rfl⟩ := (L.mem _).mp h
  have p : 0 < (dlF m rs s n).length := by rw [dlF_len]; exact C.pos
  obtain ⟨j, e⟩ := (rots_row B hs C).mp (trn_ok p).1
  rw [e]
  have nd : (stL m rs s n).Nodup := by
    refine Classical.byContradiction fun q => ?_
    obtain ⟨i, k, h1, h2, h3⟩ := not_nd q
    exact (C.fwd i).min (k - i) (by omega) (by omega) (by rw [← stN_add, show i + (k - i) = k by omega, ← h3])
  have := st_again B (ss_ok hs).1 (ss_ok hs).2 nd
  exact ⟨by rw [dlF_len]; exact C.pos, by rw [dlF_len]; exact this, dlF_wi B _ _⟩
end
end PL
namespace PL
open PySem L2
section
variable {Γ : Fe} {m : Nat} {rs : List (Sen × Nat)}
end
end PL
namespace PL
open PySem L2
section
variable {m : Nat} {rs : List (Sen × Nat)} {w : Nat}
end
end PL
namespace PL
open PySem L2
section
variable {Γ : Fe}
end
end PL
namespace PL
open PySem L2
section
variable {m : Nat} {rs : List (Sen × Nat)} {w : Nat}
end
end PL
namespace PL
open PySem L2
section
variable {m : Nat} {ws h l : List Int}
end
end PL
namespace PL
open PySem L2
section
variable {m : Nat} {rs : List (Sen × Nat)}
end
end PL
namespace PL.K44
open PySem L2 PyProof.Rows
/-! ### the defs, as functions -/
def gl0 : Nat → PL.D := fun k => if k = 0 then .int 6 else .non
def fo0 : Nat → Nat → Bool := fun c f => false
def tb0 : List (Nat × Nat × Bool) := []
def ra0 : List Nat := []
def rz0 : List Nat := []
noncomputable def E0 : Fe := { fn := fun _ _ => .bad, me := fun _ _ _ => .bad, ma := fun _ _ => .bad, gl := gl0, fo := fo0, mh := fun _ _ => false, sub := subT tb0, rz := rzT rz0, ra := rzT ra0 }
/-- _law_cell_at: _law_script, _law_k -/
def b0 : List PL.St := [.ife (.cmp .lt (.var 1) (.bi .len [.var 0])) [.ret (.ix (.var 0) (.var 1))] [], .ret (.con (.int 0))]
noncomputable def f0 : List PL.D → Res := runF E0 2 2 b0
noncomputable def E1 : Fe := E0.addFn 0 f0
/-- _law_draw: _law_cell, _law_k, _law_bound, _law_stir, _law_left, _law_j -/
def b1L0 : List PL.St := [.asg 4 (.bin .fdiv (.var 4) (.var 2)) .imm]
def b1 : List PL.St := [.ife (.cmp .ge (.var 0) (.bin .pow (.con (.int 10)) (.con (.int 18)))) [.asg 4 (.var 0) (.fz [0]), .fo .rng1 [.var 1] [5] [] .imm b1L0, .ret (.bin .mod (.var 4) (.var 2))] [], .asg 3 (.bin .mod (.bin .mul (.bin .add (.bin .add (.bin .mod (.var 0) (.con (.int 1000000007))) (.bin .mul (.con (.int 1009)) (.var 1))) (.con (.int 17))) (.con (.int 69621))) (.con (.int 2147483647))) .imm, .asg 3 (.bin .mod (.bin .add (.bin .add (.bin .mul (.var 3) (.var 3)) (.bin .mul (.con (.int 40503)) (.var 1))) (.con (.int 5))) (.con (.int 2147483629))) .imm, .ret (.bin .mod (.bin .fdiv (.bin .mod (.bin .mul (.var 3) (.con (.int 48271))) (.con (.int 2147483647))) (.con (.int 32))) (.var 2))]
noncomputable def f1 : List PL.D → Res := runF E1 6 3 b1
noncomputable def E2 : Fe := E1.addFn 1 f1
/-- _law_choices: _law_script, _law_at, _law_many, _law_size, _law_found, _law_k -/
def b2L0 : List PL.St := [.app 4 [] (.call 1 [.call 0 [.var 0, .bin .add (.var 1) (.bin .fdiv (.var 5) (.con (.int 12)))], .bin .add (.con (.int 3)) (.bin .mod (.var 5) (.con (.int 12))), .var 2]) .imm]
def b2 : List PL.St := [.asg 4 (.lst []) (.fz []), .fo .rng1 [.var 3] [5] [] .imm b2L0, .retv 4]
noncomputable def f2 : List PL.D → Res := runF E2 6 4 b2
noncomputable def E3 : Fe := E2.addFn 2 f2
@[simp] theorem e2_0 : E2.fn 0 = f0 := rfl
@[simp] theorem e2_1 : E2.fn 1 = f1 := rfl
/-- _law_running: _law_script, _law_at, _law_many, _law_cell, _law_size, _law_head, _law_lap, _law_cut -/
def b3 : List PL.St := [.asg 3 (.call 0 [.var 0, .var 1]) (.fz [0, 1]), .asg 4 (.ix (.lst [.bin .add (.con (.int 1)) (.call 1 [.var 3, .con (.int 0), .con (.int 6)]), .bin .add (.con (.int 13)) (.call 1 [.var 3, .con (.int 0), .con (.int 36)])]) (.bi .int [.cmp .eq (.call 1 [.var 3, .con (.int 2), .con (.int 8)]) (.con (.int 1))])) (.fz [3]), .asg 5 (.call 2 [.var 0, .bin .add (.var 1) (.con (.int 1)), .var 2, .ix (.lst [.call 1 [.var 3, .con (.int 1), .con (.int 7)], .con (.int 20)]) (.bi .int [.cmp .eq (.call 1 [.var 3, .con (.int 2), .con (.int 8)]) (.con (.int 2))])]) (.fz [0, 1, 2, 3]), .asg 6 (.call 2 [.var 0, .bin .add (.var 1) (.con (.int 3)), .var 2, .var 4]) (.fz [0, 1, 2, 4]), .ife (.cmp .eq (.call 1 [.var 3, .con (.int 3), .con (.int 3)]) (.con (.int 1))) [.asg 6 (.bin .mul (.var 6) (.bin .add (.con (.int 1)) (.call 1 [.var 3, .con (.int 4), .con (.int 3)]))) .imm] [], .ife (.cmp .eq (.call 1 [.var 3, .con (.int 5), .con (.int 3)]) (.con (.int 1))) [.asg 7 (.call 1 [.var 3, .con (.int 6), .bin .add (.bi .len [.var 6]) (.con (.int 1))]) .imm, .asg 5 (.bin .add (.var 5) (.sl (.var 6) .omit (.var 7))) (.fz [5, 6, 7]), .asg 6 (.bin .add (.sl (.var 6) (.var 7) .omit) (.sl (.var 6) .omit (.var 7))) (.fz [6, 7])] [], .rett [5, 6]]
noncomputable def f3 : List PL.D → Res := runF E3 8 3 b3
noncomputable def E4 : Fe := E3.addFn 3 f3
@[simp] theorem e3_0 : E3.fn 0 = f0 := rfl
@[simp] theorem e3_1 : E3.fn 1 = f1 := rfl
@[simp] theorem e3_2 : E3.fn 2 = f2 := rfl
/-- _law_unrolled: _law_running_here, _law_turns, _law_found -/
def b4C0 : Ex := .cmp .lt (.bi .len [.var 2]) (.var 1)
def b4L0 : List PL.St := [.ext 2 [] (.ix (.var 0) (.con (.int 1)))]
def b4 : List PL.St := [.asg 2 (.bi .list [.ix (.var 0) (.con (.int 0))]) (.fz [0]), .whl b4C0 b4L0, .ret (.sl (.var 2) .omit (.var 1))]
noncomputable def f4 : List PL.D → Res := runF E4 3 2 b4
noncomputable def E5 : Fe := E4.addFn 4 f4
/-- _law_changed: _law_running_here, _law_cell, _law_row, _law_at, _law_head, _law_lap -/
def b5 : List PL.St := [.asgs [4, 5] (.var 0) (.fz [0]), .asg 2 (.call 4 [.var 0, .bin .add (.bi .len [.var 4]) (.bin .mul (.con (.int 2)) (.bi .len [.var 5]))]) (.fz [0, 4, 5]), .asg 3 (.call 1 [.var 1, .con (.int 9), .bi .len [.var 2]]) .imm, .setp 2 [] (.var 3) (.bin .mod (.bin .add (.bin .add (.ix (.var 2) (.var 3)) (.con (.int 1))) (.call 1 [.var 1, .con (.int 10), .con (.int 5)])) (.con (.int 6))) .imm, .ret (.tup [.bin .add (.var 3) (.con (.int 1)), .tup [.var 2, .bi .list [.var 5]]])]
noncomputable def f5 : List PL.D → Res := runF E5 6 2 b5
noncomputable def E6 : Fe := E5.addFn 5 f5
@[simp] theorem e5_1 : E5.fn 1 = f1 := rfl
@[simp] theorem e5_4 : E5.fn 4 = f4 := rfl
/-- _law_apart: _law_one, _law_other, _law_far, _law_turn, _law_pair -/
def b6L0 : List PL.St := [.ife (.cmp .ne (.ix (.var 4) (.con (.int 0))) (.ix (.var 4) (.con (.int 1)))) [.ret (.bin .add (.var 3) (.con (.int 1)))] []]
def b6 : List PL.St := [.asg 2 (.bin .add (.bi .max2 [.bi .len [.ix (.var 0) (.con (.int 0))], .bi .len [.ix (.var 1) (.con (.int 0))]]) (.bin .mul (.bi .len [.ix (.var 0) (.con (.int 1))]) (.bi .len [.ix (.var 1) (.con (.int 1))]))) .imm, .fo .ezip [.call 4 [.var 0, .var 2], .call 4 [.var 1, .var 2]] [3, 4] [] (.fz [0, 1, 2]) b6L0, .ret (.con .non)]
noncomputable def f6 : List PL.D → Res := runF E6 5 2 b6
noncomputable def E7 : Fe := E6.addFn 6 f6
@[simp] theorem e6_4 : E6.fn 4 = f4 := rfl
/-- is_whole: thing -/
def b7 : List PL.St := [.ret (.and (.isi (.var 0) .int) (.not (.isi (.var 0) .bool)))]
noncomputable def f7 : List PL.D → Res := runF E7 1 1 b7
noncomputable def E8 : Fe := E7.addFn 7 f7
/-- is_within: thing, low, high -/
def b8 : List PL.St := [.ret (.and (.call 7 [.var 0]) (.cmp2 .le .le (.var 1) (.var 0) (.var 2)))]
noncomputable def f8 : List PL.D → Res := runF E8 3 3 b8
noncomputable def E9 : Fe := E8.addFn 8 f8
@[simp] theorem e8_7 : E8.fn 7 = f7 := rfl
/-- are_claimants: thing, many, one -/
def b9X0 : Ex := .call 8 [.var 2, .con (.int 0), .bin .sub (.var 1) (.con (.int 1))]
def b9 : List PL.St := [.ret (.and (.isi (.var 0) .list) (.bi .all [.comp .seq [.var 0] [2] b9X0]))]
noncomputable def f9 : List PL.D → Res := runF E9 3 2 b9
noncomputable def E10 : Fe := E9.addFn 9 f9
@[simp] theorem e9_8 : E9.fn 8 = f8 := rfl
/-- is_running: thing -/
def b10 : List PL.St := [.ife (.or (.not (.isi (.var 0) .tuple)) (.or (.cmp .ne (.bi .len [.var 0]) (.con (.int 2))) (.not (.call 9 [.ix (.var 0) (.con (.int 0)), .glo 0])))) [.ret (.con (.bl false))] [], .ret (.and (.call 9 [.ix (.var 0) (.con (.int 1)), .glo 0]) (.cmp .gt (.bi .len [.ix (.var 0) (.con (.int 1))]) (.con (.int 0))))]
noncomputable def f10 : List PL.D → Res := runF E10 1 1 b10
noncomputable def E11 : Fe := E10.addFn 10 f10
@[simp] theorem e10_9 : E10.fn 9 = f9 := rfl
@[simp] theorem eg10_0 : E10.gl 0 = .int 6 := rfl
/-- check_running: thing -/
def b11 : List PL.St := [.ife (.not (.call 10 [.var 0])) [.dead] []]
noncomputable def f11 : List PL.D → Res := runF E11 1 1 b11
noncomputable def E12 : Fe := E11.addFn 11 f11
@[simp] theorem e11_10 : E11.fn 10 = f10 := rfl
/-- root_of: lap, size -/
def b12C0 : Ex := .cmp .ne (.bin .mul (.sl (.var 0) .omit (.var 1)) (.bin .fdiv (.bi .len [.var 0]) (.var 1))) (.var 0)
def b12L0 : List PL.St := [.aug 1 (.con (.int 1))]
def b12 : List PL.St := [.asg 1 (.con (.int 1)) .imm, .whl b12C0 b12L0, .ret (.sl (.var 0) .omit (.var 1))]
noncomputable def f12 : List PL.D → Res := runF E12 2 1 b12
noncomputable def E13 : Fe := E12.addFn 12 f12
/-- least_of: running, head, lap -/
def b13C0 : Ex := .and (.cmp .ne (.var 1) (.lst [])) (.cmp .eq (.ix (.var 1) (.neg (.con (.int 1)))) (.ix (.var 2) (.neg (.con (.int 1)))))
def b13L0 : List PL.St := [.asg 1 (.sl (.var 1) .omit (.neg (.con (.int 1)))) (.fz [1]), .asg 2 (.bin .add (.sl (.var 2) (.neg (.con (.int 1))) .omit) (.sl (.var 2) .omit (.neg (.con (.int 1))))) (.fz [2])]
def b13 : List PL.St := [.ex (.call 11 [.var 0]), .asg 1 (.bi .list [.ix (.var 0) (.con (.int 0))]) (.fz [0]), .asg 2 (.call 12 [.bi .list [.ix (.var 0) (.con (.int 1))]]) (.fz [0]), .whl b13C0 b13L0, .rett [1, 2]]
noncomputable def f13 : List PL.D → Res := runF E13 3 1 b13
noncomputable def E14 : Fe := E13.addFn 13 f13
@[simp] theorem e13_11 : E13.fn 11 = f11 := rfl
@[simp] theorem e13_12 : E13.fn 12 = f12 := rfl
/-- choice_in_row: running, turn, head, lap -/
def b14 : List PL.St := [.asgs [2, 3] (.var 0) (.fz [0]), .ife (.cmp .le (.var 1) (.bi .len [.var 2])) [.ret (.ix (.var 2) (.bin .sub (.var 1) (.con (.int 1))))] [], .ret (.ix (.var 3) (.bin .mod (.bin .sub (.bin .sub (.var 1) (.bi .len [.var 2])) (.con (.int 1))) (.bi .len [.var 3])))]
noncomputable def f14 : List PL.D → Res := runF E14 4 2 b14
noncomputable def E15 : Fe := E14.addFn 14 f14
/-- first_apart: one, other, turn -/
def b15C0 : Ex := .cmp .eq (.call 14 [.var 0, .var 2]) (.call 14 [.var 1, .var 2])
def b15L0 : List PL.St := [.aug 2 (.con (.int 1))]
def b15 : List PL.St := [.ife (.cmp .eq (.call 13 [.var 0]) (.call 13 [.var 1])) [.ret (.con .non)] [], .asg 2 (.con (.int 1)) .imm, .whl b15C0 b15L0, .retv 2]
noncomputable def f15 : List PL.D → Res := runF E15 3 2 b15
noncomputable def E16 : Fe := E15.addFn 15 f15
@[simp] theorem e15_13 : E15.fn 13 = f13 := rfl
@[simp] theorem e15_14 : E15.fn 14 = f14 := rfl
/-- law: _law_script, _law_cell, _law_first, _law_second, _law_cut, _law_turned, _law_asked, _law_at, _law_changed_here, _law_one, _law_other, _law_due -/
def b16L0 : List PL.St := [.ife (.or (.cmp .ne (.bi .reprL [.call 15 [.var 9, .var 10]]) (.bi .reprL [.var 11])) (.cmp .ne (.bi .reprL [.call 15 [.var 10, .var 9]]) (.bi .reprL [.var 11]))) [.ret (.con (.bl false))] []]
def b16 : List PL.St := [.asg 1 (.call 0 [.var 0, .con (.int 0)]) (.fz [0]), .asg 2 (.call 3 [.var 0, .con (.int 1), .bin .add (.con (.int 1)) (.call 1 [.var 1, .con (.int 0), .con (.int 6)])]) (.fz [0, 1]), .asg 3 (.call 3 [.var 0, .con (.int 9), .bin .add (.con (.int 1)) (.call 1 [.var 1, .con (.int 1), .con (.int 3)])]) (.fz [0, 1]), .asg 4 (.call 1 [.var 1, .con (.int 2), .bin .add (.bi .len [.ix (.var 2) (.con (.int 1))]) (.con (.int 1))]) .imm, .asg 5 (.tup [.bin .add (.bin .add (.ix (.var 2) (.con (.int 0))) (.bin .mul (.ix (.var 2) (.con (.int 1))) (.con (.int 2)))) (.sl (.ix (.var 2) (.con (.int 1))) .omit (.var 4)), .bin .add (.sl (.ix (.var 2) (.con (.int 1))) (.var 4) .omit) (.sl (.ix (.var 2) (.con (.int 1))) .omit (.var 4))]) (.fz [2, 4]), .asgs [7, 8] (.call 5 [.var 2, .var 1]) (.fz [1, 2]), .asg 6 (.lst [.tup [.var 2, .var 3, .call 6 [.var 2, .var 3]], .tup [.var 2, .var 5, .con .non], .tup [.var 2, .var 8, .var 7]]) (.fz [2, 3, 5, 7, 8]), .app 6 [] (.tup [.var 3, .var 8, .call 6 [.var 3, .var 8]]) (.fz [3, 8]), .fo .seq [.bin .add (.var 6) (.sl (.var 6) .omit (.con (.int 1)))] [9, 10, 11] [] (.fz [6]) b16L0, .ret (.con (.bl true))]
noncomputable def f16 : List PL.D → Res := runF E16 12 1 b16
noncomputable def E17 : Fe := E16.addFn 16 f16
@[simp] theorem e16_0 : E16.fn 0 = f0 := rfl
@[simp] theorem e16_1 : E16.fn 1 = f1 := rfl
@[simp] theorem e16_3 : E16.fn 3 = f3 := rfl
@[simp] theorem e16_5 : E16.fn 5 = f5 := rfl
@[simp] theorem e16_6 : E16.fn 6 = f6 := rfl
@[simp] theorem e16_15 : E16.fn 15 = f15 := rfl
/-! ### the tie -/
def top (i : Nat) : Stmt := PySem.Challenge.pw_dueturns_k44_first_apart.main.body.getD i (.Pass ⟨0, 0, 0, 0⟩)
theorem sc0 : FnScope ["_law_script", "_law_k"] ["_law_script", "_law_k"] (defScope (top 16)) := ⟨rfl, rfl, rfl, by decide +kernel, rfl, by decide +kernel, by decide +kernel⟩
theorem sc1 : FnScope ["_law_cell", "_law_k", "_law_bound", "_law_stir", "_law_left", "_law_j"] ["_law_cell", "_law_k", "_law_bound"] (defScope (top 17)) := ⟨rfl, rfl, rfl, by decide +kernel, rfl, by decide +kernel, by decide +kernel⟩
theorem sc2 : FnScope ["_law_script", "_law_at", "_law_many", "_law_size", "_law_found", "_law_k"] ["_law_script", "_law_at", "_law_many", "_law_size"] (defScope (top 18)) := ⟨rfl, rfl, rfl, by decide +kernel, rfl, by decide +kernel, by decide +kernel⟩
theorem sc3 : FnScope ["_law_script", "_law_at", "_law_many", "_law_cell", "_law_size", "_law_head", "_law_lap", "_law_cut"] ["_law_script", "_law_at", "_law_many"] (defScope (top 19)) := ⟨rfl, rfl, rfl, by decide +kernel, rfl, by decide +kernel, by decide +kernel⟩
theorem sc4 : FnScope ["_law_running_here", "_law_turns", "_law_found"] ["_law_running_here", "_law_turns"] (defScope (top 20)) := ⟨rfl, rfl, rfl, by decide +kernel, rfl, by decide +kernel, by decide +kernel⟩
theorem sc5 : FnScope ["_law_running_here", "_law_cell", "_law_row", "_law_at", "_law_head", "_law_lap"] ["_law_running_here", "_law_cell"] (defScope (top 21)) := ⟨rfl, rfl, rfl, by decide +kernel, rfl, by decide +kernel, by decide +kernel⟩
theorem sc6 : FnScope ["_law_one", "_law_other", "_law_far", "_law_turn", "_law_pair"] ["_law_one", "_law_other"] (defScope (top 22)) := ⟨rfl, rfl, rfl, by decide +kernel, rfl, by decide +kernel, by decide +kernel⟩
theorem sc7 : FnScope ["thing"] ["thing"] (defScope (top 4)) := ⟨rfl, rfl, rfl, by decide +kernel, rfl, by decide +kernel, by decide +kernel⟩
theorem sc8 : FnScope ["thing", "low", "high"] ["thing", "low", "high"] (defScope (top 7)) := ⟨rfl, rfl, rfl, by decide +kernel, rfl, by decide +kernel, by decide +kernel⟩
theorem sc9 : FnScope ["thing", "many", "one"] ["thing", "many"] (defScope (top 8)) := ⟨rfl, rfl, rfl, by decide +kernel, rfl, by decide +kernel, by decide +kernel⟩
theorem sc10 : FnScope ["thing"] ["thing"] (defScope (top 9)) := ⟨rfl, rfl, rfl, by decide +kernel, rfl, by decide +kernel, by decide +kernel⟩
theorem sc11 : FnScope ["thing"] ["thing"] (defScope (top 10)) := ⟨rfl, rfl, rfl, by decide +kernel, rfl, by decide +kernel, by decide +kernel⟩
theorem sc12 : FnScope ["lap", "size"] ["lap"] (defScope (top 12)) := ⟨rfl, rfl, rfl, by decide +kernel, rfl, by decide +kernel, by decide +kernel⟩
theorem sc13 : FnScope ["running", "head", "lap"] ["running"] (defScope (top 13)) := ⟨rfl, rfl, rfl, by decide +kernel, rfl, by decide +kernel, by decide +kernel⟩
theorem sc14 : FnScope ["running", "turn", "head", "lap"] ["running", "turn"] (defScope (top 11)) := ⟨rfl, rfl, rfl, by decide +kernel, rfl, by decide +kernel, by decide +kernel⟩
theorem sc15 : FnScope ["one", "other", "turn"] ["one", "other"] (defScope (top 14)) := ⟨rfl, rfl, rfl, by decide +kernel, rfl, by decide +kernel, by decide +kernel⟩
theorem sc16 : FnScope ["_law_script", "_law_cell", "_law_first", "_law_second", "_law_cut", "_law_turned", "_law_asked", "_law_at", "_law_changed_here", "_law_one", "_law_other", "_law_due"] ["_law_script"] (defScope (top 23)) := ⟨rfl, rfl, rfl, by decide +kernel, rfl, by decide +kernel, by decide +kernel⟩
def u0 : Tab := { N := [], gn := [], at_ := [], me := [] }
def u1 : Tab := { u0 with gn := ("len", .non) :: u0.gn }
def u2 : Tab := { u1 with gn := ("range", .non) :: u1.gn }
def u3 : Tab := { u2 with gn := ("int", .non) :: u2.gn }
def u4 : Tab := { u3 with gn := ("list", .non) :: u3.gn }
def u5 : Tab := { u4 with gn := ("max", .non) :: u4.gn }
def u6 : Tab := { u5 with gn := ("enumerate", .non) :: u5.gn }
def u7 : Tab := { u6 with gn := ("zip", .non) :: u6.gn }
def u8 : Tab := { u7 with gn := ("repr", .non) :: u7.gn }
def u9 : Tab := { u8 with gn := ("isinstance", .non) :: u8.gn }
def u10 : Tab := { u9 with gn := ("tuple", .non) :: u9.gn }
def u11 : Tab := { u10 with gn := ("all", .non) :: u10.gn }
def u12 : Tab := { u11 with gn := ("bool", .non) :: u11.gn }
def u13 : Tab := { u12 with gn := ("MOST_CLAIMANTS", .con 0) :: u12.gn }
def t0 : Tab := { N := [], gn := [(("MOST_CLAIMANTS" : Str), PL.GK.con 0), (("bool" : Str), PL.GK.non), (("all" : Str), PL.GK.non), (("tuple" : Str), PL.GK.non), (("isinstance" : Str), PL.GK.non), (("repr" : Str), PL.GK.non), (("zip" : Str), PL.GK.non), (("enumerate" : Str), PL.GK.non), (("max" : Str), PL.GK.non), (("list" : Str), PL.GK.non), (("int" : Str), PL.GK.non), (("range" : Str), PL.GK.non), (("len" : Str), PL.GK.non)], at_ := [], me := [] }
def t1 : Tab := { t0 with gn := ("_law_cell_at", .fn 0) :: t0.gn }
def t2 : Tab := { t1 with gn := ("_law_draw", .fn 1) :: t1.gn }
def t3 : Tab := { t2 with gn := ("_law_choices", .fn 2) :: t2.gn }
def t4 : Tab := { t3 with gn := ("_law_running", .fn 3) :: t3.gn }
def t5 : Tab := { t4 with gn := ("_law_unrolled", .fn 4) :: t4.gn }
def t6 : Tab := { t5 with gn := ("_law_changed", .fn 5) :: t5.gn }
def t7 : Tab := { t6 with gn := ("_law_apart", .fn 6) :: t6.gn }
def t8 : Tab := { t7 with gn := ("is_whole", .fn 7) :: t7.gn }
def t9 : Tab := { t8 with gn := ("is_within", .fn 8) :: t8.gn }
def t10 : Tab := { t9 with gn := ("are_claimants", .fn 9) :: t9.gn }
def t11 : Tab := { t10 with gn := ("is_running", .fn 10) :: t10.gn }
def t12 : Tab := { t11 with gn := ("check_running", .fn 11) :: t11.gn }
def t13 : Tab := { t12 with gn := ("root_of", .fn 12) :: t12.gn }
def t14 : Tab := { t13 with gn := ("least_of", .fn 13) :: t13.gn }
def t15 : Tab := { t14 with gn := ("choice_in_row", .fn 14) :: t14.gn }
def t16 : Tab := { t15 with gn := ("first_apart", .fn 15) :: t15.gn }
def t17 : Tab := { t16 with gn := ("law", .fn 16) :: t16.gn }
theorem ck0 : ckB (ckS 60 (t0.names ["_law_script", "_law_k"]) (defScope (top 16))) (defBody (top 16)) b0 = true := by decide +kernel
theorem ck1 : ckB (ckS 60 (t1.names ["_law_cell", "_law_k", "_law_bound", "_law_stir", "_law_left", "_law_j"]) (defScope (top 17))) (defBody (top 17)) b1 = true := by decide +kernel
theorem ck2 : ckB (ckS 60 (t2.names ["_law_script", "_law_at", "_law_many", "_law_size", "_law_found", "_law_k"]) (defScope (top 18))) (defBody (top 18)) b2 = true := by decide +kernel
theorem ck3 : ckB (ckS 60 (t3.names ["_law_script", "_law_at", "_law_many", "_law_cell", "_law_size", "_law_head", "_law_lap", "_law_cut"]) (defScope (top 19))) (defBody (top 19)) b3 = true := by decide +kernel
theorem ck4 : ckB (ckS 60 (t4.names ["_law_running_here", "_law_turns", "_law_found"]) (defScope (top 20))) (defBody (top 20)) b4 = true := by decide +kernel
theorem ck5 : ckB (ckS 60 (t5.names ["_law_running_here", "_law_cell", "_law_row", "_law_at", "_law_head", "_law_lap"]) (defScope (top 21))) (defBody (top 21)) b5 = true := by decide +kernel
theorem ck6 : ckB (ckS 60 (t6.names ["_law_one", "_law_other", "_law_far", "_law_turn", "_law_pair"]) (defScope (top 22))) (defBody (top 22)) b6 = true := by decide +kernel
theorem ck7 : ckB (ckS 60 (t7.names ["thing"]) (defScope (top 4))) (defBody (top 4)) b7 = true := by decide +kernel
theorem ck8 : ckB (ckS 60 (t8.names ["thing", "low", "high"]) (defScope (top 7))) (defBody (top 7)) b8 = true := by decide +kernel
theorem ck9 : ckB (ckS 60 (t9.names ["thing", "many", "one"]) (defScope (top 8))) (defBody (top 8)) b9 = true := by decide +kernel
theorem ck10 : ckB (ckS 60 (t10.names ["thing"]) (defScope (top 9))) (defBody (top 9)) b10 = true := by decide +kernel
theorem ck11 : ckB (ckS 60 (t11.names ["thing"]) (defScope (top 10))) (defBody (top 10)) b11 = true := by decide +kernel
theorem ck12 : ckB (ckS 60 (t12.names ["lap", "size"]) (defScope (top 12))) (defBody (top 12)) b12 = true := by decide +kernel
theorem ck13 : ckB (ckS 60 (t13.names ["running", "head", "lap"]) (defScope (top 13))) (defBody (top 13)) b13 = true := by decide +kernel
theorem ck14 : ckB (ckS 60 (t14.names ["running", "turn", "head", "lap"]) (defScope (top 11))) (defBody (top 11)) b14 = true := by decide +kernel
theorem ck15 : ckB (ckS 60 (t15.names ["one", "other", "turn"]) (defScope (top 14))) (defBody (top 14)) b15 = true := by decide +kernel
theorem ck16 : ckB (ckS 60 (t16.namesG ["_law_script", "_law_cell", "_law_first", "_law_second", "_law_cut", "_law_turned", "_law_asked", "_law_at", "_law_changed_here", "_law_one", "_law_other", "_law_due"]) (defScope (top 23))) (defBody (top 23)) b16 = true := by decide +kernel
theorem all_mk {l : PySem.W.OpenLaw} {w : World} {K : PySem.W.Frag} {h : Heap} {mg : Str → Option Value} {fa : Addr} (X : K.In h) (G : h.Ns mainGlobals mg) (hfa : mg "law" = some (.ref fa))
    {a0 a1 a2 a3 a4 a5 a6 a7 a8 a9 a10 a11 a12 a13 a14 a15 a16 : Addr} {od0 an0 od1 an1 od2 an2 od3 an3 od4 an4 od5 an5 od6 an6 od7 an7 od8 an8 od9 an9 od10 an10 od11 an11 od12 an12 od13 an13 od14 an14 od15 an15 od16 an16 : Option Addr} {sl0 sl1 sl2 sl3 sl4 sl5 sl6 sl7 sl8 sl9 sl10 sl11 sl12 sl13 sl14 sl15 sl16 : Array (Option Value)} {oc0 kV0 dc0 pm0 cd0 ct0 oc1 kV1 dc1 pm1 cd1 ct1 oc2 kV2 dc2 pm2 cd2 ct2 oc3 kV3 dc3 pm3 cd3 ct3 oc4 kV4 dc4 pm4 cd4 ct4 oc5 kV5 dc5 pm5 cd5 ct5 oc6 kV6 dc6 pm6 cd6 ct6 oc7 kV7 dc7 pm7 cd7 ct7 oc8 kV8 dc8 pm8 cd8 ct8 oc9 kV9 dc9 pm9 cd9 ct9 oc10 kV10 dc10 pm10 cd10 ct10 oc11 kV11 dc11 pm11 cd11 ct11 oc12 kV12 dc12 pm12 cd12 ct12 oc13 kV13 dc13 pm13 cd13 ct13 oc14 kV14 dc14 pm14 cd14 ct14 oc15 kV15 dc15 pm15 cd15 ct15 oc16 kV16 dc16 pm16 cd16 ct16 : Value}
    (x0 : PySem.W.nsIn K mainGlobals "_law_cell_at" = some (some (.ref a0)))
    (l0 : K.lookup a0 = some ⟨oc0, od0, .func (PySem.W.fnOf "_law_cell_at" "_law_cell_at" (defArgs (top 16)) (defBody (top 16)) (defScope (top 16)) .none kV0 dc0 pm0 an0 cd0 ct0), sl0⟩)
    (c0 : PySem.W.codeIn K cd0 "_law_cell_at" = true) (k0 : PySem.W.keepIn K (.ref a0) = true)
    (x1 : PySem.W.nsIn K mainGlobals "_law_draw" = some (some (.ref a1)))
    (l1 : K.lookup a1 = some ⟨oc1, od1, .func (PySem.W.fnOf "_law_draw" "_law_draw" (defArgs (top 17)) (defBody (top 17)) (defScope (top 17)) .none kV1 dc1 pm1 an1 cd1 ct1), sl1⟩)
    (c1 : PySem.W.codeIn K cd1 "_law_draw" = true) (k1 : PySem.W.keepIn K (.ref a1) = true)
    (x2 : PySem.W.nsIn K mainGlobals "_law_choices" = some (some (.ref a2)))
    (l2 : K.lookup a2 = some ⟨oc2, od2, .func (PySem.W.fnOf "_law_choices" "_law_choices" (defArgs (top 18)) (defBody (top 18)) (defScope (top 18)) .none kV2 dc2 pm2 an2 cd2 ct2), sl2⟩)
    (c2 : PySem.W.codeIn K cd2 "_law_choices" = true) (k2 : PySem.W.keepIn K (.ref a2) = true)
    (x3 : PySem.W.nsIn K mainGlobals "_law_running" = some (some (.ref a3)))
    (l3 : K.lookup a3 = some ⟨oc3, od3, .func (PySem.W.fnOf "_law_running" "_law_running" (defArgs (top 19)) (defBody (top 19)) (defScope (top 19)) .none kV3 dc3 pm3 an3 cd3 ct3), sl3⟩)
    (c3 : PySem.W.codeIn K cd3 "_law_running" = true) (k3 : PySem.W.keepIn K (.ref a3) = true)
    (x4 : PySem.W.nsIn K mainGlobals "_law_unrolled" = some (some (.ref a4)))
    (l4 : K.lookup a4 = some ⟨oc4, od4, .func (PySem.W.fnOf "_law_unrolled" "_law_unrolled" (defArgs (top 20)) (defBody (top 20)) (defScope (top 20)) .none kV4 dc4 pm4 an4 cd4 ct4), sl4⟩)
    (c4 : PySem.W.codeIn K cd4 "_law_unrolled" = true) (k4 : PySem.W.keepIn K (.ref a4) = true)
    (x5 : PySem.W.nsIn K mainGlobals "_law_changed" = some (some (.ref a5)))
    (l5 : K.lookup a5 = some ⟨oc5, od5, .func (PySem.W.fnOf "_law_changed" "_law_changed" (defArgs (top 21)) (defBody (top 21)) (defScope (top 21)) .none kV5 dc5 pm5 an5 cd5 ct5), sl5⟩)
    (c5 : PySem.W.codeIn K cd5 "_law_changed" = true) (k5 : PySem.W.keepIn K (.ref a5) = true)
    (x6 : PySem.W.nsIn K mainGlobals "_law_apart" = some (some (.ref a6)))
    (l6 : K.lookup a6 = some ⟨oc6, od6, .func (PySem.W.fnOf "_law_apart" "_law_apart" (defArgs (top 22)) (defBody (top 22)) (defScope (top 22)) .none kV6 dc6 pm6 an6 cd6 ct6), sl6⟩)
    (c6 : PySem.W.codeIn K cd6 "_law_apart" = true) (k6 : PySem.W.keepIn K (.ref a6) = true)
    (x7 : PySem.W.nsIn K mainGlobals "is_whole" = some (some (.ref a7)))
    (l7 : K.lookup a7 = some ⟨oc7, od7, .func (PySem.W.fnOf "is_whole" "is_whole" (defArgs (top 4)) (defBody (top 4)) (defScope (top 4)) .none kV7 dc7 pm7 an7 cd7 ct7), sl7⟩)
    (c7 : PySem.W.codeIn K cd7 "is_whole" = true) (k7 : PySem.W.keepIn K (.ref a7) = true)
    (x8 : PySem.W.nsIn K mainGlobals "is_within" = some (some (.ref a8)))
    (l8 : K.lookup a8 = some ⟨oc8, od8, .func (PySem.W.fnOf "is_within" "is_within" (defArgs (top 7)) (defBody (top 7)) (defScope (top 7)) .none kV8 dc8 pm8 an8 cd8 ct8), sl8⟩)
    (c8 : PySem.W.codeIn K cd8 "is_within" = true) (k8 : PySem.W.keepIn K (.ref a8) = true)
    (x9 : PySem.W.nsIn K mainGlobals "are_claimants" = some (some (.ref a9)))
    (l9 : K.lookup a9 = some ⟨oc9, od9, .func (PySem.W.fnOf "are_claimants" "are_claimants" (defArgs (top 8)) (defBody (top 8)) (defScope (top 8)) .none kV9 dc9 pm9 an9 cd9 ct9), sl9⟩)
    (c9 : PySem.W.codeIn K cd9 "are_claimants" = true) (k9 : PySem.W.keepIn K (.ref a9) = true)
    (x10 : PySem.W.nsIn K mainGlobals "is_running" = some (some (.ref a10)))
    (l10 : K.lookup a10 = some ⟨oc10, od10, .func (PySem.W.fnOf "is_running" "is_running" (defArgs (top 9)) (defBody (top 9)) (defScope (top 9)) .none kV10 dc10 pm10 an10 cd10 ct10), sl10⟩)
    (c10 : PySem.W.codeIn K cd10 "is_running" = true) (k10 : PySem.W.keepIn K (.ref a10) = true)
    (x11 : PySem.W.nsIn K mainGlobals "check_running" = some (some (.ref a11)))
    (l11 : K.lookup a11 = some ⟨oc11, od11, .func (PySem.W.fnOf "check_running" "check_running" (defArgs (top 10)) (defBody (top 10)) (defScope (top 10)) .none kV11 dc11 pm11 an11 cd11 ct11), sl11⟩)
    (c11 : PySem.W.codeIn K cd11 "check_running" = true) (k11 : PySem.W.keepIn K (.ref a11) = true)
    (x12 : PySem.W.nsIn K mainGlobals "root_of" = some (some (.ref a12)))
    (l12 : K.lookup a12 = some ⟨oc12, od12, .func (PySem.W.fnOf "root_of" "root_of" (defArgs (top 12)) (defBody (top 12)) (defScope (top 12)) .none kV12 dc12 pm12 an12 cd12 ct12), sl12⟩)
    (c12 : PySem.W.codeIn K cd12 "root_of" = true) (k12 : PySem.W.keepIn K (.ref a12) = true)
    (x13 : PySem.W.nsIn K mainGlobals "least_of" = some (some (.ref a13)))
    (l13 : K.lookup a13 = some ⟨oc13, od13, .func (PySem.W.fnOf "least_of" "least_of" (defArgs (top 13)) (defBody (top 13)) (defScope (top 13)) .none kV13 dc13 pm13 an13 cd13 ct13), sl13⟩)
    (c13 : PySem.W.codeIn K cd13 "least_of" = true) (k13 : PySem.W.keepIn K (.ref a13) = true)
    (x14 : PySem.W.nsIn K mainGlobals "choice_in_row" = some (some (.ref a14)))
    (l14 : K.lookup a14 = some ⟨oc14, od14, .func (PySem.W.fnOf "choice_in_row" "choice_in_row" (defArgs (top 11)) (defBody (top 11)) (defScope (top 11)) .none kV14 dc14 pm14 an14 cd14 ct14), sl14⟩)
    (c14 : PySem.W.codeIn K cd14 "choice_in_row" = true) (k14 : PySem.W.keepIn K (.ref a14) = true)
    (x15 : PySem.W.nsIn K mainGlobals "first_apart" = some (some (.ref a15)))
    (l15 : K.lookup a15 = some ⟨oc15, od15, .func (PySem.W.fnOf "first_apart" "first_apart" (defArgs (top 14)) (defBody (top 14)) (defScope (top 14)) .none kV15 dc15 pm15 an15 cd15 ct15), sl15⟩)
    (c15 : PySem.W.codeIn K cd15 "first_apart" = true) (k15 : PySem.W.keepIn K (.ref a15) = true)
    (x16 : PySem.W.nsIn K mainGlobals "law" = some (some (.ref a16)))
    (l16 : K.lookup a16 = some ⟨oc16, od16, .func (PySem.W.fnOf "law" "law" (defArgs (top 23)) (defBody (top 23)) (defScope (top 23)) .none kV16 dc16 pm16 an16 cd16 ct16), sl16⟩)
    (c16 : PySem.W.codeIn K cd16 "law" = true) (k16 : PySem.W.keepIn K (.ref a16) = true)
    (z_len : PySem.W.nsIn K mainGlobals "len" = some none)
    (z_range : PySem.W.nsIn K mainGlobals "range" = some none)
    (z_int : PySem.W.nsIn K mainGlobals "int" = some none)
    (z_list : PySem.W.nsIn K mainGlobals "list" = some none)
    (z_max : PySem.W.nsIn K mainGlobals "max" = some none)
    (z_enumerate : PySem.W.nsIn K mainGlobals "enumerate" = some none)
    (z_zip : PySem.W.nsIn K mainGlobals "zip" = some none)
    (z_repr : PySem.W.nsIn K mainGlobals "repr" = some none)
    (z_isinstance : PySem.W.nsIn K mainGlobals "isinstance" = some none)
    (z_tuple : PySem.W.nsIn K mainGlobals "tuple" = some none)
    (z_all : PySem.W.nsIn K mainGlobals "all" = some none)
    (z_bool : PySem.W.nsIn K mainGlobals "bool" = some none)
    {tk0 : Tok} (cx0 : PySem.W.nsIn K mainGlobals "MOST_CLAIMANTS" = some (some (.int 6 tk0)))
    : ∃ (g : PL.G) (xg : XG) (fd : FuncData), (g.K = K ∧ g.TB = []) ∧ (∀ (s : Shared) (u : Value), BindsTo s fd ⟨[u], []⟩ [("_law_script", u)]) ∧
      ∀ base : Heap, K.In base → base.Ns mainGlobals mg → FnG l.prog w K mg base 17 fa fd ["_law_script"] (pSp g xg f16) := by
  have e := hfa.symm.trans (PySem.W.mg_of X G x16)
  cases e
  have F0 := fun_mk (st := (top 16)) l0 c0 k0
  have q0 := F0.binds (ps := ["_law_script", "_law_k"]) fun _ _ _ _ _ _ us hl => match us, hl with | [_, _], _ => rfl
  have F1 := fun_mk (st := (top 17)) l1 c1 k1
  have q1 := F1.binds (ps := ["_law_cell", "_law_k", "_law_bound"]) fun _ _ _ _ _ _ us hl => match us, hl with | [_, _, _], _ => rfl
  have F2 := fun_mk (st := (top 18)) l2 c2 k2
  have q2 := F2.binds (ps := ["_law_script", "_law_at", "_law_many", "_law_size"]) fun _ _ _ _ _ _ us hl => match us, hl with | [_, _, _, _], _ => rfl
  have F3 := fun_mk (st := (top 19)) l3 c3 k3
  have q3 := F3.binds (ps := ["_law_script", "_law_at", "_law_many"]) fun _ _ _ _ _ _ us hl => match us, hl with | [_, _, _], _ => rfl
  have F4 := fun_mk (st := (top 20)) l4 c4 k4
  have q4 := F4.binds (ps := ["_law_running_here", "_law_turns"]) fun _ _ _ _ _ _ us hl => match us, hl with | [_, _], _ => rfl
  have F5 := fun_mk (st := (top 21)) l5 c5 k5
  have q5 := F5.binds (ps := ["_law_running_here", "_law_cell"]) fun _ _ _ _ _ _ us hl => match us, hl with | [_, _], _ => rfl
  have F6 := fun_mk (st := (top 22)) l6 c6 k6
  have q6 := F6.binds (ps := ["_law_one", "_law_other"]) fun _ _ _ _ _ _ us hl => match us, hl with | [_, _], _ => rfl
  have F7 := fun_mk (st := (top 4)) l7 c7 k7
  have q7 := F7.binds (ps := ["thing"]) fun _ _ _ _ _ _ us hl => match us, hl with | [_], _ => rfl
  have F8 := fun_mk (st := (top 7)) l8 c8 k8
  have q8 := F8.binds (ps := ["thing", "low", "high"]) fun _ _ _ _ _ _ us hl => match us, hl with | [_, _, _], _ => rfl
  have F9 := fun_mk (st := (top 8)) l9 c9 k9
  have q9 := F9.binds (ps := ["thing", "many"]) fun _ _ _ _ _ _ us hl => match us, hl with | [_, _], _ => rfl
  have F10 := fun_mk (st := (top 9)) l10 c10 k10
  have q10 := F10.binds (ps := ["thing"]) fun _ _ _ _ _ _ us hl => match us, hl with | [_], _ => rfl
  have F11 := fun_mk (st := (top 10)) l11 c11 k11
  have q11 := F11.binds (ps := ["thing"]) fun _ _ _ _ _ _ us hl => match us, hl with | [_], _ => rfl
  have F12 := fun_mk (st := (top 12)) l12 c12 k12
  have q12 := F12.binds (ps := ["lap"]) fun _ _ _ _ _ _ us hl => match us, hl with | [_], _ => rfl
  have F13 := fun_mk (st := (top 13)) l13 c13 k13
  have q13 := F13.binds (ps := ["running"]) fun _ _ _ _ _ _ us hl => match us, hl with | [_], _ => rfl
  have F14 := fun_mk (st := (top 11)) l14 c14 k14
  have q14 := F14.binds (ps := ["running", "turn"]) fun _ _ _ _ _ _ us hl => match us, hl with | [_, _], _ => rfl
  have F15 := fun_mk (st := (top 14)) l15 c15 k15
  have q15 := F15.binds (ps := ["one", "other"]) fun _ _ _ _ _ _ us hl => match us, hl with | [_, _], _ => rfl
  have F16 := fun_mk (st := (top 23)) l16 c16 k16
  refine ⟨{ K := K, P := l.prog, w := w, CA := fun c => 0, AN := anOf [] }, ⟨xvT []⟩, _, ⟨rfl, rfl⟩, fun s v => BindsTo.of_eq (fd := PySem.W.fnOf "law" "law" (defArgs (top 23)) (defBody (top 23)) (defScope (top 23)) .none kV16 dc16 pm16 an16 cd16 ct16) rfl, fun base _ _ => ?_⟩
  obtain ⟨gg, egg⟩ : ∃ gg : PL.G, gg = { K := K, P := l.prog, w := w, CA := fun c => 0, AN := anOf [] } := ⟨_, rfl⟩
  rw [← egg]
  have gK : gg.K = K := by rw [egg]
  have gKP : gg.K = K ∧ gg.P = l.prog ∧ gg.w = w := by rw [egg]; exact ⟨rfl, rfl, rfl⟩
  have gA : gg.AN = anOf [] := by rw [egg]
  have hfo : ∀ c f, E0.fo c f = true → Cls K (gg.CA c) ∧ NoAttr K (gg.CA c) (gg.AN f) := fun c f h => by cases h
  obtain ⟨xgg, ex⟩ : ∃ xgg : XG, xgg = ⟨xvT []⟩ := ⟨_, rfl⟩
  rw [← ex]
  have v0 : xgg.XV 0 = .type "ValueError" := by first | (rw [ex]; done) | (rw [ex]; rfl)
  have xcl : ∀ c, isCl (xgg.XV c) = true := fun c => by rw [ex]; exact xvT_cl _ c
  have XF0 : XF gg xgg E0 K := ⟨by rw [egg]; exact ⟨rfl, rfl, rfl⟩, fun i j b h => tbl_all (P := fun i j b => (∃ C, xgg.XV i = .ref C ∧ ExK K C) ∧ isCl (xgg.XV j) = true ∧ PySem.W.kitOne K (xgg.XV i) (xgg.XV j) = some b) (l := tb0) trivial h, fun i j b h => tbl_all (P := fun i j b => PySem.W.exmOne K (xgg.XV i) (xgg.XV j) = some b) (l := tb0) trivial h, fun c h => rz_all (P := fun c => ∃ C, xgg.XV c = .ref C ∧ RzK K C) (l := rz0) trivial h, v0, xcl⟩
  have G0 : Gok gg xgg E0 l.prog w K mg base 0 u0 := Gok.first2 gKP (by rw [gA]; exact anOf_inj (by decide +kernel) (by decide +kernel)) (by rw [gA]; decide +kernel) (by rw [gA]; exact anOf_nes (by decide +kernel)) (fun _ _ => rfl) hfo (by rw [egg]) XF0 (fun c h => rz_all (P := fun c => (∃ C, xgg.XV c = .ref C ∧ RaK K mg C) ∧ 3 ≤ 0) (l := ra0) trivial h)
  clear egg
  have G0 : Gok gg xgg E0 l.prog w K mg base 0 u1 := G0.addNon (x := "len") (PySem.W.mg_none_of X G z_len)
  have G0 : Gok gg xgg E0 l.prog w K mg base 0 u2 := G0.addNon (x := "range") (PySem.W.mg_none_of X G z_range)
  have G0 : Gok gg xgg E0 l.prog w K mg base 0 u3 := G0.addNon (x := "int") (PySem.W.mg_none_of X G z_int)
  have G0 : Gok gg xgg E0 l.prog w K mg base 0 u4 := G0.addNon (x := "list") (PySem.W.mg_none_of X G z_list)
  have G0 : Gok gg xgg E0 l.prog w K mg base 0 u5 := G0.addNon (x := "max") (PySem.W.mg_none_of X G z_max)
  have G0 : Gok gg xgg E0 l.prog w K mg base 0 u6 := G0.addNon (x := "enumerate") (PySem.W.mg_none_of X G z_enumerate)
  have G0 : Gok gg xgg E0 l.prog w K mg base 0 u7 := G0.addNon (x := "zip") (PySem.W.mg_none_of X G z_zip)
  have G0 : Gok gg xgg E0 l.prog w K mg base 0 u8 := G0.addNon (x := "repr") (PySem.W.mg_none_of X G z_repr)
  have G0 : Gok gg xgg E0 l.prog w K mg base 0 u9 := G0.addNon (x := "isinstance") (PySem.W.mg_none_of X G z_isinstance)
  have G0 : Gok gg xgg E0 l.prog w K mg base 0 u10 := G0.addNon (x := "tuple") (PySem.W.mg_none_of X G z_tuple)
  have G0 : Gok gg xgg E0 l.prog w K mg base 0 u11 := G0.addNon (x := "all") (PySem.W.mg_none_of X G z_all)
  have G0 : Gok gg xgg E0 l.prog w K mg base 0 u12 := G0.addNon (x := "bool") (PySem.W.mg_none_of X G z_bool)
  have G0 : Gok gg xgg E0 l.prog w K mg base 0 u13 := G0.addC (x := "MOST_CLAIMANTS") (c := .con 0) ⟨.int 6, _, PySem.W.mg_of X G cx0, ⟨_, rfl⟩, fun H S => own_int⟩
  have G0 : Gok gg xgg E0 l.prog w K mg base 0 t0 := G0
  have H0 := fn_ok (T := t0) G0 F0 sc0 ck0
  have G1 : Gok gg xgg E1 l.prog w K mg base 1 t1 := G0.addFn 0 H0 (PySem.W.mg_of X G x0) k0 q0 (by decide +kernel)
  have H1 := fn_ok (T := t1) G1 F1 sc1 ck1
  have G2 : Gok gg xgg E2 l.prog w K mg base 2 t2 := G1.addFn 1 H1 (PySem.W.mg_of X G x1) k1 q1 (by decide +kernel)
  have H2 := fn_ok (T := t2) G2 F2 sc2 ck2
  have G3 : Gok gg xgg E3 l.prog w K mg base 3 t3 := G2.addFn 2 H2 (PySem.W.mg_of X G x2) k2 q2 (by decide +kernel)
  have H3 := fn_ok (T := t3) G3 F3 sc3 ck3
  have G4 : Gok gg xgg E4 l.prog w K mg base 4 t4 := G3.addFn 3 H3 (PySem.W.mg_of X G x3) k3 q3 (by decide +kernel)
  have H4 := fn_ok (T := t4) G4 F4 sc4 ck4
  have G5 : Gok gg xgg E5 l.prog w K mg base 5 t5 := G4.addFn 4 H4 (PySem.W.mg_of X G x4) k4 q4 (by decide +kernel)
  have H5 := fn_ok (T := t5) G5 F5 sc5 ck5
  have G6 : Gok gg xgg E6 l.prog w K mg base 6 t6 := G5.addFn 5 H5 (PySem.W.mg_of X G x5) k5 q5 (by decide +kernel)
  have H6 := fn_ok (T := t6) G6 F6 sc6 ck6
  have G7 : Gok gg xgg E7 l.prog w K mg base 7 t7 := G6.addFn 6 H6 (PySem.W.mg_of X G x6) k6 q6 (by decide +kernel)
  have H7 := fn_ok (T := t7) G7 F7 sc7 ck7
  have G8 : Gok gg xgg E8 l.prog w K mg base 8 t8 := G7.addFn 7 H7 (PySem.W.mg_of X G x7) k7 q7 (by decide +kernel)
  have H8 := fn_ok (T := t8) G8 F8 sc8 ck8
  have G9 : Gok gg xgg E9 l.prog w K mg base 9 t9 := G8.addFn 8 H8 (PySem.W.mg_of X G x8) k8 q8 (by decide +kernel)
  have H9 := fn_ok (T := t9) G9 F9 sc9 ck9
  have G10 : Gok gg xgg E10 l.prog w K mg base 10 t10 := G9.addFn 9 H9 (PySem.W.mg_of X G x9) k9 q9 (by decide +kernel)
  have H10 := fn_ok (T := t10) G10 F10 sc10 ck10
  have G11 : Gok gg xgg E11 l.prog w K mg base 11 t11 := G10.addFn 10 H10 (PySem.W.mg_of X G x10) k10 q10 (by decide +kernel)
  have H11 := fn_ok (T := t11) G11 F11 sc11 ck11
  have G12 : Gok gg xgg E12 l.prog w K mg base 12 t12 := G11.addFn 11 H11 (PySem.W.mg_of X G x11) k11 q11 (by decide +kernel)
  have H12 := fn_ok (T := t12) G12 F12 sc12 ck12
  have G13 : Gok gg xgg E13 l.prog w K mg base 13 t13 := G12.addFn 12 H12 (PySem.W.mg_of X G x12) k12 q12 (by decide +kernel)
  have H13 := fn_ok (T := t13) G13 F13 sc13 ck13
  have G14 : Gok gg xgg E14 l.prog w K mg base 14 t14 := G13.addFn 13 H13 (PySem.W.mg_of X G x13) k13 q13 (by decide +kernel)
  have H14 := fn_ok (T := t14) G14 F14 sc14 ck14
  have G15 : Gok gg xgg E15 l.prog w K mg base 15 t15 := G14.addFn 14 H14 (PySem.W.mg_of X G x14) k14 q14 (by decide +kernel)
  have H15 := fn_ok (T := t15) G15 F15 sc15 ck15
  have G16 : Gok gg xgg E16 l.prog w K mg base 16 t16 := G15.addFn 15 H15 (PySem.W.mg_of X G x15) k15 q15 (by decide +kernel)
  have H16 := fn_okG (T := t16) G16 F16 sc16 ck16
  exact H16
end PL.K44
namespace PL.K44
open PL
theorem f7_ok (a : Int) : f7 [.int a] = .ok (.bl true) 0 := whole_ok E7 a
variable {m M : Nat} {s : Sps} {row : List Int}
variable {m M : Nat} {s : Sps} {row : List Int}
variable {ws h l : List Int} {b : Bd}
variable {p q : Nat} {h' l' : List Int}
/-- a running, not too long -/
structure Rm (h l : List Int) : Prop where
  wh : Wi 6 h
  wl : Wi 6 l
  pos : 0 < l.length
  ll : l.length ≤ 900
  lh : h.length ≤ 2000
theorem wi_six {l : List Int} {m : Int} (w : Wi m l) (hm : m ≤ 6) : Wi 6 l := fun x hx => ⟨(w x hx).1, by have := (w x hx).2; omega⟩
theorem Rm.of {m : Int} (R : Rn m h l) (hm : m ≤ 6) : Rm h l := ⟨wi_six R.wh hm, wi_six R.wl hm, R.pos, by have := R.ll; omega, by have := R.lh; omega⟩
theorem f8_ok (a lo hi : Int) (h1 : lo ≤ a) (h2 : a ≤ hi) : f8 [.int a, .int lo, .int hi] = .ok (.bl true) 0 := within_ok (Γ := E8) (w := 7) f7_ok h1 h2
theorem f9_ok {l : List Int} {m : Int} (h : Wi m l) (hl : l.length ≤ 16777216) : f9 [.lst (lI l), .int m] = .ok (.bl true) 0 := claim_ok (Γ := E9) (v := 8) f8_ok h hl
theorem f10_ok (R : Rm h l) : f10 [dRn h l] = .ok (.bl true) 0 := isRunning_ok (Γ := E10) (c := 9) (g := 0) rfl (f9_ok R.wh (by have := R.lh; omega)) (f9_ok R.wl (by have := R.ll; omega)) R.pos
theorem f11_ok (R : Rm h l) : f11 [dRn h l] = .ok .non 0 := check1_ok (Γ := E11) (c := 10) (f10_ok R)
theorem f12_ok (R : Rm h l) (L : LP l p) : f12 [.lst (lI l)] = .ok (.lst (lI (l.take p))) 1 := root_ok (Γ := E12) R.pos (by have := R.ll; omega) L
theorem f13_ok (R : Rm h l) (L : LP l p) (Q : St0 h l p q) : f13 [dRn h l] = .ok (dRn (h.take q) (seg h l p q)) 9 :=
  least_ok (Γ := E13) (c := 11) (r := 12) R.pos (by have := R.ll; omega) (by have := R.lh; omega) L Q (f11_ok R) (f12_ok R L)
theorem f14_ok (R : Rm h l) (i : Nat) : f14 [dRn h l, .int ((i + 1 : Nat) : Int)] = .ok (.int (ch h l i)) 0 := cir_ok (Γ := E14) R.pos i
theorem f4_ok (R : Rm h l) (n : Nat) (hn : n ≤ 1000000) : f4 [dRn h l, .int (n : Nat)] = .ok (.lst (lI (rw_ h l n))) 1 := unrolled_ok (Γ := E4) R.pos (by have := R.ll; omega) (by have := R.lh; omega) n hn
/-- where two rows part first -/
def ApG (C C' : Nat → Int) : Option Nat → Prop
  | none => ∀ i, C i = C' i
  | some t => 1 ≤ t ∧ C (t - 1) ≠ C' (t - 1) ∧ ∀ i, i < t - 1 → C i = C' i
theorem ApG.sym {C C' : Nat → Int} {o : Option Nat} (A : ApG C C' o) : ApG C' C o := by
  cases o with
  | none => exact fun i => (A i).symm
  | some t => exact ⟨A.1, fun e => A.2.1 e.symm, fun i hi => (A.2.2 i hi).symm⟩
theorem f15_ok (R : Rm h l) (R' : Rm h' l') {o : Option Nat} (O : ApG (ch h l) (ch h' l') o) : f15 [dRn h l, dRn h' l'] = .ok (optD o) 0 := by
  obtain ⟨p, L⟩ := lp_ex R.pos
  obtain ⟨q, Q⟩ := st_ex (h := h) L
  obtain ⟨p', L'⟩ := lp_ex R'.pos
  obtain ⟨q', Q'⟩ := st_ex (h := h') L'
  have e1 := f13_ok R L Q
  have e2 := f13_ok R' L' Q'
  have u1 := fun i => least_ch L Q i
  have u2 := fun i => least_ch L' Q' i
  have cm := (cmp_dRn (h.take q) (seg h l p q) (h'.take q') (seg h' l' p' q')).1
  have c1 := f14_ok R
  have c2 := f14_ok R'
  cases o with
  | none =>
    obtain ⟨a, b⟩ := LstF.uniq (least_lst L Q) (least_lst L' Q') fun i => by rw [u1, u2]; exact O i
    have t : decide (h.take q = h'.take q' ∧ seg h l p q = seg h' l' p' q') = true := decide_eq_true ⟨a, b⟩
    rw [t] at cm
    clear c1 c2
    unfold optD
    generalize dRn (h.take q) (seg h l p q) = L1 at *
    generalize dRn (h'.take q') (seg h' l' p' q') = L2 at *
    generalize dRn h l = R1 at *
    generalize dRn h' l' = R2 at *
    simp [-cmp_eq, f15, b15, e1, e2, cm]
  | some t =>
    obtain ⟨t1, t3, t4⟩ := O
    have ne : decide (h.take q = h'.take q' ∧ seg h l p q = seg h' l' p' q') = false := decide_eq_false fun ⟨a, b⟩ => t3 (by rw [← u1, ← u2, a, b])
    rw [ne] at cm
    unfold optD
    obtain ⟨ρ', e, ⟨i, it, rfl⟩, ec⟩ := whl_to (c := fun ρ => evT E15 b15C0 (viewA ρ)) (b := exB E15 b15L0)
      (fun ρ => ∃ i : Nat, i + 1 ≤ t ∧ ρ = [some ⟨dRn h l, 0, false⟩, some ⟨dRn h' l', 0, false⟩, some ⟨.int ((i + 1 : Nat) : Int), 0, false⟩])
      (fun ρ => match ρ with | [_, _, some ⟨.int x, _, _⟩] => t - x.toNat | _ => 0)
      (fun ρ ⟨i, it, e⟩ => by
        subst e
        have a := c1 i
        have b := c2 i
        by_cases z : ch h l i = ch h' l' i
        · have z1 : i + 1 < t := by
            rcases Nat.lt_or_ge (i + 1) t with z1 | z1
            · exact z1
            · exact absurd z (by rw [show i = t - 1 by omega]; exact t3)
          refine .inr ⟨?_, [some ⟨dRn h l, 0, false⟩, some ⟨dRn h' l', 0, false⟩, some ⟨.int ((i + 1 + 1 : Nat) : Int), 0, false⟩], .inl ?_, ⟨i + 1, by omega, rfl⟩, ?_⟩
          · generalize dRn h l = R1 at *
            generalize dRn h' l' = R2 at *
            generalize ((i + 1 : Nat) : Int) = ii at *
            simp [b15C0, a, b, z]
          · generalize dRn h l = R1 at *
            generalize dRn h' l' = R2 at *
            simp [b15L0]
          · show t - (((i + 1 + 1 : Nat) : Int)).toNat < t - (((i + 1 : Nat) : Int)).toNat
            omega
        · refine .inl ?_
          generalize dRn h l = R1 at *
          generalize dRn h' l' = R2 at *
          generalize ((i + 1 : Nat) : Int) = ii at *
          simp [b15C0, a, b, z])
      _ [some ⟨dRn h l, 0, false⟩, some ⟨dRn h' l', 0, false⟩, some ⟨.int ((0 + 1 : Nat) : Int), 0, false⟩] (Nat.le_refl _) ⟨0, by omega, rfl⟩
    have z : i + 1 = t := by
      rcases Nat.lt_or_ge (i + 1) t with z1 | z1
      · have z := t4 i (by omega)
        have a := c1 i
        have b := c2 i
        generalize dRn h l = R1 at *
        generalize dRn h' l' = R2 at *
        generalize ((i + 1 : Nat) : Int) = ii at *
        simp [b15C0, a, b, z] at ec
      · omega
    rw [z] at e
    clear c1 c2 ec
    generalize dRn (h.take q) (seg h l p q) = L1 at *
    generalize dRn (h'.take q') (seg h' l' p' q') = L2 at *
    generalize dRn h l = R1 at *
    generalize dRn h' l' = R2 at *
    refine run_of rfl (step (ρ' := [some ⟨R1, 0, false⟩, some ⟨R2, 0, false⟩, none]) ?_ (step (ρ' := [some ⟨R1, 0, false⟩, some ⟨R2, 0, false⟩, some ⟨.int 1, 0, false⟩]) ?_ (step (ρ' := [some ⟨R1, 0, false⟩, some ⟨R2, 0, false⟩, some ⟨.int (t : Nat), 0, false⟩]) ?_ (stop ?_))))
    · simp [-cmp_eq, e1, e2, cm]
    · simp
    · simpa using e
    · simp
/-! ### the law's own look -/
theorem ch_far_per (hl : 0 < l.length) {i : Nat} (hi : h.length ≤ i) (k : Nat) : ch h l (i + l.length * k) = ch h l i := by
  obtain ⟨j, rfl⟩ : ∃ j, i = h.length + j := ⟨i - h.length, by omega⟩
  rw [Nat.add_assoc, ch_far, ch_far]
  unfold cl
  rw [Nat.add_mul_mod_self_left]
theorem all_eq (R : Rm h l) (R' : Rm h' l') (e : ∀ i, i < max h.length h'.length + l.length * l'.length → ch h l i = ch h' l' i) (i : Nat) : ch h l i = ch h' l' i := by
  have p1 := R.pos
  have p2 := R'.pos
  have pp : 0 < l.length * l'.length := Nat.mul_pos p1 p2
  obtain ⟨M, hM⟩ : ∃ M, max h.length h'.length = M := ⟨_, rfl⟩
  obtain ⟨P, hP⟩ : ∃ P, l.length * l'.length = P := ⟨_, rfl⟩
  rw [hM, hP] at e
  by_cases z : i < M + P
  · exact e i z
  · obtain ⟨r, k, e1, e2⟩ : ∃ r k, r < P ∧ i = M + r + P * k := ⟨(i - M) % P, (i - M) / P, Nat.mod_lt _ (by omega), by have := Nat.mod_add_div (i - M) P; omega⟩
    have a := ch_far_per (h := h) p1 (i := M + r) (by omega) (l'.length * k)
    have b := ch_far_per (h := h') p2 (i := M + r) (by omega) (l.length * k)
    rw [← Nat.mul_assoc, hP] at a
    rw [← Nat.mul_assoc, Nat.mul_comm l'.length, hP] at b
    rw [e2, a, b]
    exact e _ (by omega)
theorem far_int (a b c d : Nat) : (if a < b then (b : Int) else (a : Int)) + (c : Int) * (d : Int) = ((max a b + c * d : Nat) : Int) := by
  rw [Int.natCast_add, Int.natCast_mul]
  split <;> omega
theorem f6_ok (R : Rm h l) (R' : Rm h' l') : ∃ o, f6 [dRn h l, dRn h' l'] = .ok (optD o) 0 ∧ ApG (ch h l) (ch h' l') o ∧ ∀ t, o = some t → t ≤ 10 ^ 8 := by
  obtain ⟨F, hF⟩ : ∃ F, max h.length h'.length + l.length * l'.length = F := ⟨_, rfl⟩
  have l1 := R.ll
  have l2 := R'.ll
  have k1 := R.lh
  have k2 := R'.lh
  have lm : l.length * l'.length ≤ 900 * 900 := Nat.mul_le_mul l1 l2
  have e1 := f4_ok R F (by omega)
  have e2 := f4_ok R' F (by omega)
  obtain ⟨X1, hX1⟩ : ∃ X, lI (rw_ h l F) = X := ⟨_, rfl⟩
  obtain ⟨X2, hX2⟩ : ∃ X, lI (rw_ h' l' F) = X := ⟨_, rfl⟩
  rw [hX1] at e1
  rw [hX2] at e2
  have x1 : X1.length = F := by rw [← hX1, lI_length, rw_len]
  have x2 : X2.length = F := by rw [← hX2, lI_length, rw_len]
  obtain ⟨XS, hXS⟩ : ∃ XS : List PL.D, ((X1.zip X2).zipIdx.map fun p => .tup [.int (p.2 : Nat), .tup [p.1.1, p.1.2]]) = XS := ⟨_, rfl⟩
  have xl : XS.length = F := by rw [← hXS, List.length_map, List.length_zipIdx, List.length_zip]; omega
  have at_ : ∀ i d, XS[i]? = some d → d = .tup [.int (i : Nat), .tup [.int (ch h l i), .int (ch h' l' i)]] ∧ i < F := fun i d hd => by
    have hi : i < F := by
      have := (List.getElem?_eq_some_iff.mp hd).1
      omega
    have a1 : X1[i]? = some (.int (ch h l i)) := by rw [← hX1]; unfold lI; rw [List.getElem?_map, List.getElem?_eq_getElem (by rw [rw_len]; exact hi), rw_at h l hi]; rfl
    have a2 : X2[i]? = some (.int (ch h' l' i)) := by rw [← hX2]; unfold lI; rw [List.getElem?_map, List.getElem?_eq_getElem (by rw [rw_len]; exact hi), rw_at h' l' hi]; rfl
    have az : (X1.zip X2)[i]? = some (.int (ch h l i), .int (ch h' l' i)) := List.getElem?_zip_eq_some.mpr ⟨a1, a2⟩
    rw [← hXS, List.getElem?_map, List.getElem?_zipIdx, az] at hd
    simp at hd
    exact ⟨hd.symm, hi⟩
  have m1 : mulOk (l.length : Int) (l'.length : Int) = true := small_mul (by omega) (by omega)
  have q1 := lI_length h
  have q2 := lI_length h'
  have q3 := lI_length l
  have q4 := lI_length l'
  have key := forS_find (tg := [3, 4]) (b := exB E6 b6L0) (fun _ ρ => ∃ o3 o4, ρ = [some ⟨dRn h l, 0, false⟩, some ⟨dRn h' l', 0, false⟩, some ⟨.int (F : Nat), 0, false⟩, o3, o4] ∧ lkO o3 = false ∧ lkO o4 = false) (fun i => decide (ch h l i ≠ ch h' l' i)) (fun i => .rt (.int ((i + 1 : Nat) : Int)) 0) (fun i => rfl) (xs := XS) (ρ := [some ⟨dRn h l, 0, false⟩, some ⟨dRn h' l', 0, false⟩, some ⟨.int (F : Nat), 0, false⟩, none, none]) 0 ⟨none, none, rfl, rfl, rfl⟩ fun i d ρ hd ⟨o3, o4, e, k3, k4⟩ => by
    subst e
    obtain ⟨rfl, hi⟩ := at_ i d hd
    rw [Nat.zero_add]
    generalize dRn h l = D1 at *
    generalize dRn h' l' = D2 at *
    refine ⟨[some ⟨D1, 0, false⟩, some ⟨D2, 0, false⟩, some ⟨.int (F : Nat), 0, false⟩, some ⟨.int (i : Nat), 0, false⟩, some ⟨.tup [.int (ch h l i), .int (ch h' l' i)], 0, false⟩], by simp [k3, k4, takeS_two, bindS], ?_⟩
    by_cases z : ch h l i = ch h' l' i
    · rw [if_neg (by simp [z])]
      exact ⟨[some ⟨D1, 0, false⟩, some ⟨D2, 0, false⟩, some ⟨.int (F : Nat), 0, false⟩, some ⟨.int (i : Nat), 0, false⟩, some ⟨.tup [.int (ch h l i), .int (ch h' l' i)], 0, false⟩], .inl (by simp [b6L0, z]), _, _, rfl, rfl, rfl⟩
    · rw [if_pos (by simp [z])]
      simp [b6L0, z]
  have fe2 : (if h.length < h'.length then (h'.length : Int) else (h.length : Int)) + (l.length : Int) * (l'.length : Int) = (F : Nat) := by
    rw [far_int, hF]
  have i1 : ixD (dRn h l) (.int 0) = .ok (.lst (lI h)) 0 := rfl
  have i2 : ixD (dRn h l) (.int 1) = .ok (.lst (lI l)) 0 := rfl
  have i3 : ixD (dRn h' l') (.int 0) = .ok (.lst (lI h')) 0 := rfl
  have i4 : ixD (dRn h' l') (.int 1) = .ok (.lst (lI l')) 0 := rfl
  rcases key with ⟨i, h1, h2, h3, h5⟩ | ⟨h1, ρ', h5, o3, o4, rfl, _⟩
  · rw [Nat.zero_add] at h2 h5
    refine ⟨some (i + 1), ?_, ⟨by omega, ?_, fun j hj => ?_⟩, fun t e => by cases e; omega⟩
    · have oe : optD (some (i + 1)) = .int ((i + 1 : Nat) : Int) := rfl
      rw [oe]
      clear at_
      generalize ((i + 1 : Nat) : Int) = I1 at *
      generalize dRn h l = D1 at *
      generalize dRn h' l' = D2 at *
      refine run_of rfl (step (ρ' := [some ⟨D1, 0, false⟩, some ⟨D2, 0, false⟩, some ⟨.int (F : Nat), 0, false⟩, none, none]) ?_ (stop ?_))
      · simp [i1, i2, i3, i4, m1, fe2]
      · simp [e1, e2, hXS]
        exact h5
    · rw [Nat.add_sub_cancel]; exact of_decide_eq_true h2
    · have := h3 j (by omega)
      rw [Nat.zero_add] at this
      simpa using this
  · refine ⟨none, ?_, all_eq R R' fun i hi => ?_, fun t e => nomatch e⟩
    · have oe : optD none = .non := rfl
      rw [oe]
      clear at_
      generalize dRn h l = D1 at *
      generalize dRn h' l' = D2 at *
      refine run_of rfl (step (ρ' := [some ⟨D1, 0, false⟩, some ⟨D2, 0, false⟩, some ⟨.int (F : Nat), 0, false⟩, none, none]) ?_ (step (ρ' := [some ⟨D1, 0, false⟩, some ⟨D2, 0, false⟩, some ⟨.int (F : Nat), 0, false⟩, o3, o4]) ?_ (stop ?_)))
      · simp [i1, i2, i3, i4, m1, fe2]
      · simp [e1, e2, hXS]
        exact h5
      · simp
    · have := h1 i (by omega)
      rw [Nat.zero_add] at this
      simpa using this
/-- behind a change at one place -/
theorem ch_set (h l : List Int) {N at_ : Nat} (ha : at_ < N) (hN : ∃ k, N = h.length + k * l.length) (v : Int) (i : Nat) : ch ((rw_ h l N).set at_ v) l i = if i = at_ then v else ch h l i := by
  obtain ⟨k, hk⟩ := hN
  by_cases z : i < N
  · unfold ch
    rw [if_pos (by rw [List.length_set, rw_len]; exact z), List.getD_eq_getElem?_getD, List.getElem?_set]
    by_cases e : at_ = i
    · subst e
      rw [if_pos rfl, if_pos (by rw [rw_len]; exact z), if_pos rfl]
      rfl
    · rw [if_neg e, if_neg (fun q => e q.symm), List.getElem?_eq_getElem (by rw [rw_len]; exact z), rw_at h l z]
      rfl
  · rw [if_neg (by omega)]
    have g : i = N + (i - N) := by omega
    unfold ch
    rw [if_neg (by rw [List.length_set, rw_len]; omega), List.length_set, rw_len, if_neg (by omega)]
    congr 1
    rw [show i - h.length = (i - N) + k * l.length by omega, Nat.mul_comm k, Nat.add_mul_mod_self_left]
theorem ap_set (h l : List Int) {N at_ : Nat} (ha : at_ < N) (hN : ∃ k, N = h.length + k * l.length) {v : Int} (ne : v ≠ ch h l at_) : ApG (ch h l) (ch ((rw_ h l N).set at_ v) l) (some (at_ + 1)) := by
  refine ⟨by omega, ?_, fun i hi => ?_⟩
  · rw [Nat.add_sub_cancel, ch_set h l ha hN, if_pos rfl]
    exact fun e => ne e.symm
  · rw [ch_set h l ha hN, if_neg (by omega)]
theorem rw_six (R : Rm h l) (n : Nat) : Wi 6 (rw_ h l n) := fun x hx => by
  unfold rw_ at hx
  obtain ⟨i, _, rfl⟩ := List.mem_map.mp hx
  unfold ch
  split
  · rename_i hi
    rw [List.getD_eq_getElem?_getD, List.getElem?_eq_getElem hi]
    exact R.wh _ (List.getElem_mem hi)
  · have hi := Nat.mod_lt (i - h.length) R.pos
    rw [List.getD_eq_getElem?_getD, List.getElem?_eq_getElem hi]
    exact R.wl _ (List.getElem_mem hi)
theorem f5_ok {m : Int} (R : Rn m h l) (hm : m ≤ 6) (c : Int) : ∃ (a : Nat) (h2 : List Int), f5 [dRn h l, .int c] = .ok (.tup [.int ((a + 1 : Nat) : Int), dRn h2 l]) 0 ∧ Rm h2 l ∧ ApG (ch h l) (ch h2 l) (some (a + 1)) ∧ a ≤ 10 ^ 6 := by
  have l1 := R.ll
  have k1 := R.lh
  have p1 := R.pos
  have RM := Rm.of R hm
  have dr : ∀ j b : Int, 0 ≤ j → j ≤ 1000 → 0 < b → b ≤ 10 ^ 60 → ∃ x, f1 [.int c, .int j, .int b] = .ok (.int x) 0 ∧ 0 ≤ x ∧ x < b := fun j b h1 h2 h3 h4 => by
    obtain ⟨x, ex, a, b⟩ := draw_ok c j b h1 h2 h3 h4
    exact ⟨x, ex E1, a, b⟩
  obtain ⟨N, hN⟩ : ∃ N, h.length + 2 * l.length = N := ⟨_, rfl⟩
  have e4 := f4_ok RM N (by omega)
  obtain ⟨x9, d9, a9, b9⟩ := dr 9 (N : Int) (by decide) (by decide) (by omega) (by omega)
  obtain ⟨a, rfl⟩ : ∃ a : Nat, x9 = (a : Int) := ⟨x9.toNat, by omega⟩
  have ha : a < N := by omega
  obtain ⟨x10, d10, a10, b10⟩ := dr 10 5 (by decide) (by decide) (by decide) (by decide)
  have six := rw_six RM N
  have at_ : atD (lI (rw_ h l N)) ((a : Nat) : Int) = .ok (.int (ch h l a)) 0 := by rw [lI_at (by simpa using ha), rw_at h l ha]
  obtain ⟨y0, y1⟩ := six (ch h l a) (by rw [← rw_at h l ha]; exact List.getElem_mem _)
  obtain ⟨v, hv⟩ : ∃ v, (ch h l a + 1 + x10).fmod 6 = v := ⟨_, rfl⟩
  have ve : v = (ch h l a + 1 + x10) % 6 := by rw [← hv, Int.fmod_eq_emod_of_nonneg _ (show (0 : Int) ≤ 6 by decide)]
  refine ⟨a, (rw_ h l N).set a v, ?_, ⟨fun x hx => ?_, RM.wl, p1, RM.ll, by rw [List.length_set, rw_len]; omega⟩, ap_set h l ha ⟨2, by omega⟩ (by omega), by omega⟩
  · have dd : dRn h l = .tup [.lst (lI h), .lst (lI l)] := rfl
    have q1 := lI_length h
    have q3 := lI_length l
    have m2 : mulOk 2 (l.length : Int) = true := small_mul (by decide) (by omega)
    have fe : (h.length : Int) + 2 * (l.length : Int) = (N : Nat) := by omega
    have q4 : (lI (rw_ h l N)).length = N := by rw [lI_length, rw_len]
    have st : (lI (rw_ h l N)).set a (.int v) = lI ((rw_ h l N).set a v) := by simp [lI, List.map_set]
    have ix : L2.ixN N (a : Int) = some a := by simp [L2.ixN, ha]
    have iX : ∀ n, immBL n (lI ((rw_ h l N).set a v)) = true := fun n => by simp
    rw [show ((a + 1 : Nat) : Int) = (a : Int) + 1 by omega]
    show f5 [dRn h l, .int c] = .ok (.tup [.int ((a : Int) + 1), .tup [.lst (lI ((rw_ h l N).set a v)), .lst (lI l)]]) 0
    rw [dd] at e4 ⊢
    generalize lI ((rw_ h l N).set a v) = X2 at *
    generalize lI (rw_ h l N) = X1 at *
    generalize ch h l a = Y at *
    generalize lI h = H1 at *
    generalize lI l = L1 at *
    simp [f5, b5, q1, q3, m2, fe, e4, q4, d9, at_, d10, hv, pathOk_eq, mutS_eq, st, ix, iX, getP, putP]
  · rcases List.mem_or_eq_of_mem_set hx with hx | rfl
    · exact six x hx
    · omega
theorem rot_at {l : List Int} {c j : Nat} (hc : c ≤ l.length) (hj : j < l.length) : (l.drop c ++ l.take c).getD j 0 = l.getD ((c + j) % l.length) 0 := by
  rw [List.getD_eq_getElem?_getD, List.getD_eq_getElem?_getD]
  by_cases z : j < l.length - c
  · rw [List.getElem?_append_left (by rw [List.length_drop]; exact z), List.getElem?_drop, Nat.mod_eq_of_lt (by omega)]
  · rw [List.getElem?_append_right (by rw [List.length_drop]; omega), List.length_drop, List.getElem?_take, if_pos (by omega)]
    congr 2
    have : c + j = (j - (l.length - c)) + l.length := by omega
    rw [this, Nat.add_mod_right, Nat.mod_eq_of_lt (by omega)]
theorem turned_ch (hl : 0 < l.length) {c : Nat} (hc : c ≤ l.length) (i : Nat) : ch (h ++ (List.replicate 2 l).flatten ++ l.take c) (l.drop c ++ l.take c) i = ch h l i := by
  have e := rw_laps (h := h) hl 2 c hc
  rw [List.append_assoc, ← e]
  obtain ⟨N, hN⟩ : ∃ N, h.length + (2 * l.length + c) = N := ⟨_, rfl⟩
  rw [hN]
  have ll : (l.drop c ++ l.take c).length = l.length := by rw [List.length_append, List.length_drop, List.length_take]; omega
  by_cases z : i < N
  · unfold ch
    rw [if_pos (by rw [rw_len]; exact z), List.getD_eq_getElem?_getD, List.getElem?_eq_getElem (by rw [rw_len]; exact z), rw_at h l z]
    rfl
  · obtain ⟨d, rfl⟩ : ∃ d, i = N + d := ⟨i - N, by omega⟩
    have a : ch (rw_ h l N) (l.drop c ++ l.take c) (N + d) = (l.drop c ++ l.take c).getD (d % l.length) 0 := by
      unfold ch
      rw [if_neg (by rw [rw_len]; omega), rw_len, ll, Nat.add_sub_cancel_left]
    rw [a, rot_at hc (Nat.mod_lt _ hl), ← hN, show h.length + (2 * l.length + c) + d = h.length + ((c + d) + l.length * 2) by omega, ch_far]
    unfold cl
    rw [Nat.add_mul_mod_self_left, Nat.add_mod_mod]
/-! ### the law -/
theorem exB_app {Γ : Fe} : ∀ (a b : List PL.St) {ρ ρ' : En} {o : OS}, exB Γ a ρ = .nx ρ' → exB Γ b ρ' = o → exB Γ (a ++ b) ρ = o
  | [], b, ρ, ρ', o, h, h2 => by
    rw [exB_nil] at h
    cases h
    exact h2
  | s :: ss, b, ρ, ρ', o, h, h2 => by
    rw [exB_cons] at h
    rw [List.cons_append, exB_cons]
    cases e : exS Γ s ρ with
    | nx ρ1 =>
      rw [e] at h
      exact exB_app ss b h h2
    | _ =>
      rw [e] at h
      cases h
/-- what is asked: two runnings, and where they part -/
structure Ask (d : PL.D) : Prop where
  ex : ∃ (h l h' l' : List Int) (o : Option Nat), d = .tup [dRn h l, dRn h' l', optD o] ∧ Rm h l ∧ Rm h' l' ∧ ApG (ch h l) (ch h' l') o ∧ ∀ t, o = some t → t ≤ 10 ^ 8
theorem f3_ok (ns : List Int) (a m : Int) (h1 : 0 ≤ a) (h2 : 0 < m) (h3 : m ≤ 10 ^ 9) : ∃ (hd lp : List Int), f3 [.lst (lI ns), .int a, .int m] = .ok (dRn hd lp) 9 ∧ Rn m hd lp := by
  obtain ⟨hd, lp, e, R⟩ := running_ok (Γ := E3) (d := 1) (c := 0) (h := 2) (Γd := E1) (Γc := E0) (Γh := E2) rfl rfl rfl (d' := 1) (c' := 0) (Γd' := E1) (Γc' := E0) rfl rfl ns a m h1 h2 h3
  exact ⟨hd, lp, e, R⟩
theorem shp60 (x : String) : shp 60 (.str x) = true := by
  show PySem.PyData.strOk _ = true
  exact chOk_of x
theorem rep_opt {o : Option Nat} (h : ∀ t, o = some t → t ≤ 10 ^ 8) : ∃ x : PySem.Str, biD .reprL [optD o] = .ok (.str x) 0 ∧ cmpD .ne (.str x) (.str x) = .ok (.bl false) 0 := by
  cases o with
  | none => exact ⟨"None", rfl, (cmp_self (shp60 "None")).2⟩
  | some n =>
    have hn := h n rfl
    refine ⟨toString ((n : Nat) : Int), ?_, (cmp_self (shp60 _)).2⟩
    show biD .reprL [.int ((n : Nat) : Int)] = _
    rw [bi_reprLI, if_pos (by
      have := log2_of_le (i := ((n : Nat) : Int)) (a := 30) (by omega) (by decide)
      have t : ((n : Nat) : Int).natAbs.log2 < 1920 := by omega
      simpa using t)]
theorem l0_16 {d : PL.D} (A : Ask d) (o0 o1 o2 o3 o4 o5 o6 o7 o8 : Option Sl) : ∀ (o9 o10 o11 : Option Sl), lkO o9 = false → lkO o10 = false → lkO o11 = false → ∃ ρ1 p9 p10 p11, takeS [9, 10, 11] d [o0, o1, o2, o3, o4, o5, o6, o7, o8, o9, o10, o11] = some ρ1 ∧ exB E16 b16L0 ρ1 = .nx [o0, o1, o2, o3, o4, o5, o6, o7, o8, p9, p10, p11] ∧ lkO p9 = false ∧ lkO p10 = false ∧ lkO p11 = false := fun o9 o10 o11 k9 k10 k11 => by
  obtain ⟨h, l, h', l', o, rfl, R, R', G, ob⟩ := A.ex
  have e1 := f15_ok R R' G
  have e2 := f15_ok R' R G.sym
  obtain ⟨x, r1, r2⟩ := rep_opt ob
  generalize dRn h l = R1 at *
  generalize dRn h' l' = R2 at *
  generalize optD o = OD at *
  refine ⟨[o0, o1, o2, o3, o4, o5, o6, o7, o8, some ⟨R1, 0, false⟩, some ⟨R2, 0, false⟩, some ⟨OD, 0, false⟩], some ⟨R1, 0, false⟩, some ⟨R2, 0, false⟩, some ⟨OD, 0, false⟩, by simp [k9, k10, k11, takeS_two, bindS], ?_, rfl, rfl, rfl⟩
  simp [-cmp_ne, b16L0, e1, e2, r1, r2]
theorem law_true (ns : List Int) (hn : ns.length ≤ 63) (hz : ∀ z ∈ ns, z.natAbs.log2 < 1048576) : ∃ m, f16 [.lst (lI ns)] = .ok (.bl true) m := by
  obtain ⟨z, ez⟩ := cell_ok ns 0 (by decide)
  have cz : f0 [.lst (lI ns), .int 0] = .ok (.int z) 0 := ez E0
  have dr : ∀ j b : Int, 0 ≤ j → j ≤ 1000 → 0 < b → b ≤ 10 ^ 60 → ∃ x, f1 [.int z, .int j, .int b] = .ok (.int x) 0 ∧ 0 ≤ x ∧ x < b := fun j b h1 h2 h3 h4 => by
    obtain ⟨x, ex, a, b⟩ := draw_ok z j b h1 h2 h3 h4
    exact ⟨x, ex E1, a, b⟩
  obtain ⟨x0, d0, a0, b0⟩ := dr 0 6 (by decide) (by decide) (by decide) (by decide)
  obtain ⟨x1, d1, a1, b1⟩ := dr 1 3 (by decide) (by decide) (by decide) (by decide)
  obtain ⟨h1, l1, e3, R1⟩ := f3_ok ns 1 (1 + x0) (by decide) (by omega) (by omega)
  obtain ⟨h2, l2, e3', R2⟩ := f3_ok ns 9 (1 + x1) (by decide) (by omega) (by omega)
  have M1 := Rm.of R1 (by omega)
  have M2 := Rm.of R2 (by omega)
  have ll1 := R1.ll
  have lh1 := R1.lh
  have lp1 := R1.pos
  obtain ⟨x2, d2, a2, b2⟩ := dr 2 ((l1.length : Int) + 1) (by decide) (by decide) (by omega) (by omega)
  obtain ⟨c, rfl⟩ : ∃ c : Nat, x2 = (c : Int) := ⟨x2.toNat, by omega⟩
  have hc : c ≤ l1.length := by omega
  obtain ⟨a, h3, e5, M3, G3, a6⟩ := f5_ok R1 (by omega) z
  obtain ⟨o1, e6, G1, ob1⟩ := f6_ok M1 M2
  obtain ⟨o2, e6', G2, ob2⟩ := f6_ok M2 M3
  have MT : Rm (h1 ++ (List.replicate 2 l1).flatten ++ l1.take c) (l1.drop c ++ l1.take c) := by
    refine ⟨fun x hx => ?_, fun x hx => ?_, ?_, ?_, ?_⟩
    · rcases List.mem_append.mp hx with hx | hx
      · rcases List.mem_append.mp hx with hx | hx
        · exact M1.wh x hx
        · obtain ⟨K, hK, hx2⟩ := List.mem_flatten.mp hx
          have e := (List.mem_replicate.mp hK).2
          rw [e] at hx2
          exact M1.wl x hx2
      · exact M1.wl x (List.mem_of_mem_take hx)
    · rcases List.mem_append.mp hx with hx | hx
      · exact M1.wl x (List.mem_of_mem_drop hx)
      · exact M1.wl x (List.mem_of_mem_take hx)
    · rw [List.length_append, List.length_drop, List.length_take]; omega
    · rw [List.length_append, List.length_drop, List.length_take]; omega
    · simp; omega
  have GT : ApG (ch h1 l1) (ch (h1 ++ (List.replicate 2 l1).flatten ++ l1.take c) (l1.drop c ++ l1.take c)) none := fun i => (turned_ch lp1 hc i).symm
  obtain ⟨TH, hTH⟩ : ∃ TH, h1 ++ (List.replicate 2 l1).flatten ++ l1.take c = TH := ⟨_, rfl⟩
  obtain ⟨TL, hTL⟩ : ∃ TL, l1.drop c ++ l1.take c = TL := ⟨_, rfl⟩
  rw [hTH, hTL] at MT GT
  have A1 : Ask (.tup [dRn h1 l1, dRn h2 l2, optD o1]) := ⟨⟨_, _, _, _, _, rfl, M1, M2, G1, ob1⟩⟩
  have A2 : Ask (.tup [dRn h1 l1, dRn TH TL, .non]) := ⟨⟨_, _, _, _, none, rfl, M1, MT, GT, fun t e => nomatch e⟩⟩
  have A3 : Ask (.tup [dRn h1 l1, dRn h3 l1, .int ((a + 1 : Nat) : Int)]) := ⟨⟨_, _, _, _, some (a + 1), rfl, M1, M3, G3, fun t e => by cases e; omega⟩⟩
  have A4 : Ask (.tup [dRn h2 l2, dRn h3 l1, optD o2]) := ⟨⟨_, _, _, _, _, rfl, M2, M3, G2, ob2⟩⟩
  have lp : ∀ (q1 q2 q3 q4 q5 q6 q7 q8 : Option Sl), ∃ p9 p10 p11, forS [9, 10, 11] (exB E16 b16L0) [.tup [dRn h1 l1, dRn h2 l2, optD o1], .tup [dRn h1 l1, dRn TH TL, .non], .tup [dRn h1 l1, dRn h3 l1, .int ((a + 1 : Nat) : Int)], .tup [dRn h2 l2, dRn h3 l1, optD o2], .tup [dRn h1 l1, dRn h2 l2, optD o1]] [some ⟨.lst (lI ns), 0, false⟩, q1, q2, q3, q4, q5, q6, q7, q8, none, none, none] = .nx [some ⟨.lst (lI ns), 0, false⟩, q1, q2, q3, q4, q5, q6, q7, q8, p9, p10, p11] := fun q1 q2 q3 q4 q5 q6 q7 q8 => by
    obtain ⟨ρ', e, p9, p10, p11, rfl, _⟩ := forS_to (tg := [9, 10, 11]) (b := exB E16 b16L0) (xs := [.tup [dRn h1 l1, dRn h2 l2, optD o1], .tup [dRn h1 l1, dRn TH TL, .non], .tup [dRn h1 l1, dRn h3 l1, .int ((a + 1 : Nat) : Int)], .tup [dRn h2 l2, dRn h3 l1, optD o2], .tup [dRn h1 l1, dRn h2 l2, optD o1]]) (ρ := [some ⟨.lst (lI ns), 0, false⟩, q1, q2, q3, q4, q5, q6, q7, q8, none, none, none])
      (fun _ ρ => ∃ p9 p10 p11, ρ = [some ⟨.lst (lI ns), 0, false⟩, q1, q2, q3, q4, q5, q6, q7, q8, p9, p10, p11] ∧ lkO p9 = false ∧ lkO p10 = false ∧ lkO p11 = false) 0 ⟨none, none, none, rfl, rfl, rfl, rfl⟩ fun i d ρ hd ⟨p9, p10, p11, e, k9, k10, k11⟩ => by
        subst e
        have hd2 := List.mem_of_getElem? hd
        simp only [List.mem_cons, List.not_mem_nil, or_false] at hd2
        have AD : Ask d := by
          rcases hd2 with rfl | rfl | rfl | rfl | rfl
          · exact A1
          · exact A2
          · exact A3
          · exact A4
          · exact A1
        obtain ⟨ρ1, r9, r10, r11, t1, t2, t3, t4, t5⟩ := l0_16 AD (some ⟨.lst (lI ns), 0, false⟩) q1 q2 q3 q4 q5 q6 q7 q8 p9 p10 p11 k9 k10 k11
        exact ⟨ρ1, _, t1, .inl t2, _, _, _, rfl, t3, t4, t5⟩
    exact ⟨p9, p10, p11, e⟩
  have hl := lI_length l1
  have cT := cut_to (lI l1) c
  have cF := cut_from (lI l1) c
  have cTl : (lI l1).take c = lI (l1.take c) := by simp [lI]
  have cFl : (lI l1).drop c = lI (l1.drop c) := by simp [lI]
  rw [cTl] at cT
  rw [cFl] at cF
  have d1' : dRn h1 l1 = .tup [.lst (lI h1), .lst (lI l1)] := rfl
  have dT : dRn TH TL = .tup [.lst (lI h1 ++ (lI l1 ++ (lI l1 ++ lI (l1.take c)))), .lst (lI (l1.drop c) ++ lI (l1.take c))] := by
    rw [← hTH, ← hTL]
    simp [dRn, lI]
  have z1 : (lI (l1.take c)).length = c := by rw [lI_length, List.length_take]; omega
  have z2 : (lI (l1.drop c)).length = l1.length - c := by rw [lI_length, List.length_drop]
  have z3 := lI_length h1
  have s2 : smallI 2 = true := by decide
  have i0 : ixD (dRn h1 l1) (.int 0) = .ok (.lst (lI h1)) 0 := rfl
  have i1 : ixD (dRn h1 l1) (.int 1) = .ok (.lst (lI l1)) 0 := rfl
  rw [dT] at lp
  generalize lI (l1.take c) = PT at *
  generalize lI (l1.drop c) = PD at *
  generalize lI h1 = H1 at *
  generalize lI l1 = L1 at *
  generalize dRn h1 l1 = D1 at *
  generalize dRn h2 l2 = D2 at *
  generalize dRn h3 l1 = D3 at *
  generalize optD o1 = OD1 at *
  generalize optD o2 = OD2 at *
  generalize ((a + 1 : Nat) : Int) = A1 at *
  have y1 : l1.length * 2 ≤ 16777216 := by omega
  have y2 : l1.length - c + c ≤ 16777216 := by omega
  have y3 : h1.length + (l1.length + l1.length) ≤ 16777216 := by omega
  have y4 : h1.length + (l1.length + l1.length) + c ≤ 16777216 := by omega
  have go : exB E16 (b16.take 8) [some ⟨.lst (lI ns), 0, false⟩, none, none, none, none, none, none, none, none, none, none, none] = .nx [some ⟨.lst (lI ns), 0, false⟩, some ⟨.int z, 0, false⟩, some ⟨D1, 0, false⟩, some ⟨D2, 0, false⟩, some ⟨.int (c : Nat), 0, false⟩, some ⟨.tup [.lst (H1 ++ (L1 ++ (L1 ++ PT))), .lst (PD ++ PT)], 0, false⟩, some ⟨.lst [.tup [D1, D2, OD1], .tup [D1, .tup [.lst (H1 ++ (L1 ++ (L1 ++ PT))), .lst (PD ++ PT)], .non], .tup [D1, D3, .int A1], .tup [D2, D3, OD2]], 1, false⟩, some ⟨.int A1, 0, false⟩, some ⟨D3, 0, false⟩, none, none, none] := by
    generalize lI ns = NS at *
    simp [b16, cz, d0, e3, d1, e3', d2, hl, i0, i1, s2, cT, cF, z1, z2, z3, e5, e6, e6', frzO_not, y1, y2, y3, y4, pathOk_eq, mutS_eq]
  obtain ⟨p9, p10, p11, el⟩ := lp (some ⟨.int z, 0, false⟩) (some ⟨D1, 0, false⟩) (some ⟨D2, 0, false⟩) (some ⟨.int (c : Nat), 0, false⟩) (some ⟨.tup [.lst (H1 ++ (L1 ++ (L1 ++ PT))), .lst (PD ++ PT)], 0, false⟩) (some ⟨.lst [.tup [D1, D2, OD1], .tup [D1, .tup [.lst (H1 ++ (L1 ++ (L1 ++ PT))), .lst (PD ++ PT)], .non], .tup [D1, D3, .int A1], .tup [D2, D3, OD2]], 0, false⟩) (some ⟨.int A1, 0, false⟩) (some ⟨D3, 0, false⟩)
  refine ⟨0, run_of rfl (exB_app (b16.take 8) (b16.drop 8) go (step (ρ' := [some ⟨.lst (lI ns), 0, false⟩, some ⟨.int z, 0, false⟩, some ⟨D1, 0, false⟩, some ⟨D2, 0, false⟩, some ⟨.int (c : Nat), 0, false⟩, some ⟨.tup [.lst (H1 ++ (L1 ++ (L1 ++ PT))), .lst (PD ++ PT)], 0, false⟩, some ⟨.lst [.tup [D1, D2, OD1], .tup [D1, .tup [.lst (H1 ++ (L1 ++ (L1 ++ PT))), .lst (PD ++ PT)], .non], .tup [D1, D3, .int A1], .tup [D2, D3, OD2]], 0, false⟩, some ⟨.int A1, 0, false⟩, some ⟨D3, 0, false⟩, p9, p10, p11]) ?_ (stop ?_)))⟩
  · have c1 : cutD [PL.D.tup [D1, D2, OD1], .tup [D1, .tup [.lst (H1 ++ (L1 ++ (L1 ++ PT))), .lst (PD ++ PT)], .non], .tup [D1, D3, .int A1], .tup [D2, D3, OD2]] none (some 1) = [.tup [D1, D2, OD1]] := rfl
    simp [c1]
    exact el
  · simp
end PL.K44
open PySem PySem.W PyProof.Rows in
set_option maxRecDepth 100000 in
set_option maxHeartbeats 0 in
theorem PySem.Challenge.cw_dueturns_k44_first_apart_holds : PySem.Challenge.rw_dueturns_k44_first_apart.Holds := by
  w_on; o_law; k_head; (case hw => w_witness2)
  k_fill
  refine PL.law_walkG (l := PySem.Challenge.rw_dueturns_k44_first_apart) (n := 63) (k := 17) (x := "_law_script") (F := PL.K44.f16) rfl (by decide) rfl ⟨rfl, by decide, by decide⟩ (fun w h Y => PySem.W.kIn_of Y) ?qN PL.K44.law_true ?qF
  case qN => intro p; kernel_rfl
  case qF =>
    intro w mg fa h KX G hmg
    refine' PL.K44.all_mk KX G hmg ?x0 ?l0 ?c0 ?k0 ?x1 ?l1 ?c1 ?k1 ?x2 ?l2 ?c2 ?k2 ?x3 ?l3 ?c3 ?k3 ?x4 ?l4 ?c4 ?k4 ?x5 ?l5 ?c5 ?k5 ?x6 ?l6 ?c6 ?k6 ?x7 ?l7 ?c7 ?k7 ?x8 ?l8 ?c8 ?k8 ?x9 ?l9 ?c9 ?k9 ?x10 ?l10 ?c10 ?k10 ?x11 ?l11 ?c11 ?k11 ?x12 ?l12 ?c12 ?k12 ?x13 ?l13 ?c13 ?k13 ?x14 ?l14 ?c14 ?k14 ?x15 ?l15 ?c15 ?k15 ?x16 ?l16 ?c16 ?k16 ?z_len ?z_range ?z_int ?z_list ?z_max ?z_enumerate ?z_zip ?z_repr ?z_isinstance ?z_tuple ?z_all ?z_bool ?cx0
    (case x0 => k_is)
    (case l0 => k_is)
    (case c0 => k_is)
    (case k0 => k_is)
    (case x1 => k_is)
    (case l1 => k_is)
    (case c1 => k_is)
    (case k1 => k_is)
    (case x2 => k_is)
    (case l2 => k_is)
    (case c2 => k_is)
    (case k2 => k_is)
    (case x3 => k_is)
    (case l3 => k_is)
    (case c3 => k_is)
    (case k3 => k_is)
    (case x4 => k_is)
    (case l4 => k_is)
    (case c4 => k_is)
    (case k4 => k_is)
    (case x5 => k_is)
    (case l5 => k_is)
    (case c5 => k_is)
    (case k5 => k_is)
    (case x6 => k_is)
    (case l6 => k_is)
    (case c6 => k_is)
    (case k6 => k_is)
    (case x7 => k_is)
    (case l7 => k_is)
    (case c7 => k_is)
    (case k7 => k_is)
    (case x8 => k_is)
    (case l8 => k_is)
    (case c8 => k_is)
    (case k8 => k_is)
    (case x9 => k_is)
    (case l9 => k_is)
    (case c9 => k_is)
    (case k9 => k_is)
    (case x10 => k_is)
    (case l10 => k_is)
    (case c10 => k_is)
    (case k10 => k_is)
    (case x11 => k_is)
    (case l11 => k_is)
    (case c11 => k_is)
    (case k11 => k_is)
    (case x12 => k_is)
    (case l12 => k_is)
    (case c12 => k_is)
    (case k12 => k_is)
    (case x13 => k_is)
    (case l13 => k_is)
    (case c13 => k_is)
    (case k13 => k_is)
    (case x14 => k_is)
    (case l14 => k_is)
    (case c14 => k_is)
    (case k14 => k_is)
    (case x15 => k_is)
    (case l15 => k_is)
    (case c15 => k_is)
    (case k15 => k_is)
    (case x16 => k_is)
    (case l16 => k_is)
    (case c16 => k_is)
    (case k16 => k_is)
    (case z_len => k_is)
    (case z_range => k_is)
    (case z_int => k_is)
    (case z_list => k_is)
    (case z_max => k_is)
    (case z_enumerate => k_is)
    (case z_zip => k_is)
    (case z_repr => k_is)
    (case z_isinstance => k_is)
    (case z_tuple => k_is)
    (case z_all => k_is)
    (case z_bool => k_is)
    (case cx0 => k_is)
