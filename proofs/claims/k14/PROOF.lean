import PyProof.Rows.All
import Wide.All
import OpenK.AllK
import Wide.FinOn
import HandS.ForMost
import HandS.Exc
import HandS.TryOnly
import HandS.ExcOwn
import HandS.Wide
import HandS.EndBits
import HandS.TupAny
import HandS.TupMul
import HandS.IsInst
import HandS.ExcIs
import HandS.ExcField
import KE.KExcIs
import HandS.TupLe
import HandS.SetFor
import HandS.RaiseMore
import KE.KTupSum
import HandS.Conv
import HandS.Dict
import HandS.Walk
import HandS.Comp
import HandS.ExcInit
import HandS.Iter
import HandS.WordsExc
import PySem.Challenge.RW_dueturns_k14_rows_that_keep
set_option Elab.async false
set_option linter.all false
set_option maxRecDepth 100000
set_option maxHeartbeats 4000000
/-! PL1: data trees, and how the abstract heap bears them. -/
namespace PL
open PySem L2

/-- a value as a tree: what is mutable stands in it as it is -/
inductive D where
  | non | bl (b : Bool) | int (i : Int) | str (s : Str)
  | tup (l : List D) | lst (l : List D)
  | dct (ks vs : List D)
  | obj (c : Nat) (ks : List Nat) (vs : List D)
  /-- a caught exception, its class's number, its fields -/
  | exc (c : Nat) (vs : List D)
  deriving Inhabited

/-- what of the text the trees lean on: the written part, the classes' addresses, the attributes' names -/
structure G where
  K : PySem.W.Frag
  CA : Nat → Addr
  AN : Nat → Str
  /-- in a maker: the instance that is made, at slot 0 -/
  self : Option V := none
  /-- in an except suite: the exception, its class, its fields' place -/
  exa : Option (Addr × Nat × Option Addr) := none

abbrev Rg := Addr → Prop
abbrev Fp := List Addr

/-- a key as a tree -/
def D.key : D → Option Key
  | .int i => some (.inl i)
  | .str s => some (.inr s)
  | _ => none
def D.keyT : D → Option (List Key)
  | .tup l => l.mapM D.key
  | _ => none

mutual
/-- d stands at v: its mutable nodes down to depth n are those at A, the deeper ones lie in S -/
def Own (g : G) (H : Hp) (S : Rg) : Nat → D → V → Fp → Prop
  | _, .non, v, A => v = .non ∧ A = []
  | _, .bl b, v, A => v = .bl b ∧ A = []
  | _, .int i, v, A => v = .int i ∧ A = []
  | _, .str s, v, A => v = .str s ∧ A = []
  | n, .tup l, v, A => ∃ a xs, v = .ref a ∧ SqT g.K H a xs ∧ (A = [] ∨ Rd H a (.tup xs)) ∧ OwnL g H S n l xs A
  | 0, .lst l, v, A => ∃ a xs, v = .ref a ∧ S a ∧ Rd H a (.lst xs) ∧ OwnL g H S 0 l xs A
  | n + 1, .lst l, v, A => ∃ a xs B, v = .ref a ∧ H a = some (.lst xs) ∧ A = a :: B ∧ OwnL g H S n l xs B
  | 0, .dct ks vs, v, A => ∃ a xs, v = .ref a ∧ S a ∧ ((∃ kk, ks.mapM D.key = some kk ∧ Rd H a (.dK (kk.zip xs))) ∨ (∃ kk, ks ≠ [] ∧ ks.mapM D.keyT = some kk ∧ Rd H a (.dT (kk.zip xs)))) ∧ ks.length = vs.length ∧ OwnL g H S 0 vs xs A
  | n + 1, .dct ks vs, v, A => ∃ a xs B, v = .ref a ∧ ((∃ kk, ks.mapM D.key = some kk ∧ H a = some (.dK (kk.zip xs))) ∨ (∃ kk, ks ≠ [] ∧ ks.mapM D.keyT = some kk ∧ H a = some (.dT (kk.zip xs)))) ∧ ks.length = vs.length ∧ A = a :: B ∧ OwnL g H S n vs xs B
  | 0, .obj c ks vs, v, A => ∃ a dx xs, v = .ref a ∧ S a ∧ H a = some (.ins (g.CA c) dx ((ks.map g.AN).zip xs)) ∧ ks.length = vs.length ∧ OwnL g H S 0 vs xs A
  | n + 1, .obj c ks vs, v, A => ∃ a dx xs B, v = .ref a ∧ H a = some (.ins (g.CA c) dx ((ks.map g.AN).zip xs)) ∧ ks.length = vs.length ∧ A = a :: B ∧ OwnL g H S n vs xs B
  | _, .exc c vs, v, A => ∃ a dd xs, v = .ref a ∧ g.exa = some (a, c, dd) ∧ A = [] ∧ ((∀ q, dd = some q → S q ∧ H q = some (.xd ([("at" : Str)].zip xs))) ∧ (dd = none → vs = [])) ∧ OwnL g H S 0 vs xs []
def OwnL (g : G) (H : Hp) (S : Rg) : Nat → List D → List V → Fp → Prop
  | _, [], xs, A => xs = [] ∧ A = []
  | n, d :: ds, xs, A => ∃ x ys B C, xs = x :: ys ∧ A = B ++ C ∧ Own g H S n d x B ∧ OwnL g H S n ds ys C
end

/-- the heap grows: what stood stands -/
def Ext (H H' : Hp) : Prop := ∀ a o, H a = some o → H' a = some o
theorem Ext.refl (H : Hp) : Ext H H := fun _ _ h => h
theorem Ext.trans {H H1 H2 : Hp} (a : Ext H H1) (b : Ext H1 H2) : Ext H H2 := fun x o h => b x o (a x o h)
theorem Ext.new {H : Hp} {p : Addr} {o : HO} (h : H p = none) : Ext H (upd H p o) := fun a u e => by
  rw [upd_ne (ne_of_none e h)]
  exact e
theorem Ext.back {H H' : Hp} {p : Addr} (e : Ext H H') (h : H' p = none) : H p = none := by
  cases h1 : H p with
  | none => rfl
  | some o => rw [e p o h1] at h; cases h
theorem Ext.rd {H H' : Hp} {a : Addr} {u : HO} (e : Ext H H') (h : Rd H a u) : Rd H' a u := by
  rcases h with h | ⟨o, h⟩
  · exact .inl (e a _ h)
  · exact .inr ⟨o, e a _ h⟩
theorem Ext.seqT {K : PySem.W.Frag} {H H' : Hp} {a : Addr} {xs : List V} (e : Ext H H') (h : SqT K H a xs) : SqT K H' a xs := by
  rcases h with h | h
  · exact .inl (e.rd h)
  · exact .inr h
theorem Ext.seqL {K : PySem.W.Frag} {H H' : Hp} {a : Addr} {xs : List V} (e : Ext H H') (h : SqL K H a xs) : SqL K H' a xs := by
  rcases h with h | h
  · exact .inl (e.rd h)
  · exact .inr h

/-- only what d stands upon is asked: the nodes at A stay, those in S stay, the tuples stay -/
structure Kp (H H' : Hp) (S S' : Rg) (A : Fp) : Prop where
  own : ∀ a ∈ A, H' a = H a
  frz : ∀ a, S a → S' a ∧ H' a = H a
  tup : ∀ a xs, Rd H a (.tup xs) → Rd H' a (.tup xs)
theorem Kp.sub {H H' : Hp} {S S' : Rg} {A B : Fp} (k : Kp H H' S S' A) (h : ∀ a ∈ B, a ∈ A) : Kp H H' S S' B :=
  ⟨fun a ha => k.own a (h a ha), k.frz, k.tup⟩
theorem Kp.seqT {K : PySem.W.Frag} {H H' : Hp} {S S' : Rg} {A : Fp} {a : Addr} {xs : List V} (k : Kp H H' S S' A) (h : SqT K H a xs) : SqT K H' a xs := by
  rcases h with h | h
  · exact .inl (k.tup _ _ h)
  · exact .inr h
theorem Kp.rd {H H' : Hp} {S S' : Rg} {A : Fp} {a : Addr} {u : HO} (k : Kp H H' S S' A) (s : S a) (h : Rd H a u) : Rd H' a u := by
  unfold Rd
  rw [(k.frz a s).2]
  exact h

mutual
theorem Own.keep {g : G} {H H' : Hp} {S S' : Rg} : ∀ {n : Nat} {d : D} {v : V} {A : Fp}, Own g H S n d v A → Kp H H' S S' A → Own g H' S' n d v A
  | _, .non, _, _, h, _ => by unfold Own at h ⊢; exact h
  | _, .bl _, _, _, h, _ => by unfold Own at h ⊢; exact h
  | _, .int _, _, _, h, _ => by unfold Own at h ⊢; exact h
  | _, .str _, _, _, h, _ => by unfold Own at h ⊢; exact h
  | _, .tup l, _, _, h, k => by
    unfold Own at h ⊢
    obtain ⟨a, xs, rfl, t, tr, hl⟩ := h
    exact ⟨a, xs, rfl, k.seqT t, tr.imp id (k.tup _ _), OwnL.keep hl k⟩
  | 0, .lst l, _, _, h, k => by
    unfold Own at h ⊢
    obtain ⟨a, xs, rfl, s, t, hl⟩ := h
    exact ⟨a, xs, rfl, (k.frz a s).1, k.rd s t, OwnL.keep hl k⟩
  | n + 1, .lst l, _, _, h, k => by
    unfold Own at h ⊢
    obtain ⟨a, xs, B, rfl, t, rfl, hl⟩ := h
    exact ⟨a, xs, B, rfl, by rw [k.own a List.mem_cons_self]; exact t, rfl, OwnL.keep hl (k.sub fun _ hb => List.mem_cons_of_mem _ hb)⟩
  | 0, .dct ks vs, _, _, h, k => by
    unfold Own at h ⊢
    obtain ⟨a, xs, rfl, s, t, e, hl⟩ := h
    refine ⟨a, xs, rfl, (k.frz a s).1, ?_, e, OwnL.keep hl k⟩
    rcases t with ⟨kk, e1, t⟩ | ⟨kk, e0, e1, t⟩
    · exact .inl ⟨kk, e1, k.rd s t⟩
    · exact .inr ⟨kk, e0, e1, k.rd s t⟩
  | n + 1, .dct ks vs, _, _, h, k => by
    unfold Own at h ⊢
    obtain ⟨a, xs, B, rfl, t, e, rfl, hl⟩ := h
    exact ⟨a, xs, B, rfl, by rw [k.own a List.mem_cons_self]; exact t, e, rfl, OwnL.keep hl (k.sub fun _ hb => List.mem_cons_of_mem _ hb)⟩
  | 0, .obj c ks vs, _, _, h, k => by
    unfold Own at h ⊢
    obtain ⟨a, dx, xs, rfl, s, t, e, hl⟩ := h
    exact ⟨a, dx, xs, rfl, (k.frz a s).1, by rw [(k.frz a s).2]; exact t, e, OwnL.keep hl k⟩
  | n + 1, .obj c ks vs, _, _, h, k => by
    unfold Own at h ⊢
    obtain ⟨a, dx, xs, B, rfl, t, e, rfl, hl⟩ := h
    exact ⟨a, dx, xs, B, rfl, by rw [k.own a List.mem_cons_self]; exact t, e, rfl, OwnL.keep hl (k.sub fun _ hb => List.mem_cons_of_mem _ hb)⟩
  | _, .exc c vs, _, _, h, k => by
    unfold Own at h ⊢
    obtain ⟨a, dd, xs, rfl, e, rfl, hq, hl⟩ := h
    exact ⟨a, dd, xs, rfl, e, rfl, ⟨fun q z => ⟨(k.frz q (hq.1 q z).1).1, by rw [(k.frz q (hq.1 q z).1).2]; exact (hq.1 q z).2⟩, hq.2⟩, OwnL.keep hl (k.sub fun _ hb => nomatch hb)⟩
theorem OwnL.keep {g : G} {H H' : Hp} {S S' : Rg} : ∀ {n : Nat} {ds : List D} {xs : List V} {A : Fp}, OwnL g H S n ds xs A → Kp H H' S S' A → OwnL g H' S' n ds xs A
  | _, [], _, _, h, _ => by unfold OwnL at h ⊢; exact h
  | _, d :: ds, _, _, h, k => by
    unfold OwnL at h ⊢
    obtain ⟨x, ys, B, C, rfl, rfl, h1, h2⟩ := h
    exact ⟨x, ys, B, C, rfl, rfl, Own.keep h1 (k.sub fun _ hb => List.mem_append_left _ hb), OwnL.keep h2 (k.sub fun _ hb => List.mem_append_right _ hb)⟩
end

/- what stands at A is there -/
mutual
theorem Own.there {g : G} {H : Hp} {S : Rg} : ∀ {n : Nat} {d : D} {v : V} {A : Fp}, Own g H S n d v A → ∀ a ∈ A, (H a).isSome = true
  | _, .non, _, _, h => by unfold Own at h; rw [h.2]; intro a ha; cases ha
  | _, .bl _, _, _, h => by unfold Own at h; rw [h.2]; intro a ha; cases ha
  | _, .int _, _, _, h => by unfold Own at h; rw [h.2]; intro a ha; cases ha
  | _, .str _, _, _, h => by unfold Own at h; rw [h.2]; intro a ha; cases ha
  | _, .tup l, _, _, h => by unfold Own at h; obtain ⟨a, xs, rfl, t, tr, hl⟩ := h; exact OwnL.there hl
  | 0, .lst l, _, _, h => by unfold Own at h; obtain ⟨a, xs, rfl, s, t, hl⟩ := h; exact OwnL.there hl
  | n + 1, .lst l, _, _, h => by
    unfold Own at h; obtain ⟨a, xs, B, rfl, t, rfl, hl⟩ := h
    intro b hb
    rcases List.mem_cons.mp hb with rfl | hb
    · rw [t]; rfl
    · exact OwnL.there hl b hb
  | 0, .dct ks vs, _, _, h => by unfold Own at h; obtain ⟨a, xs, rfl, s, t, e, hl⟩ := h; exact OwnL.there hl
  | n + 1, .dct ks vs, _, _, h => by
    unfold Own at h; obtain ⟨a, xs, B, rfl, t, e, rfl, hl⟩ := h
    intro b hb
    rcases List.mem_cons.mp hb with rfl | hb
    · rcases t with ⟨_, _, t⟩ | ⟨_, _, _, t⟩ <;> (rw [t]; rfl)
    · exact OwnL.there hl b hb
  | 0, .obj c ks vs, _, _, h => by unfold Own at h; obtain ⟨a, dx, xs, rfl, s, t, e, hl⟩ := h; exact OwnL.there hl
  | n + 1, .obj c ks vs, _, _, h => by
    unfold Own at h; obtain ⟨a, dx, xs, B, rfl, t, e, rfl, hl⟩ := h
    intro b hb
    rcases List.mem_cons.mp hb with rfl | hb
    · rw [t]; rfl
    · exact OwnL.there hl b hb
  | _, .exc c vs, _, _, h => by unfold Own at h; obtain ⟨a, dd, xs, rfl, e, rfl, hq, hl⟩ := h; intro b hb; cases hb
theorem OwnL.there {g : G} {H : Hp} {S : Rg} : ∀ {n : Nat} {ds : List D} {xs : List V} {A : Fp}, OwnL g H S n ds xs A → ∀ a ∈ A, (H a).isSome = true
  | _, [], _, _, h => by unfold OwnL at h; rw [h.2]; intro a ha; cases ha
  | _, d :: ds, _, _, h => by
    unfold OwnL at h
    obtain ⟨x, ys, B, C, rfl, rfl, h1, h2⟩ := h
    intro a ha
    rcases List.mem_append.mp ha with ha | ha
    · exact Own.there h1 a ha
    · exact OwnL.there h2 a ha
end

/- weaken: from depth n to depth m: B stays owned, C is given to the region -/
def Spl (A B C : Fp) : Prop := (∀ a, a ∈ A ↔ a ∈ B ∨ a ∈ C) ∧ (A.Nodup → (B ++ C).Nodup)
theorem Spl.nil : Spl [] [] [] := ⟨fun a => by simp, fun _ => List.nodup_nil⟩
theorem Spl.app {A B C A' B' C' : Fp} (h : Spl A B C) (k : Spl A' B' C') : Spl (A ++ A') (B ++ B') (C ++ C') := by
  refine ⟨fun a => ?_, fun q => ?_⟩
  · simp only [List.mem_append, h.1 a, k.1 a]
    constructor
    · rintro ((h | h) | (h | h))
      · exact .inl (.inl h)
      · exact .inr (.inl h)
      · exact .inl (.inr h)
      · exact .inr (.inr h)
    · rintro ((h | h) | (h | h))
      · exact .inl (.inl h)
      · exact .inr (.inl h)
      · exact .inl (.inr h)
      · exact .inr (.inr h)
  · obtain ⟨q1, q2, q3⟩ := List.nodup_append.mp q
    obtain ⟨a1, a2, a3⟩ := List.nodup_append.mp (h.2 q1)
    obtain ⟨b1, b2, b3⟩ := List.nodup_append.mp (k.2 q2)
    have hB : ∀ a, a ∈ B → a ∈ A := fun a z => (h.1 a).mpr (.inl z)
    have hC : ∀ a, a ∈ C → a ∈ A := fun a z => (h.1 a).mpr (.inr z)
    have hB' : ∀ a, a ∈ B' → a ∈ A' := fun a z => (k.1 a).mpr (.inl z)
    have hC' : ∀ a, a ∈ C' → a ∈ A' := fun a z => (k.1 a).mpr (.inr z)
    refine List.nodup_append.mpr ⟨List.nodup_append.mpr ⟨a1, b1, fun a x b y => q3 a (hB a x) b (hB' b y)⟩, List.nodup_append.mpr ⟨a2, b2, fun a x b y => q3 a (hC a x) b (hC' b y)⟩, fun a x b y => ?_⟩
    rcases List.mem_append.mp x with x | x <;> rcases List.mem_append.mp y with y | y
    · exact a3 a x b y
    · exact q3 a (hB a x) b (hC' b y)
    · exact fun e => q3 b (hC b y) a (hB' a x) e.symm
    · exact b3 a x b y
theorem Spl.own {a : Addr} {A B C : Fp} (h : Spl A B C) : Spl (a :: A) (a :: B) C := by
  refine ⟨fun b => ?_, fun q => ?_⟩
  · simp only [List.mem_cons, h.1 b, or_assoc]
  · obtain ⟨q1, q2⟩ := List.nodup_cons.mp q
    show (a :: (B ++ C)).Nodup
    refine List.nodup_cons.mpr ⟨fun z => q1 ?_, h.2 q2⟩
    rw [h.1]
    exact List.mem_append.mp z
theorem Spl.give {a : Addr} {A B C : Fp} (h : Spl A B C) : Spl (a :: A) B (a :: C) := by
  refine ⟨fun b => ?_, fun q => ?_⟩
  · simp only [List.mem_cons, h.1 b]
    constructor
    · rintro (h | h | h)
      · exact .inr (.inl h)
      · exact .inl h
      · exact .inr (.inr h)
    · rintro (h | h | h)
      · exact .inr (.inl h)
      · exact .inl h
      · exact .inr (.inr h)
  · obtain ⟨q1, q2⟩ := List.nodup_cons.mp q
    obtain ⟨a1, a2, a3⟩ := List.nodup_append.mp (h.2 q2)
    refine List.nodup_append.mpr ⟨a1, List.nodup_cons.mpr ⟨fun z => q1 ((h.1 a).mpr (.inr z)), a2⟩, fun x hx y hy => ?_⟩
    rcases List.mem_cons.mp hy with rfl | hy
    · exact fun e => q1 ((h.1 y).mpr (.inl (e ▸ hx)))
    · exact a3 x hx y hy
mutual
theorem Own.weak {g : G} {H : Hp} {S : Rg} : ∀ {n m : Nat} {d : D} {v : V} {A : Fp}, m ≤ n → Own g H S n d v A →
    ∃ B C, (∀ R : Rg, (∀ a, S a → R a) → (∀ a ∈ C, R a) → Own g H R m d v B) ∧ Spl A B C
  | _, _, .non, _, _, _, h => by unfold Own at h; refine ⟨[], [], fun R _ _ => ?_, by rw [h.2]; exact .nil⟩; unfold Own; exact ⟨h.1, rfl⟩
  | _, _, .bl _, _, _, _, h => by unfold Own at h; refine ⟨[], [], fun R _ _ => ?_, by rw [h.2]; exact .nil⟩; unfold Own; exact ⟨h.1, rfl⟩
  | _, _, .int _, _, _, _, h => by unfold Own at h; refine ⟨[], [], fun R _ _ => ?_, by rw [h.2]; exact .nil⟩; unfold Own; exact ⟨h.1, rfl⟩
  | _, _, .str _, _, _, _, h => by unfold Own at h; refine ⟨[], [], fun R _ _ => ?_, by rw [h.2]; exact .nil⟩; unfold Own; exact ⟨h.1, rfl⟩
  | n, m, .tup l, _, A, hm, h => by
    unfold Own at h
    obtain ⟨a, xs, rfl, t, tr, hl⟩ := h
    obtain ⟨B, C, h1, h2⟩ := OwnL.weak hm hl
    refine ⟨B, C, fun R hS hC => ?_, h2⟩
    unfold Own
    refine ⟨a, xs, rfl, t, ?_, h1 R hS hC⟩
    rcases tr with rfl | tr
    · refine .inl (List.eq_nil_iff_forall_not_mem.mpr fun b hb => ?_)
      have := (h2.1 b).mpr (.inl hb)
      cases this
    · exact .inr tr
  | 0, 0, .lst l, _, A, hm, h => by
    unfold Own at h
    obtain ⟨a, xs, rfl, s, t, hl⟩ := h
    obtain ⟨B, C, h1, h2⟩ := OwnL.weak hm hl
    refine ⟨B, C, fun R hS hC => ?_, h2⟩
    unfold Own
    exact ⟨a, xs, rfl, hS a s, t, h1 R hS hC⟩
  | n + 1, 0, .lst l, _, A, hm, h => by
    unfold Own at h
    obtain ⟨a, xs, A', rfl, t, rfl, hl⟩ := h
    obtain ⟨B, C, h1, h2⟩ := OwnL.weak (Nat.zero_le n) hl
    refine ⟨B, a :: C, fun R hS hC => ?_, h2.give⟩
    unfold Own
    exact ⟨a, xs, rfl, hC a List.mem_cons_self, .inl t, h1 R hS fun b hb => hC b (List.mem_cons_of_mem _ hb)⟩
  | n + 1, m + 1, .lst l, _, A, hm, h => by
    unfold Own at h
    obtain ⟨a, xs, A', rfl, t, rfl, hl⟩ := h
    obtain ⟨B, C, h1, h2⟩ := OwnL.weak (Nat.le_of_succ_le_succ hm) hl
    refine ⟨a :: B, C, fun R hS hC => ?_, h2.own⟩
    unfold Own
    exact ⟨a, xs, B, rfl, t, rfl, h1 R hS hC⟩
  | 0, 0, .dct ks vs, _, A, hm, h => by
    unfold Own at h
    obtain ⟨a, xs, rfl, s, t, e, hl⟩ := h
    obtain ⟨B, C, h1, h2⟩ := OwnL.weak hm hl
    refine ⟨B, C, fun R hS hC => ?_, h2⟩
    unfold Own
    exact ⟨a, xs, rfl, hS a s, t, e, h1 R hS hC⟩
  | n + 1, 0, .dct ks vs, _, A, hm, h => by
    unfold Own at h
    obtain ⟨a, xs, A', rfl, t, e, rfl, hl⟩ := h
    obtain ⟨B, C, h1, h2⟩ := OwnL.weak (Nat.zero_le n) hl
    refine ⟨B, a :: C, fun R hS hC => ?_, h2.give⟩
    unfold Own
    refine ⟨a, xs, rfl, hC a List.mem_cons_self, ?_, e, h1 R hS fun b hb => hC b (List.mem_cons_of_mem _ hb)⟩
    rcases t with ⟨kk, e1, t⟩ | ⟨kk, e0, e1, t⟩
    · exact .inl ⟨kk, e1, .inl t⟩
    · exact .inr ⟨kk, e0, e1, .inl t⟩
  | n + 1, m + 1, .dct ks vs, _, A, hm, h => by
    unfold Own at h
    obtain ⟨a, xs, A', rfl, t, e, rfl, hl⟩ := h
    obtain ⟨B, C, h1, h2⟩ := OwnL.weak (Nat.le_of_succ_le_succ hm) hl
    refine ⟨a :: B, C, fun R hS hC => ?_, h2.own⟩
    unfold Own
    exact ⟨a, xs, B, rfl, t, e, rfl, h1 R hS hC⟩
  | 0, 0, .obj c ks vs, _, A, hm, h => by
    unfold Own at h
    obtain ⟨a, dx, xs, rfl, s, t, e, hl⟩ := h
    obtain ⟨B, C, h1, h2⟩ := OwnL.weak hm hl
    refine ⟨B, C, fun R hS hC => ?_, h2⟩
    unfold Own
    exact ⟨a, dx, xs, rfl, hS a s, t, e, h1 R hS hC⟩
  | n + 1, 0, .obj c ks vs, _, A, hm, h => by
    unfold Own at h
    obtain ⟨a, dx, xs, A', rfl, t, e, rfl, hl⟩ := h
    obtain ⟨B, C, h1, h2⟩ := OwnL.weak (Nat.zero_le n) hl
    refine ⟨B, a :: C, fun R hS hC => ?_, h2.give⟩
    unfold Own
    exact ⟨a, dx, xs, rfl, hC a List.mem_cons_self, t, e, h1 R hS fun b hb => hC b (List.mem_cons_of_mem _ hb)⟩
  | n + 1, m + 1, .obj c ks vs, _, A, hm, h => by
    unfold Own at h
    obtain ⟨a, dx, xs, A', rfl, t, e, rfl, hl⟩ := h
    obtain ⟨B, C, h1, h2⟩ := OwnL.weak (Nat.le_of_succ_le_succ hm) hl
    refine ⟨a :: B, C, fun R hS hC => ?_, h2.own⟩
    unfold Own
    exact ⟨a, dx, xs, B, rfl, t, e, rfl, h1 R hS hC⟩
  | n, m, .exc c vs, _, A, hm, h => by
    unfold Own at h
    obtain ⟨a, dd, xs, rfl, e, rfl, hq, hl⟩ := h
    obtain ⟨B, C, h1, h2⟩ := OwnL.weak (Nat.le_refl 0) hl
    have eB : B = [] := List.eq_nil_iff_forall_not_mem.mpr fun b hb => nomatch (h2.1 b).mpr (.inl hb)
    have eC : C = [] := List.eq_nil_iff_forall_not_mem.mpr fun b hb => nomatch (h2.1 b).mpr (.inr hb)
    subst eB eC
    refine ⟨[], [], fun R hS hC => ?_, .nil⟩
    unfold Own
    exact ⟨a, dd, xs, rfl, e, rfl, ⟨fun q z => ⟨hS q (hq.1 q z).1, (hq.1 q z).2⟩, hq.2⟩, h1 R hS fun _ hb => nomatch hb⟩
theorem OwnL.weak {g : G} {H : Hp} {S : Rg} : ∀ {n m : Nat} {ds : List D} {xs : List V} {A : Fp}, m ≤ n → OwnL g H S n ds xs A →
    ∃ B C, (∀ R : Rg, (∀ a, S a → R a) → (∀ a ∈ C, R a) → OwnL g H R m ds xs B) ∧ Spl A B C
  | _, _, [], _, _, _, h => by unfold OwnL at h; refine ⟨[], [], fun R _ _ => ?_, by rw [h.2]; exact .nil⟩; unfold OwnL; exact ⟨h.1, rfl⟩
  | n, m, d :: ds, _, A, hm, h => by
    unfold OwnL at h
    obtain ⟨x, ys, A1, A2, rfl, rfl, h1, h2⟩ := h
    obtain ⟨B1, C1, a1, a2⟩ := Own.weak hm h1
    obtain ⟨B2, C2, b1, b2⟩ := OwnL.weak hm h2
    refine ⟨B1 ++ B2, C1 ++ C2, fun R hS hC => ?_, a2.app b2⟩
    unfold OwnL
    exact ⟨x, ys, B1, B2, rfl, rfl, a1 R hS fun b hb => hC b (List.mem_append_left _ hb), b1 R hS fun b hb => hC b (List.mem_append_right _ hb)⟩
end

/- at depth 0 nothing is owned -/
mutual
theorem Own.zero {g : G} {H : Hp} {S : Rg} : ∀ {d : D} {v : V} {A : Fp}, Own g H S 0 d v A → A = []
  | .non, _, _, h => by unfold Own at h; exact h.2
  | .bl _, _, _, h => by unfold Own at h; exact h.2
  | .int _, _, _, h => by unfold Own at h; exact h.2
  | .str _, _, _, h => by unfold Own at h; exact h.2
  | .tup l, _, _, h => by unfold Own at h; obtain ⟨a, xs, rfl, t, tr, hl⟩ := h; exact OwnL.zero hl
  | .lst l, _, _, h => by unfold Own at h; obtain ⟨a, xs, rfl, s, t, hl⟩ := h; exact OwnL.zero hl
  | .dct ks vs, _, _, h => by unfold Own at h; obtain ⟨a, xs, rfl, s, t, e, hl⟩ := h; exact OwnL.zero hl
  | .obj c ks vs, _, _, h => by unfold Own at h; obtain ⟨a, dx, xs, rfl, s, t, e, hl⟩ := h; exact OwnL.zero hl
  | .exc c vs, _, _, h => by unfold Own at h; obtain ⟨a, dd, xs, rfl, e, rfl, hq, hl⟩ := h; rfl
theorem OwnL.zero {g : G} {H : Hp} {S : Rg} : ∀ {ds : List D} {xs : List V} {A : Fp}, OwnL g H S 0 ds xs A → A = []
  | [], _, _, h => by unfold OwnL at h; exact h.2
  | d :: ds, _, _, h => by
    unfold OwnL at h
    obtain ⟨x, ys, B, C, rfl, rfl, h1, h2⟩ := h
    rw [Own.zero h1, OwnL.zero h2]
    rfl
end

/- no mutable node deeper than n -/
mutual
def immB : Nat → D → Bool
  | _, .non => true
  | _, .bl _ => true
  | _, .int _ => true
  | _, .str _ => true
  | n, .tup l => immBL n l
  | 0, .lst _ => false
  | n + 1, .lst l => immBL n l
  | 0, .dct _ _ => false
  | n + 1, .dct _ vs => immBL n vs
  | 0, .obj _ _ _ => false
  | n + 1, .obj _ _ vs => immBL n vs
  | _, .exc _ _ => false
def immBL : Nat → List D → Bool
  | _, [] => true
  | n, d :: ds => immB n d && immBL n ds
end

/- where nothing mutable is deeper the region does not matter, nor does a greater depth -/
mutual
theorem Own.imm {g : G} {H : Hp} {S R : Rg} : ∀ {n m : Nat} {d : D} {v : V} {A : Fp}, n ≤ m → immB n d = true → Own g H S n d v A → Own g H R m d v A
  | _, _, .non, _, _, _, _, h => by unfold Own at h ⊢; exact h
  | _, _, .bl _, _, _, _, _, h => by unfold Own at h ⊢; exact h
  | _, _, .int _, _, _, _, _, h => by unfold Own at h ⊢; exact h
  | _, _, .str _, _, _, _, _, h => by unfold Own at h ⊢; exact h
  | n, m, .tup l, _, _, hm, i, h => by
    unfold Own at h ⊢
    obtain ⟨a, xs, rfl, t, tr, hl⟩ := h
    exact ⟨a, xs, rfl, t, tr, OwnL.imm hm (by simpa only [immB] using i) hl⟩
  | 0, _, .lst l, _, _, hm, i, h => by simp [immB] at i
  | n + 1, 0, .lst l, _, _, hm, i, h => absurd hm (by omega)
  | n + 1, m + 1, .lst l, _, _, hm, i, h => by
    unfold Own at h ⊢
    obtain ⟨a, xs, B, rfl, t, rfl, hl⟩ := h
    exact ⟨a, xs, B, rfl, t, rfl, OwnL.imm (Nat.le_of_succ_le_succ hm) (by simpa only [immB] using i) hl⟩
  | 0, _, .dct ks vs, _, _, hm, i, h => by simp [immB] at i
  | n + 1, 0, .dct ks vs, _, _, hm, i, h => absurd hm (by omega)
  | n + 1, m + 1, .dct ks vs, _, _, hm, i, h => by
    unfold Own at h ⊢
    obtain ⟨a, xs, B, rfl, t, e, rfl, hl⟩ := h
    exact ⟨a, xs, B, rfl, t, e, rfl, OwnL.imm (Nat.le_of_succ_le_succ hm) (by simpa only [immB] using i) hl⟩
  | 0, _, .obj c ks vs, _, _, hm, i, h => by simp [immB] at i
  | n + 1, 0, .obj c ks vs, _, _, hm, i, h => absurd hm (by omega)
  | n + 1, m + 1, .obj c ks vs, _, _, hm, i, h => by
    unfold Own at h ⊢
    obtain ⟨a, dx, xs, B, rfl, t, e, rfl, hl⟩ := h
    exact ⟨a, dx, xs, B, rfl, t, e, rfl, OwnL.imm (Nat.le_of_succ_le_succ hm) (by simpa only [immB] using i) hl⟩
  | _, _, .exc c vs, _, _, hm, i, h => by simp [immB] at i
theorem OwnL.imm {g : G} {H : Hp} {S R : Rg} : ∀ {n m : Nat} {ds : List D} {xs : List V} {A : Fp}, n ≤ m → immBL n ds = true → OwnL g H S n ds xs A → OwnL g H R m ds xs A
  | _, _, [], _, _, _, _, h => by unfold OwnL at h ⊢; exact h
  | n, m, d :: ds, _, _, hm, i, h => by
    unfold OwnL at h ⊢
    obtain ⟨x, ys, B, C, rfl, rfl, h1, h2⟩ := h
    simp only [immBL, Bool.and_eq_true] at i
    exact ⟨x, ys, B, C, rfl, rfl, Own.imm hm i.1 h1, OwnL.imm hm i.2 h2⟩
end

theorem OwnL.length {g : G} {H : Hp} {S : Rg} {n : Nat} : ∀ {ds : List D} {xs : List V} {A : Fp}, OwnL g H S n ds xs A → xs.length = ds.length
  | [], _, _, h => by unfold OwnL at h; rw [h.1]; rfl
  | d :: ds, _, _, h => by
    unfold OwnL at h
    obtain ⟨x, ys, B, C, rfl, rfl, h1, h2⟩ := h
    rw [List.length_cons, List.length_cons, OwnL.length h2]
theorem OwnL.get {g : G} {H : Hp} {S : Rg} {n : Nat} : ∀ {ds : List D} {xs : List V} {A : Fp} {i : Nat} {d : D}, OwnL g H S n ds xs A → ds[i]? = some d → ∃ x B, xs[i]? = some x ∧ Own g H S n d x B ∧ ∀ a ∈ B, a ∈ A
  | [], _, _, _, _, h, e => by simp at e
  | c :: ds, _, _, 0, d, h, e => by
    unfold OwnL at h
    obtain ⟨x, ys, B, C, rfl, rfl, h1, h2⟩ := h
    simp at e
    subst e
    exact ⟨x, B, rfl, h1, fun a ha => List.mem_append_left _ ha⟩
  | c :: ds, _, _, i + 1, d, h, e => by
    unfold OwnL at h
    obtain ⟨x, ys, B, C, rfl, rfl, h1, h2⟩ := h
    obtain ⟨z, B', e1, e2, e3⟩ := OwnL.get h2 (by simpa using e)
    exact ⟨z, B', by simpa using e1, e2, fun a ha => List.mem_append_right _ (e3 a ha)⟩
theorem OwnL.append {g : G} {H : Hp} {S : Rg} {n : Nat} : ∀ {ds es : List D} {xs ys : List V} {A B : Fp}, OwnL g H S n ds xs A → OwnL g H S n es ys B → OwnL g H S n (ds ++ es) (xs ++ ys) (A ++ B)
  | [], _, _, _, _, _, h, k => by unfold OwnL at h; rw [h.1, h.2]; exact k
  | c :: ds, _, _, _, _, _, h, k => by
    unfold OwnL at h
    obtain ⟨x, zs, B', C, rfl, rfl, h1, h2⟩ := h
    show OwnL g H S n (c :: (ds ++ _)) (x :: (zs ++ _)) _
    unfold OwnL
    exact ⟨x, _, B', _, rfl, List.append_assoc _ _ _, h1, OwnL.append h2 k⟩
theorem OwnL.nil {g : G} {H : Hp} {S : Rg} {n : Nat} : OwnL g H S n [] [] [] := by unfold OwnL; exact ⟨rfl, rfl⟩
theorem OwnL.one {g : G} {H : Hp} {S : Rg} {n : Nat} {d : D} {x : V} {A : Fp} (h : Own g H S n d x A) : OwnL g H S n [d] [x] A := by
  unfold OwnL
  exact ⟨x, [], A, [], rfl, (List.append_nil _).symm, h, OwnL.nil⟩
theorem OwnL.cons {g : G} {H : Hp} {S : Rg} {n : Nat} {d : D} {ds : List D} {x : V} {xs : List V} {A B : Fp} (h : Own g H S n d x A) (k : OwnL g H S n ds xs B) : OwnL g H S n (d :: ds) (x :: xs) (A ++ B) := by
  unfold OwnL
  exact ⟨x, xs, A, B, rfl, rfl, h, k⟩

/-- what is owned is no tuple -/
def noTup (H : Hp) (a : Addr) : Prop := ∀ xs, ¬ Rd H a (.tup xs)
theorem noTup_of {H : Hp} {a : Addr} {o : HO} (h : H a = some o) (k : (∀ xs, o ≠ .tup xs) ∧ ∀ ob u, o ≠ .frz ob u) : noTup H a := fun xs q => by
  rcases q with q | ⟨ob, q⟩
  · rw [h] at q; cases q; exact k.1 xs rfl
  · rw [h] at q; cases q; exact k.2 ob _ rfl
mutual
theorem Own.notup {g : G} {H : Hp} {S : Rg} : ∀ {n : Nat} {d : D} {v : V} {A : Fp}, Own g H S n d v A → ∀ a ∈ A, noTup H a
  | _, .non, _, _, h => by unfold Own at h; rw [h.2]; intro a ha; cases ha
  | _, .bl _, _, _, h => by unfold Own at h; rw [h.2]; intro a ha; cases ha
  | _, .int _, _, _, h => by unfold Own at h; rw [h.2]; intro a ha; cases ha
  | _, .str _, _, _, h => by unfold Own at h; rw [h.2]; intro a ha; cases ha
  | _, .tup l, _, _, h => by unfold Own at h; obtain ⟨a, xs, rfl, t, tr, hl⟩ := h; exact OwnL.notup hl
  | 0, .lst l, _, _, h => by unfold Own at h; obtain ⟨a, xs, rfl, s, t, hl⟩ := h; exact OwnL.notup hl
  | n + 1, .lst l, _, _, h => by
    unfold Own at h; obtain ⟨a, xs, B, rfl, t, rfl, hl⟩ := h
    intro b hb
    rcases List.mem_cons.mp hb with rfl | hb
    · exact noTup_of t ⟨(fun _ q => HO.noConfusion q), fun _ _ q => HO.noConfusion q⟩
    · exact OwnL.notup hl b hb
  | 0, .dct ks vs, _, _, h => by unfold Own at h; obtain ⟨a, xs, rfl, s, t, e, hl⟩ := h; exact OwnL.notup hl
  | n + 1, .dct ks vs, _, _, h => by
    unfold Own at h; obtain ⟨a, xs, B, rfl, t, e, rfl, hl⟩ := h
    intro b hb
    rcases List.mem_cons.mp hb with rfl | hb
    · rcases t with ⟨_, _, t⟩ | ⟨_, _, _, t⟩ <;> exact noTup_of t ⟨(fun _ q => HO.noConfusion q), fun _ _ q => HO.noConfusion q⟩
    · exact OwnL.notup hl b hb
  | 0, .obj c ks vs, _, _, h => by unfold Own at h; obtain ⟨a, dx, xs, rfl, s, t, e, hl⟩ := h; exact OwnL.notup hl
  | n + 1, .obj c ks vs, _, _, h => by
    unfold Own at h; obtain ⟨a, dx, xs, B, rfl, t, e, rfl, hl⟩ := h
    intro b hb
    rcases List.mem_cons.mp hb with rfl | hb
    · exact noTup_of t ⟨(fun _ q => HO.noConfusion q), fun _ _ q => HO.noConfusion q⟩
    · exact OwnL.notup hl b hb
  | _, .exc c vs, _, _, h => by unfold Own at h; obtain ⟨a, dd, xs, rfl, e, rfl, hq, hl⟩ := h; intro b hb; cases hb
theorem OwnL.notup {g : G} {H : Hp} {S : Rg} : ∀ {n : Nat} {ds : List D} {xs : List V} {A : Fp}, OwnL g H S n ds xs A → ∀ a ∈ A, noTup H a
  | _, [], _, _, h => by unfold OwnL at h; rw [h.2]; intro a ha; cases ha
  | _, d :: ds, _, _, h => by
    unfold OwnL at h
    obtain ⟨x, ys, B, C, rfl, rfl, h1, h2⟩ := h
    intro a ha
    rcases List.mem_append.mp ha with ha | ha
    · exact Own.notup h1 a ha
    · exact OwnL.notup h2 a ha
end
end PL
/-! PL2: a small language over data trees, and what it does. -/
namespace PL
open PySem L2

inductive Bop | add | sub | mul | fdiv | mod | pow
  deriving DecidableEq
inductive Cop | eq | ne | lt | le | gt | ge | isN | notN | isin | notin
  deriving DecidableEq
/-- what is walked: a sequence, ranges, enumerate, zip, a dict's items -/
inductive SK | seq | rng1 | rng2 | rng3 | enum | zip | items
  deriving DecidableEq
def SK.isRng : SK → Bool
  | .rng1 => true | .rng2 => true | .rng3 => true | _ => false
/-- built-in functions -/
inductive Bi | len | abs | sum | max1 | min1 | max2 | min2 | list | tuple | str | int | all | any | sorted | repr
  deriving DecidableEq
/-- methods of built-in types -/
inductive Bm | count | index | get1 | get2 | join | split
  deriving DecidableEq
/-- what isinstance asks -/
inductive Ty | int | bool | tuple | list | str | dict | float
  deriving DecidableEq

inductive Ex where
  | var (i : Nat)
  | con (d : D)
  | glo (k : Nat)
  | bin (o : Bop) (a b : Ex)
  | neg (a : Ex)
  | cmp (o : Cop) (a b : Ex)
  | cmp2 (o p : Cop) (a b c : Ex)
  | cmp3 (o p q : Cop) (a b c d : Ex)
  | and (a b : Ex) | or (a b : Ex) | not (a : Ex)
  | ife (c a b : Ex)
  | ix (a i : Ex)
  | omit
  | sl (a lo hi : Ex)
  | fld (a : Ex) (f : Nat)
  | isi (a : Ex) (t : Ty)
  | call (f : Nat) (es : List Ex)
  | meth (m : Nat) (a : Ex) (es : List Ex)
  | mk (c : Nat) (es : List Ex)
  | bi (b : Bi) (es : List Ex)
  | bm (m : Bm) (a : Ex) (es : List Ex)
  /-- list(range(a)), list(range(a, b)) -/
  | lrng1 (a : Ex)
  | lrng (a b : Ex)
  | tup (es : List Ex)
  | lst (es : List Ex)
  | dct0
  | isE (a : Ex) (cs : List Nat)
  | atE (a : Ex)
  | comp (k : SK) (args : List Ex) (tg : List Nat) (elt : Ex)
  | compIf (k : SK) (args : List Ex) (tg : List Nat) (elt cond : Ex)
  | dead
  deriving Inhabited

/-- an exception: its class's number, what stands at its field at -/
structure Exn where
  c : Nat
  a : Option D
inductive Res where
  /-- a value; how deep its mutable nodes are nobody else's -/
  | ok (d : D) (n : Nat)
  | exn (e : Exn)
  | bad
inductive RT where
  | ok (b : Bool)
  | exn (e : Exn)
  | bad
inductive RL where
  | ok (l : List (D × Nat))
  | exn (e : Exn)
  | bad
def Res.bind (r : Res) (f : D → Res) : Res := match r with | .ok d _ => f d | .exn e => .exn e | .bad => .bad
def Res.bindT (r : Res) (f : D → RT) : RT := match r with | .ok d _ => f d | .exn e => .exn e | .bad => .bad
def RT.bind (r : RT) (f : Bool → Res) : Res := match r with | .ok d => f d | .exn e => .exn e | .bad => .bad
def RT.bindT (r : RT) (f : Bool → RT) : RT := match r with | .ok d => f d | .exn e => .exn e | .bad => .bad
def RL.bind (r : RL) (f : List D → Res) : Res := match r with | .ok l => f (l.map (·.1)) | .exn e => .exn e | .bad => .bad
def RL.bindN (r : RL) (f : List (D × Nat) → Res) : Res := match r with | .ok l => f l | .exn e => .exn e | .bad => .bad
@[simp] theorem Res.bind_ok (d : D) (n : Nat) (f : D → Res) : (Res.ok d n).bind f = f d := rfl
@[simp] theorem Res.bind_exn (e : Exn) (f : D → Res) : (Res.exn e).bind f = .exn e := rfl
@[simp] theorem Res.bind_bad (f : D → Res) : Res.bad.bind f = .bad := rfl
@[simp] theorem Res.bindT_ok (d : D) (n : Nat) (f : D → RT) : (Res.ok d n).bindT f = f d := rfl
@[simp] theorem Res.bindT_exn (e : Exn) (f : D → RT) : (Res.exn e).bindT f = .exn e := rfl
@[simp] theorem Res.bindT_bad (f : D → RT) : Res.bad.bindT f = .bad := rfl
@[simp] theorem RT.bind_ok (b : Bool) (f : Bool → Res) : (RT.ok b).bind f = f b := rfl
@[simp] theorem RT.bind_exn (e : Exn) (f : Bool → Res) : (RT.exn e).bind f = .exn e := rfl
@[simp] theorem RT.bind_bad (f : Bool → Res) : RT.bad.bind f = .bad := rfl
@[simp] theorem RT.bindT_ok (b : Bool) (f : Bool → RT) : (RT.ok b).bindT f = f b := rfl
@[simp] theorem RT.bindT_exn (e : Exn) (f : Bool → RT) : (RT.exn e).bindT f = .exn e := rfl
@[simp] theorem RT.bindT_bad (f : Bool → RT) : RT.bad.bindT f = .bad := rfl
@[simp] theorem RL.bind_ok (l : List (D × Nat)) (f : List D → Res) : (RL.ok l).bind f = f (l.map (·.1)) := rfl
@[simp] theorem RL.bind_exn (e : Exn) (f : List D → Res) : (RL.exn e).bind f = .exn e := rfl
@[simp] theorem RL.bind_bad (f : List D → Res) : RL.bad.bind f = .bad := rfl
@[simp] theorem RL.bindN_ok (l : List (D × Nat)) (f : List (D × Nat) → Res) : (RL.ok l).bindN f = f l := rfl
@[simp] theorem RL.bindN_exn (e : Exn) (f : List (D × Nat) → Res) : (RL.exn e).bindN f = .exn e := rfl
@[simp] theorem RL.bindN_bad (f : List (D × Nat) → Res) : RL.bad.bindN f = .bad := rfl

/-- the defs that a body may call: functions, methods (by the receiver's class), makers; the module's constants -/
structure Fe where
  fn : Nat → List D → Res
  me : Nat → Nat → List D → Res
  ma : Nat → List D → Res
  gl : Nat → D
  /-- the attributes that instances of a class may have -/
  fo : Nat → Nat → Bool
  /-- the methods that a class has -/
  mh : Nat → Nat → Bool
  /-- of the exceptions' classes: is the one of the other -/
  sub : Nat → Nat → Option Bool := fun _ _ => none
  /-- classes that may be raised with a text, with a number -/
  rz : Nat → Bool := fun _ => false
  ra : Nat → Bool := fun _ => false

/-! ### equality -/
mutual
def eqD : D → D → Bool
  | .non, .non => true
  | .bl a, .bl b => a == b
  | .bl a, .int j => (if a then 1 else 0) == j
  | .int i, .bl b => i == (if b then 1 else 0)
  | .int i, .int j => i == j
  | .str x, .str y => x == y
  | .lst xs, .lst ys => eqDL xs ys
  | .tup xs, .tup ys => eqDL xs ys
  | _, _ => false
def eqDL : List D → List D → Bool
  | [], [] => true
  | x :: xs, y :: ys => eqD x y && eqDL xs ys
  | _, _ => false
end
/- data that == looks at, of bounded depth -/
mutual
def shp : Nat → D → Bool
  | _, .non => true
  | _, .bl _ => true
  | _, .int _ => true
  | _, .str s => PyData.canLay0 (.str s)
  | 0, _ => false
  | n + 1, .tup l => shpL n l
  | n + 1, .lst l => shpL n l
  | _, _ => false
def shpL : Nat → List D → Bool
  | _, [] => true
  | n, d :: ds => shp n d && shpL n ds
end
def flatD : D → Bool
  | .non => true
  | .bl _ => true
  | .int _ => true
  | .str _ => true
  | _ => false

/-- a small number (said so that the kernel doesn't count) -/
def smallI (i : Int) : Bool := decide (i.natAbs.log2 < 61)
theorem small_bd {i : Int} (h : smallI i = true) : -(2 ^ 61) ≤ i ∧ i < 2 ^ 61 := by
  unfold smallI at h
  replace h := of_decide_eq_true h
  by_cases h0 : i.natAbs = 0
  · omega
  · have := (Nat.log2_lt h0).mp h
    omega
def mulOk (i j : Int) : Bool := decide (i.natAbs.log2 + j.natAbs.log2 < 2 ^ 26)
def divOk (j : Int) : Bool := decide (j ≠ 0) && decide (j.natAbs.log2 < 9000)
def powOk (i j : Int) : Bool := decide (0 ≤ j) && decide ((i.natAbs.log2 + 1 : Nat) * j ≤ 2 ^ 26)
abbrev szLine : Nat := 16777216

def binD (o : Bop) (x y : D) : Res :=
  match o, x, y with
  | .add, .int i, .int j => .ok (.int (i + j)) 0
  | .sub, .int i, .int j => .ok (.int (i - j)) 0
  | .mul, .int i, .int j => if mulOk i j then .ok (.int (i * j)) 0 else .bad
  | .fdiv, .int i, .int j => if divOk j then .ok (.int (i.fdiv j)) 0 else .bad
  | .mod, .int i, .int j => if decide (j ≠ 0) then .ok (.int (i.fmod j)) 0 else .bad
  | .pow, .int i, .int j => if powOk i j then .ok (.int (i ^ j.toNat)) 0 else .bad
  | .add, .str a, .str b => if decide (a.length + b.length ≤ szLine) then .ok (.str (a ++ b)) 0 else .bad
  | .add, .lst a, .lst b => if decide (a.length + b.length ≤ szLine) then .ok (.lst (a ++ b)) 1 else .bad
  | .add, .tup a, .tup b => if decide (a.length + b.length ≤ szLine) then .ok (.tup (a ++ b)) 0 else .bad
  | .mul, .lst a, .int k => if smallI k && decide (a.length * k.toNat ≤ szLine) then .ok (.lst (List.replicate k.toNat a).flatten) 1 else .bad
  | .mul, .tup a, .int k => if !a.isEmpty && decide (2 ≤ k) && decide (k ≤ 1000) && decide (a.length ≤ 1000) then .ok (.tup (List.replicate k.toNat a).flatten) 0 else .bad
  | _, _, _ => .bad

/-- the place that an index means -/
def atD (l : List D) (i : Int) : Res := match atI l i with | some d => .ok d 0 | none => .bad
def strAt (s : Str) (i : Int) : Res := match atI s.cps.toList i with | some c => if decide (s.length ≤ szLine) then .ok (.str ⟨#[c]⟩) 0 else .bad | none => .bad
/-- where a key stands among keys -/
def keyD : D → D → Bool
  | .int i, .int j => i == j
  | .str x, .str y => x == y
  | .tup a, .tup b => match (D.tup a).keyT, (D.tup b).keyT with
    | some x, some y => decide (x = y)
    | _, _ => false
  | _, _ => false
def lookD (k : D) : List D → List D → Option D
  | q :: ks, v :: vs => if keyD q k then some v else lookD k ks vs
  | _, _ => none
def keyOk (k : D) (ks : List D) : Bool := (k.key.isSome && (ks.mapM D.key).isSome) || (k.keyT.isSome && (ks.mapM D.keyT).isSome)
def ixD (x i : D) : Res :=
  match x, i with
  | .lst l, .int k => atD l k
  | .tup l, .int k => atD l k
  | .str s, .int k => strAt s k
  | _, _ => .bad

def inD (x : D) : List D → Bool
  | [] => false
  | y :: ys => eqD y x || inD x ys
def D.isNon : D → Bool
  | .non => true
  | _ => false
def cmpD (o : Cop) (x y : D) : Res :=
  match o, x, y with
  | .eq, x, y => if shp 60 x && shp 60 y then .ok (.bl (eqD x y)) 0 else .bad
  | .ne, x, y => if shp 60 x && shp 60 y then .ok (.bl (!eqD x y)) 0 else .bad
  | .lt, .int i, .int j => .ok (.bl (decide (i < j))) 0
  | .le, .int i, .int j => .ok (.bl (decide (i ≤ j))) 0
  | .gt, .int i, .int j => .ok (.bl (decide (j < i))) 0
  | .ge, .int i, .int j => .ok (.bl (decide (j ≤ i))) 0
  | .isN, x, .non => .ok (.bl x.isNon) 0
  | .notN, x, .non => .ok (.bl (!x.isNon)) 0
  | .isN, .bl a, .bl b => .ok (.bl (decide (a = b))) 0
  | .notN, .bl a, .bl b => .ok (.bl (!decide (a = b))) 0
  | .isin, x, .lst l => if flatD x && l.all flatD then .ok (.bl (inD x l)) 0 else .bad
  | .isin, x, .tup l => if flatD x && l.all flatD then .ok (.bl (inD x l)) 0 else .bad
  | .notin, x, .lst l => if flatD x && l.all flatD then .ok (.bl (!inD x l)) 0 else .bad
  | .notin, x, .tup l => if flatD x && l.all flatD then .ok (.bl (!inD x l)) 0 else .bad
  | _, _, _ => .bad

def truD : D → RT
  | .non => .ok false
  | .bl b => .ok b
  | .int i => .ok (i != 0)
  | .str s => if decide (s.length ≤ szLine) then .ok ((s.length : Int) != 0) else .bad
  | .lst l => .ok (!l.isEmpty)
  | .tup l => .ok (!l.isEmpty)
  | _ => .bad

def isiD (t : Ty) (d : D) : Res :=
  match t, d with
  | .int, .int _ => .ok (.bl true) 0
  | .int, .bl _ => .ok (.bl true) 0
  | .bool, .bl _ => .ok (.bl true) 0
  | .tuple, .tup _ => .ok (.bl true) 0
  | .list, .lst _ => .ok (.bl true) 0
  | .str, .str _ => .ok (.bl true) 0
  | _, .obj _ _ _ => .bad
  | .dict, .dct [] _ => .ok (.bl true) 0
  | _, .dct [] _ => .ok (.bl false) 0
  | _, .dct (_ :: _) _ => .bad
  | _, .exc _ _ => .bad
  | _, _ => .ok (.bl false) 0

def anyS (f : Nat → Option Bool) : List Nat → Option Bool
  | [] => some false
  | c :: cs => match f c with
    | some true => some true
    | some false => anyS f cs
    | none => none
def isED (sub : Nat → Nat → Option Bool) (cs : List Nat) : D → Res
  | .exc c _ => match anyS (sub c) cs with
    | some b => .ok (.bl b) 0
    | none => .bad
  | _ => .bad
def atED : D → Res
  | .exc _ [d] => .ok d 0
  | _ => .bad
def fldL (f : Nat) : List Nat → List D → Option D
  | k :: ks, v :: vs => if k = f then some v else fldL f ks vs
  | _, _ => none
def fldD (fo : Nat → Nat → Bool) (f : Nat) : D → Res
  | .obj c ks vs => if fo c f then (match fldL f ks vs with | some d => .ok d 0 | none => .bad) else .bad
  | _ => .bad

def unint : D → Option Int
  | .int i => some i
  | _ => none
def unbl : D → Option Bool
  | .bl i => some i
  | _ => none
def cutD (l : List D) (lo hi : Option Int) : List D := (l.drop (HT.sIx l.length 0 lo)).take (HT.sIx l.length l.length hi - HT.sIx l.length 0 lo)
def slD (x : D) (lo hi : Option Int) : Res :=
  match x with
  | .lst l => .ok (.lst (cutD l lo hi)) 1
  | .tup l => .ok (.tup (cutD l lo hi)) 0
  | .str s => if decide (s.length ≤ szLine) then .ok (.str (cutS s lo hi)) 0 else .bad
  | _ => .bad

def rngD (lo : Int) (n : Nat) : List D := (List.range n).map fun i => .int (lo + (i : Nat))
/-- the items of what is walked -/
def items : SK → List D → Option (List D)
  | .seq, [.lst l] => some l
  | .seq, [.tup l] => some l
  | .rng1, [.int j] => if smallI j then some (rngD 0 j.toNat) else none
  | .rng2, [.int i, .int j] => if smallI i && smallI j then some (rngD i (j - i).toNat) else none
  | .rng3, [.int i, .int j, .int (-1)] => if smallI i && smallI j then some ((List.range (i - j).toNat).map fun k => .int (i - (k : Nat))) else none
  | .enum, [.lst l] => some (l.zipIdx.map fun p => .tup [.int (p.2 : Nat), p.1])
  | .zip, [.lst a, .lst b] => some ((a.zip b).map fun p => .tup [p.1, p.2])
  | _, _ => none

abbrev Ev := List (Option D)
/-- a target takes an item -/
def bindE : List Nat → List D → Ev → Option Ev
  | [], [], δ => some δ
  | i :: is, d :: ds, δ => bindE is ds (δ.set i (some d))
  | _, _, _ => none
def takeE (tg : List Nat) (d : D) (δ : Ev) : Option Ev :=
  match tg, d with
  | [i], d => some (δ.set i (some d))
  | tg, .tup l => bindE tg l δ
  | _, _ => none
/-- the slots of a block's own names are forgotten -/
def wipeE (δ : Ev) : List Nat → Ev
  | [] => δ
  | v :: vs => (wipeE δ vs).set v none

/-- one item of a comprehension behind another -/
def compL (tg : List Nat) (elt : Ev → Res) (cond : Ev → RT) : List D → Ev → RL
  | [], _ => .ok []
  | x :: xs, δ => match takeE tg x δ with
    | none => .bad
    | some δ1 => match cond δ1 with
      | .ok true => match elt δ1 with
        | .ok d n => match compL tg elt cond xs δ with
          | .ok l => .ok ((d, n) :: l)
          | .exn e => .exn e
          | .bad => .bad
        | .exn _ => .bad
        | .bad => .bad
      | .ok false => compL tg elt cond xs δ
      | .exn _ => .bad
      | .bad => .bad

/-- how deep a new node owns: one more than its children, those without deeper nodes left out -/
def dep : List (D × Nat) → Nat
  | [] => 9
  | (d, n) :: r => if immB n d then dep r else min n (dep r)
def newL (l : List (D × Nat)) : Res := if decide (l.length ≤ szLine) then .ok (.lst (l.map (·.1))) (dep l + 1) else .bad
def newT (l : List (D × Nat)) : Res := if decide (l.length ≤ szLine) then .ok (.tup (l.map (·.1))) (dep l) else .bad

def unI : List D → Option (List Int)
  | [] => some []
  | d :: ds => match d with
    | .int i => (unI ds).map (i :: ·)
    | _ => none
def unB : List D → Option (List Bool)
  | [] => some []
  | d :: ds => match d with
    | .bl i => (unB ds).map (i :: ·)
    | _ => none
def biD (b : Bi) (l : List D) : Res :=
  match b, l with
  | .len, [.lst l] => .ok (.int (l.length : Nat)) 0
  | .len, [.tup l] => .ok (.int (l.length : Nat)) 0
  | .len, [.str s] => if decide (s.length ≤ szLine) then .ok (.int (s.length : Nat)) 0 else .bad
  | .abs, [.int i] => .ok (.int (if i < 0 then -i else i)) 0
  | .sum, [.lst l] => match unI l with | some ns => .ok (.int ns.sum) 0 | none => .bad
  | .max2, [.int i, .int j] => .ok (.int (if j > i then j else i)) 0
  | .min2, [.int i, .int j] => .ok (.int (if j < i then j else i)) 0
  | .list, [.lst l] => .ok (.lst l) 1
  | .list, [.tup l] => .ok (.lst l) 1
  | .tuple, [.lst l] => .ok (.tup l) 0
  | .tuple, [.tup l] => .ok (.tup l) 0
  | .all, [.lst l] => match unB l with | some ns => .ok (.bl (ns.all id)) 0 | none => .bad
  | .any, [.lst l] => match unB l with | some ns => .ok (.bl (ns.any id)) 0 | none => .bad
  | .str, [.int i] => if decide (i.natAbs.log2 < 1920) then .ok (.str (toString i)) 0 else .bad
  | .int, [.int i] => .ok (.int i) 0
  | .int, [.bl k] => .ok (.int (if k then 1 else 0)) 0
  | .max1, [.lst l] => match unI l with | some (n :: ns) => .ok (.int (ns.foldl max n)) 0 | _ => .bad
  | .min1, [.lst l] => match unI l with | some (n :: ns) => .ok (.int (ns.foldl min n)) 0 | _ => .bad
  | .repr, [.int i] => if decide (i.natAbs.log2 < 1920) then .ok (.str (toString i)) 0 else .bad
  | .repr, [.non] => .ok (.str "None") 0
  | .sum, [.tup l] => match unI l with | some ns => .ok (.int ns.sum) 0 | none => .bad
  | _, _ => .bad
/-- methods of lists -/
def bmD (m : Bm) (d : List D) (l : List D) : Res :=
  match m, l with
  | .count, [y] => if d.all flatD && flatD y then .ok (.int (d.countP fun e => eqD e y : Nat)) 0 else .bad
  | .index, [y] => if d.all flatD && flatD y then (match d.findIdx? fun e => eqD e y with | some j => .ok (.int (j : Nat)) 0 | none => .bad) else .bad
  | _, _ => .bad
def lrngD (x y : D) : Res := match x, y with
  | .int i, .int j => if smallI i && smallI j && decide ((j - i).toNat ≤ szLine) then .ok (.lst (rngD i (j - i).toNat)) 10 else .bad
  | _, _ => .bad

/-- a slice's part -/
def optI (r : Option Res) (f : Option Int → Res) : Res := match r with
  | none => f none
  | some r => r.bind fun x => match x with | .int i => f (some i) | _ => .bad
def Ex.isOmit : Ex → Bool
  | .omit => true
  | _ => false
mutual
def evE (Γ : Fe) : Ex → Ev → Res
  | .var i, δ => match δ[i]? with | some (some d) => .ok d 0 | _ => .bad
  | .con d, _ => .ok d 0
  | .glo k, _ => .ok (Γ.gl k) 0
  | .bin o a b, δ => (evE Γ a δ).bind fun x => (evE Γ b δ).bind fun y => binD o x y
  | .neg a, δ => (evE Γ a δ).bind fun x => match x with | .int i => .ok (.int (-i)) 0 | _ => .bad
  | .cmp o a b, δ => (evE Γ a δ).bind fun x => (evE Γ b δ).bind fun y => cmpD o x y
  | .cmp2 o p a b c, δ => (evE Γ a δ).bind fun x => (evE Γ b δ).bind fun y => (cmpD o x y).bind fun k => match k with
    | .bl true => (evE Γ c δ).bind fun z => cmpD p y z
    | .bl false => .ok (.bl false) 0
    | _ => .bad
  | .cmp3 o p q a b c e, δ => (evE Γ a δ).bind fun x => (evE Γ b δ).bind fun y => (cmpD o x y).bind fun k => match k with
    | .bl true => (evE Γ c δ).bind fun z => (cmpD p y z).bind fun k2 => match k2 with
      | .bl true => (evE Γ e δ).bind fun u => cmpD q z u
      | .bl false => .ok (.bl false) 0
      | _ => .bad
    | .bl false => .ok (.bl false) 0
    | _ => .bad
  | .lrng1 a, δ => (evE Γ a δ).bind fun x => lrngD (.int 0) x
  | .lrng a b, δ => (evE Γ a δ).bind fun x => (evE Γ b δ).bind fun y => lrngD x y
  | .and a b, δ => (evE Γ a δ).bind fun x => match x with | .bl true => evE Γ b δ | .bl false => .ok (.bl false) 0 | _ => .bad
  | .or a b, δ => (evE Γ a δ).bind fun x => match x with | .bl true => .ok (.bl true) 0 | .bl false => evE Γ b δ | _ => .bad
  | .not a, δ => (evE Γ a δ).bind fun x => match x with | .bl c => .ok (.bl (!c)) 0 | _ => .bad
  | .ife c a b, δ => ((evE Γ c δ).bindT truD).bind fun k => if k then evE Γ a δ else evE Γ b δ
  | .ix a i, δ => (evE Γ a δ).bind fun x => (evE Γ i δ).bind fun y => ixD x y
  | .omit, _ => .bad
  | .dead, _ => .bad
  | .sl a lo hi, δ => (evE Γ a δ).bind fun x => optI (if lo.isOmit then none else some (evE Γ lo δ)) fun l => optI (if hi.isOmit then none else some (evE Γ hi δ)) fun h => slD x l h
  | .fld a f, δ => (evE Γ a δ).bind fun x => fldD Γ.fo f x
  | .isi a t, δ => (evE Γ a δ).bind fun x => isiD t x
  | .isE a cs, δ => (evE Γ a δ).bind fun x => isED Γ.sub cs x
  | .atE a, δ => (evE Γ a δ).bind fun x => atED x
  | .call f es, δ => (evL Γ es δ).bind fun l => Γ.fn f l
  | .meth m a es, δ => (evE Γ a δ).bind fun x => match x with
    | .obj c ks vs => if Γ.mh m c then (evL Γ es δ).bind fun l => Γ.me m c (.obj c ks vs :: l) else .bad
    | _ => .bad
  | .mk c es, δ => (evL Γ es δ).bind fun l => Γ.ma c l
  | .bi b es, δ => (evL Γ es δ).bind fun l => biD b l
  | .bm m a es, δ => (evE Γ a δ).bind fun x => match x with
    | .lst d => (evL Γ es δ).bind fun l => bmD m d l
    | _ => .bad
  | .tup es, δ => (evL Γ es δ).bindN newT
  | .lst es, δ => (evL Γ es δ).bindN newL
  | .dct0, _ => .ok (.dct [] []) 9
  | .comp k args tg elt, δ => (evL Γ args δ).bind fun l => match items k l with
    | none => .bad
    | some xs => (compL tg (evE Γ elt) (fun _ => .ok true) xs (wipeE δ tg)).bindN newL
  | .compIf k args tg elt cond, δ => (evL Γ args δ).bind fun l => match items k l with
    | none => .bad
    | some xs => (compL tg (evE Γ elt) (fun δ => (evE Γ cond δ).bindT truD) xs (wipeE δ tg)).bindN newL
def evL (Γ : Fe) : List Ex → Ev → RL
  | [], _ => .ok []
  | e :: es, δ => match evE Γ e δ with
    | .ok d n => match evL Γ es δ with
      | .ok l => .ok ((d, n) :: l)
      | .exn x => .exn x
      | .bad => .bad
    | .exn x => .exn x
    | .bad => .bad
end
def evT (Γ : Fe) (e : Ex) (δ : Ev) : RT := (evE Γ e δ).bindT truD

example (Γ : Fe) (a b : Int) : evE Γ (.bin .add (.var 0) (.var 1)) [some (.int a), some (.int b)] = .ok (.int (a + b)) 0 := by
  simp [evE, binD]
example (Γ : Fe) (a b : Int) : evE Γ (.bin .add (.var 0) (.var 1)) [some (.int a), some (.int b)] = .ok (.int (a + b)) 0 := rfl
end PL
/-! PL3: what an expression's run tells of the abstract heap; operators. -/
namespace PL
open PySem L2 PyProof.Rows

theorem szLine_eq : szLine = sizeLine := rfl

/-- a run's value: the heap has grown, the region too (by new nodes alone), the value stands, its own nodes are new -/
structure OkV (g : G) (H H' : Hp) (S S' : Rg) (n : Nat) (d : D) (v : V) (T : Fp) : Prop where
  ext : Ext H H'
  sub : ∀ a, S a → S' a
  new : ∀ a, S' a → S a ∨ H a = none
  sz : ∀ a, S' a → (H' a).isSome = true
  own : Own g H' S' n d v T
  nd : T.Nodup
  fr : ∀ a ∈ T, H a = none ∧ ¬ S' a

/-- the exceptions' classes -/
structure XG where
  XV : Nat → Value
def ExnR (xg : XG) (e : Exn) (cls : Value) (dd : Option Addr) (H : Hp) : Prop :=
  cls = xg.XV e.c ∧ match e.a with
    | none => dd = none
    | some d => ∃ a v, dd = some a ∧ H a = some (.xd [("at", v)]) ∧ ∀ g S, Own g H S 0 d v []

/-- .. its fields' place is new, seen from H -/
def ExnN (xg : XG) (e : Exn) (cls : Value) (dd : Option Addr) (H H' : Hp) : Prop := ExnR xg e cls dd H' ∧ ∀ q, dd = some q → H q = none
theorem ExnN.back {xg : XG} {e : Exn} {cls : Value} {dd : Option Addr} {H H1 H' : Hp} (k : ∀ q, H1 q = none → H q = none) (x : ExnN xg e cls dd H1 H') : ExnN xg e cls dd H H' := ⟨x.1, fun q z => k q (x.2 q z)⟩
section
variable {g : G} {xg : XG}
/-- what is wanted of a run's end -/
def RF (g : G) (xg : XG) (H : Hp) (S : Rg) (r : Res) (W : Value → Option Addr → Hp → Prop) (Q : VK) : Prop :=
  match r with
  | .ok d n => ∀ v H' S' T, OkV g H H' S S' n d v T → Q v H'
  | .exn e => ∀ cls dd H', Ext H H' → ExnN xg e cls dd H H' → W cls dd H'
  | .bad => False

variable {H H1 H' : Hp} {S S1 S' : Rg} {d : D} {n : Nat} {v : V} {T A : Fp} {W : Value → Option Addr → Hp → Prop} {Q Q' : VK} {r : Res}

/-- from one point of a run to a later one -/
structure Fw (H H' : Hp) (S S' : Rg) : Prop where
  ext : Ext H H'
  sub : ∀ a, S a → S' a
  new : ∀ a, S' a → S a ∨ H a = none
  sz : ∀ a, S' a → (H' a).isSome = true
theorem Fw.refl (h : ∀ a, S a → (H a).isSome = true) : Fw H H S S := ⟨Ext.refl H, fun _ q => q, fun _ q => .inl q, h⟩
theorem Fw.trans {H2 : Hp} {S2 : Rg} (a : Fw H H1 S S1) (b : Fw H1 H2 S1 S2) : Fw H H2 S S2 :=
  ⟨a.ext.trans b.ext, fun x q => b.sub x (a.sub x q), fun x q => by
    rcases b.new x q with q | q
    · exact a.new x q
    · exact .inr (a.ext.back q), b.sz⟩
theorem OkV.fw (o : OkV g H H' S S' n d v T) : Fw H H' S S' := ⟨o.ext, o.sub, o.new, o.sz⟩
theorem OkV.after {H2 : Hp} {S2 : Rg} (f : Fw H H1 S S1) (o : OkV g H1 H2 S1 S2 n d v T) : OkV g H H2 S S2 n d v T :=
  let k := f.trans o.fw
  ⟨k.ext, k.sub, k.new, k.sz, o.own, o.nd, fun a ha => ⟨f.ext.back (o.fr a ha).1, (o.fr a ha).2⟩⟩
theorem Own.fw (f : Fw H H' S S') (sz : ∀ a, S a → (H a).isSome = true) (o : Own g H S n d v A) : Own g H' S' n d v A := by
  refine o.keep ⟨fun a ha => ?_, fun a q => ⟨f.sub a q, ?_⟩, fun a xs q => f.ext.rd q⟩
  · have := o.there a ha
    cases e : H a with
    | none => rw [e] at this; cases this
    | some u => exact f.ext a u e
  · have := sz a q
    cases e : H a with
    | none => rw [e] at this; cases this
    | some u => exact f.ext a u e
/-- the value's own nodes are given to the region -/
theorem OkV.frz (o : OkV g H H' S S' n d v T) (sz : ∀ a, S a → (H a).isSome = true) : ∃ S2, Fw H H' S S2 ∧ Own g H' S2 0 d v [] := by
  obtain ⟨B, C, h1, h2⟩ := Own.weak (m := 0) (Nat.zero_le _) o.own
  replace h1 := h1 (fun a => S' a ∨ a ∈ T) (fun a q => .inl q) (fun a q => .inr ((h2.1 a).mpr (.inr q)))
  have e := h1.zero
  subst e
  refine ⟨_, ⟨o.ext, fun a q => .inl (o.sub a q), fun a q => ?_, fun a q => ?_⟩, h1⟩
  · rcases q with q | q
    · exact o.new a q
    · exact .inr (o.fr a q).1
  · rcases q with q | q
    · exact o.sz a q
    · exact o.own.there a q
theorem OkV.of (h : Own g H S 0 d v []) (sz : ∀ a, S a → (H a).isSome = true) : OkV g H H S S 0 d v [] :=
  ⟨Ext.refl H, fun _ q => q, fun _ q => .inl q, sz, h, List.nodup_nil, fun _ q => nomatch q⟩
theorem OkV.laid {p : Addr} {o : HO} (sz : ∀ a, S a → (H a).isSome = true) (hp : H p = none) (h : Own g (upd H p o) S n d v T) (hT : T = [p] ∨ T = []) : OkV g H (upd H p o) S S n d v T := by
  refine ⟨Ext.new hp, fun _ q => q, fun _ q => .inl q, fun a q => ?_, h, ?_, fun a ha => ?_⟩
  · by_cases e : a = p
    · rw [e, upd_same]; rfl
    · rw [upd_ne e]; exact sz a q
  · rcases hT with rfl | rfl
    · simp
    · exact List.nodup_nil
  · rcases hT with rfl | rfl
    · have e : a = p := by simpa using ha
      subst e
      refine ⟨hp, fun q => ?_⟩
      have := sz a q
      rw [hp] at this; cases this
    · cases ha

theorem RF.fw (f : Fw H H1 S S1) (h : RF g xg H S r W Q) : RF g xg H1 S1 r W Q := by
  cases r with
  | ok d n => exact fun v H' S' T o => h v H' S' T (o.after f)
  | exn e => exact fun cls dd H' q k => h cls dd H' (f.ext.trans q) (k.back fun _ z => f.ext.back z)
  | bad => exact h
theorem RF.bind {f : D → Res} (sz : ∀ a, S a → (H a).isSome = true) (h : RF g xg H S (r.bind f) W Q)
    (k : ∀ d n v H1 S1, r = .ok d n → Fw H H1 S S1 → Own g H1 S1 0 d v [] → RF g xg H1 S1 (f d) W Q → Q' v H1) : RF g xg H S r W Q' := by
  cases r with
  | ok d n =>
    intro v H' S' T o
    obtain ⟨S2, f2, o2⟩ := o.frz sz
    exact k d n v H' S2 rfl f2 o2 (RF.fw f2 h)
  | exn e => exact h
  | bad => exact h
theorem RF.bindT {f : D → RT} {F : Bool → Res} (sz : ∀ a, S a → (H a).isSome = true) (h : RF g xg H S ((r.bindT f).bind F) W Q)
    (k : ∀ d n v H1 S1, r = .ok d n → Fw H H1 S S1 → Own g H1 S1 0 d v [] → RF g xg H1 S1 ((f d).bind F) W Q → Q' v H1) : RF g xg H S r W Q' := by
  cases r with
  | ok d n =>
    intro v H' S' T o
    obtain ⟨S2, f2, o2⟩ := o.frz sz
    exact k d n v H' S2 rfl f2 o2 (RF.fw f2 h)
  | exn e => exact h
  | bad => exact h
/-- the value as it is -/
theorem RF.val (sz : ∀ a, S a → (H a).isSome = true) (h : RF g xg H S (.ok d 0) W Q) (o : Own g H S 0 d v []) : Q v H := h v H S [] (OkV.of o sz)
theorem RF.new {p : Addr} {o : HO} (sz : ∀ a, S a → (H a).isSome = true) (h : RF g xg H S (.ok d n) W Q) (hp : H p = none) (hT : T = [p] ∨ T = []) (k : Own g (upd H p o) S n d v T) : Q v (upd H p o) :=
  h v _ S T (OkV.laid sz hp k hT)
theorem RF.imp (h : RF g xg H S r W Q) (k : ∀ v H', Q v H' → Q' v H') : RF g xg H S r W Q' := by
  cases r with
  | ok d n => exact fun v H' S' T o => k v H' (h v H' S' T o)
  | exn e => exact h
  | bad => exact h

/-! ### what a tree is at a value -/
theorem own_int {i : Int} : Own g H S n (.int i) (.int i) [] := by unfold Own; exact ⟨rfl, rfl⟩
theorem own_bl {i : Bool} : Own g H S n (.bl i) (.bl i) [] := by unfold Own; exact ⟨rfl, rfl⟩
theorem own_str {i : Str} : Own g H S n (.str i) (.str i) [] := by unfold Own; exact ⟨rfl, rfl⟩
theorem own_non : Own g H S n .non .non [] := by unfold Own; exact ⟨rfl, rfl⟩
theorem own_int_v {i : Int} (h : Own g H S n (.int i) v A) : v = .int i := by unfold Own at h; exact h.1
theorem own_bl_v {i : Bool} (h : Own g H S n (.bl i) v A) : v = .bl i := by unfold Own at h; exact h.1
theorem own_str_v {i : Str} (h : Own g H S n (.str i) v A) : v = .str i := by unfold Own at h; exact h.1
theorem own_non_v (h : Own g H S n .non v A) : v = .non := by unfold Own at h; exact h.1
theorem own_tup_v {l : List D} (h : Own g H S n (.tup l) v A) : ∃ a xs, v = .ref a ∧ SqT g.K H a xs ∧ OwnL g H S n l xs A := by
  unfold Own at h
  obtain ⟨a, xs, e, t, _, hl⟩ := h
  exact ⟨a, xs, e, t, hl⟩
theorem own_lst_v {l : List D} (h : Own g H S 0 (.lst l) v A) : ∃ a xs, v = .ref a ∧ S a ∧ Rd H a (.lst xs) ∧ OwnL g H S 0 l xs A := by
  unfold Own at h; exact h
theorem own_tup {l : List D} {a : Addr} {xs : List V} (t : SqT g.K H a xs) (h : OwnL g H S n l xs A) (tr : A = [] ∨ Rd H a (.tup xs) := by first | exact .inl rfl | exact .inr (.inl upd_same)) : Own g H S n (.tup l) (.ref a) A := by
  unfold Own; exact ⟨a, xs, rfl, t, tr, h⟩
theorem own_lst0 {l : List D} {a : Addr} {xs : List V} (s : S a) (t : Rd H a (.lst xs)) (h : OwnL g H S 0 l xs A) : Own g H S 0 (.lst l) (.ref a) A := by
  unfold Own; exact ⟨a, xs, rfl, s, t, h⟩
theorem own_lst {l : List D} {a : Addr} {xs : List V} (t : H a = some (.lst xs)) (h : OwnL g H S n l xs A) : Own g H S (n + 1) (.lst l) (.ref a) (a :: A) := by
  unfold Own; exact ⟨a, xs, A, rfl, t, rfl, h⟩
theorem rdL {K : PySem.W.Frag} {a : Addr} {xs : List V} (h : Rd H a (.lst xs)) : SqL K H a xs := .inl h

/-- children that stay while a new object is laid -/
theorem OwnL.laid {p : Addr} {o : HO} {l : List D} {xs : List V} (sz : ∀ a, S a → (H a).isSome = true) (hp : H p = none) (h : OwnL g H S n l xs A) : OwnL g (upd H p o) S n l xs A := by
  refine h.keep ⟨fun a ha => ?_, fun a q => ⟨q, ?_⟩, fun a xs q => (Ext.new hp).rd q⟩
  · have := h.there a ha
    exact upd_ne fun e => by rw [e, hp] at this; cases this
  · have := sz a q
    exact upd_ne fun e => by rw [e, hp] at this; cases this
theorem OwnL.rep {l : List D} {xs : List V} (h : OwnL g H S 0 l xs []) : ∀ k : Nat, OwnL g H S 0 (List.replicate k l).flatten (List.replicate k xs).flatten []
  | 0 => by simp; exact OwnL.nil
  | k + 1 => by
    rw [List.replicate_succ, List.replicate_succ, List.flatten_cons, List.flatten_cons]
    exact OwnL.append (A := []) (B := []) h (OwnL.rep h k)

/-! ### operators -/
section ops
variable {X : Cx}
/-- a list and a list, read -/
def rCatR : R2 := fun x y H Q => ∃ l b xs zs, x = .ref l ∧ y = .ref b ∧ Rd H l (.lst xs) ∧ Rd H b (.lst zs) ∧ xs.length + zs.length ≤ sizeLine ∧ ∀ p, H p = none → Q (.ref p) (upd H p (.lst (xs ++ zs)))
theorem op_catR : OpR X (binaryOp .Add) rCatR := by
  intro pins s σ H x y v u Q I rx ry h
  obtain ⟨l, b, xs, zs, rfl, rfl, hH, hB, hz, q⟩ := h
  cases rx
  cases ry
  obtain ⟨z, its, n, r, e⟩ := hH.ok I.hok
  obtain ⟨z2, its2, n2, r2, e2⟩ := hB.ok I.hok
  have hl := r.length
  have hl2 := r2.length
  refine PySem.P.add_list e e2 ?_ (by rw [List.size_toArray, List.size_toArray]; omega)
  have ea : its.toArray ++ its2.toArray = (its ++ its2).toArray := by simp
  rw [ea]
  exact ⟨.ref _, _, I.lnew (t' := s.toks) (r.append r2) (by rw [List.length_append]; omega), rfl, q _ I.fresh⟩
/-- a list times an int, read -/
def rRepR : R2 := fun x y H Q => ∃ l k xs, x = .ref l ∧ y = .int k ∧ Rd H l (.lst xs) ∧ -(2 ^ 63) ≤ k ∧ k < 2 ^ 63 ∧ xs.length * k.toNat ≤ sizeLine ∧
  ∀ p, H p = none → Q (.ref p) (upd H p (.lst (List.replicate k.toNat xs).flatten))
theorem op_repR : OpR X (binaryOp .Mult) rRepR := by
  intro pins s σ H x y v u Q I rx ry h
  obtain ⟨l, k, xs, rfl, rfl, hH, h1, h2, hz, q⟩ := h
  cases rx
  obtain ⟨t, rfl⟩ := ry
  obtain ⟨z, its, n, r, e⟩ := hH.ok I.hok
  have hl := r.length
  have hlen : its.toArray.size * k.toNat ≤ sizeLine := by rw [List.size_toArray, ← hl]; exact hz
  have hcap : ¬ its.toArray.size * k.toNat > (2 ^ 63 - 1) / 8 := by
    have : (sizeLine : Nat) ≤ (2 ^ 63 - 1) / 8 := by decide
    omega
  have hfit : ¬ (!Builtin.List.listFitsIndex k) = true := by
    rw [fitsIndex_both h1 h2]
    exact Bool.false_ne_true
  have hlong : ¬ Builtin.List.listTooLong (its.toArray.size * k.toNat) = true := by
    rw [notLongL hlen]
    exact Bool.false_ne_true
  have hnew : List.foldl (fun x1 x2 => x1 ++ x2) #[] (List.replicate (if its.toArray.isEmpty = true then 0 else k.toNat) its.toArray) = (List.replicate k.toNat its).flatten.toArray := by
    have f0 : ∀ m : Nat, List.foldl (fun x1 x2 => x1 ++ x2) #[] (List.replicate m its.toArray) = (List.replicate m its).flatten.toArray := fun m => by
      have := foldl_rep its m []
      rw [List.nil_append] at this
      exact this
    rw [f0]
    cases its with
    | nil => simp
    | cons a r' => rw [if_neg (by simp)]
  refine wpAny_binaryOp_repeat_ref (T := "list") (U := "int") (by decide) ⟨_, e, rfl⟩ (fun s' => typeIs_int s' k t) noFill_list_mul F.fills_int_mul F.slot_int_rmul repeat_list F.slot_int_index.lookup
    (call_meets F.slot_int_rmul (typeIs_int s k t) F.entry_int_rmul (F.args_int_rmul_2 _ _) (int___rmul___int_list k t l its.toArray n)
      ⟨e, rfl, ⟨_, e, rfl⟩, call_meets F.slot_list_mul ⟨_, e, rfl⟩ F.entry_list_mul (F.args_list_mul_2 _ _) (AutoListH.list___mul___list_int_3 l its.toArray n k t hfit hcap hlong) ⟨e, ?_⟩⟩)
  rw [hnew]
  exact ⟨.ref _, _, I.lnew (t' := s.toks) (r.rep k.toNat) (by rw [PyProof.Rows.lm_len_rep_flat, Nat.mul_comm]; exact hz), rfl, q _ I.fresh⟩
theorem bits_le {i : Int} : Builtin.Int.intBits i ≤ i.natAbs.log2 + 1 := by
  unfold Builtin.Int.intBits
  split
  · exact Nat.zero_le _
  · exact Nat.le_refl _
theorem op_mulX : OpR X (binaryOp .Mult) (rI (fun i j => i.natAbs.log2 + j.natAbs.log2 < 2 ^ 26) fun i j => .int (i * j)) :=
  opI fun i j t u s Q E h q => mul_int q (by
    have h1 := bits_le (i := i)
    have h2 := bits_le (i := j)
    have h3 : Builtin.Int.intTooBig ((Builtin.Int.intBits i : Int) + (Builtin.Int.intBits j : Int)) = false := decide_eq_false (by
      show ¬ ((Builtin.Int.intBits i : Int) + (Builtin.Int.intBits j : Int) > ((2 ^ 27 : Nat) : Int))
      omega)
    unfold IntMulOk
    intro z
    simp only [Bool.and_eq_true] at z
    rw [h3] at z
    exact Bool.false_ne_true z.2)
/-- a tuple and a tuple, a tuple times an int are in PL5 -/
def Bop.op : Bop → Operator
  | .add => .Add | .sub => .Sub | .mul => .Mult | .fdiv => .FloorDiv | .mod => .Mod | .pow => .Pow
/-- an operation on two frozen values -/
def rB (g : G) (xg : XG) (W : Value → Option Addr → Hp → Prop) (f : D → D → Res) : R2 := fun x y H Q =>
  ∃ S d e, (∀ a, S a → (H a).isSome = true) ∧ Own g H S 0 d x [] ∧ Own g H S 0 e y [] ∧ RF g xg H S (f d e) W Q
theorem sizeLine_le : szLine ≤ sizeLine := Nat.le_refl _
theorem op_divX : OpR X (binaryOp .FloorDiv) (rI (fun _ j => j ≠ 0 ∧ j.natAbs.log2 < 9000) fun i j => .int (i.fdiv j)) :=
  opI fun i j t u s Q E h q => floordiv_int h.1 q (.inl (PyProof.noPylong_of_log2 h.2))
theorem op_powX : OpR X (binaryOp .Pow) (rI (fun i j => 0 ≤ j ∧ ((i.natAbs.log2 + 1 : Nat) : Int) * j ≤ 2 ^ 26) fun i j => .int (i ^ j.toNat)) :=
  opI fun i j t u s Q E h q => pow_int h.1 (by
    have h1 := bits_le (i := i)
    have h2 : (Builtin.Int.intBits i : Int) * j ≤ ((i.natAbs.log2 + 1 : Nat) : Int) * j := Int.mul_le_mul_of_nonneg_right (by omega) h.1
    have h3 := h.2
    have : (2 : Int) ^ 26 ≤ 2 ^ 27 := by decide
    omega) q
/-- a rule for a shape of both -/
theorem OpR.imp {f : Value → Value → Sem Value} {r r' : R2} (h : OpR X f r) (k : ∀ x y H Q, r' x y H Q → r x y H Q) : OpR X f r' :=
  fun pins s σ H x y v u Q I rx ry q => h pins s σ H x y v u Q I rx ry (k x y H Q q)
theorem OpR.pick {f : Value → Value → Sem Value} {r' : R2} (k : ∀ x y H Q, r' x y H Q → ∃ r, OpR X f r ∧ r x y H Q) : OpR X f r' :=
  fun pins s σ H x y v u Q I rx ry q => let ⟨_, h, z⟩ := k x y H Q q; h pins s σ H x y v u Q I rx ry z
theorem OwnL.len2 {l : List D} {xs : List V} (h : OwnL g H S n l xs A) : l.length = xs.length := (OwnL.length h).symm
theorem op_bin (hK : g.K = X.K) (o : Bop) : OpR X (binaryOp o.op) (rB g xg W (binD o)) := by
  refine OpR.pick fun x y H Q h => ?_
  obtain ⟨S, d, e, sz, o1, o2, h⟩ := h
  unfold binD at h
  split at h
  · rw [own_int_v o1, own_int_v o2]
    exact ⟨_, op_add, _, _, rfl, rfl, h.val sz own_int⟩
  · rw [own_int_v o1, own_int_v o2]
    exact ⟨_, op_sub, _, _, rfl, rfl, h.val sz own_int⟩
  · rw [own_int_v o1, own_int_v o2]
    split at h
    · rename_i z
      exact ⟨_, op_mulX, _, _, rfl, rfl, of_decide_eq_true z, h.val sz own_int⟩
    · exact h.elim
  · rw [own_int_v o1, own_int_v o2]
    split at h
    · rename_i z
      have z' := Bool.and_eq_true_iff.mp z
      exact ⟨_, op_divX, _, _, rfl, rfl, ⟨of_decide_eq_true z'.1, of_decide_eq_true z'.2⟩, h.val sz own_int⟩
    · exact h.elim
  · rw [own_int_v o1, own_int_v o2]
    split at h
    · rename_i z
      exact ⟨_, op_modN, _, _, rfl, rfl, of_decide_eq_true z, h.val sz own_int⟩
    · exact h.elim
  · rw [own_int_v o1, own_int_v o2]
    split at h
    · rename_i z
      have z' := Bool.and_eq_true_iff.mp z
      exact ⟨_, op_powX, _, _, rfl, rfl, ⟨of_decide_eq_true z'.1, of_decide_eq_true z'.2⟩, h.val sz own_int⟩
    · exact h.elim
  · rw [own_str_v o1, own_str_v o2]
    split at h
    · rename_i z
      exact ⟨_, op_add_str, _, _, rfl, rfl, of_decide_eq_true z, h.val sz own_str⟩
    · exact h.elim
  · obtain ⟨a, xs, rfl, s1, t1, l1⟩ := own_lst_v o1
    obtain ⟨b, ys, rfl, s2, t2, l2⟩ := own_lst_v o2
    split at h
    · rename_i z
      refine ⟨_, op_catR, a, b, xs, ys, rfl, rfl, t1, t2, ?_, fun p hp => h.new (T := [p]) sz hp (.inl rfl) ?_⟩
      · rw [l1.length, l2.length]; exact of_decide_eq_true z
      · exact own_lst upd_same (OwnL.append (A := []) (B := []) (l1.laid sz hp) (l2.laid sz hp))
    · exact h.elim
  · obtain ⟨a, xs, rfl, t1, l1⟩ := own_tup_v o1
    obtain ⟨b, ys, rfl, t2, l2⟩ := own_tup_v o2
    have e1 := l1.len2
    have e2 := l2.len2
    split at h
    · rename_i z
      have z' := of_decide_eq_true z
      rw [hK] at t1 t2
      refine ⟨_, op_catA, a, b, xs, ys, rfl, rfl, t1, t2, by rw [← e1, ← e2]; exact z', fun q => ?_, fun _ q => ?_, fun _ _ p hp => ?_⟩
      · subst q
        have : _ = [] := List.length_eq_zero_iff.mp e1
        subst this
        exact h.val sz (own_tup (by rw [hK]; exact t2) l2)
      · subst q
        have : _ = [] := List.length_eq_zero_iff.mp e2
        subst this
        rw [List.append_nil] at h
        exact h.val sz (own_tup (by rw [hK]; exact t1) l1)
      · exact h.new (T := []) sz hp (.inr rfl) (own_tup (.inl (.inl upd_same)) (OwnL.append (A := []) (B := []) (l1.laid sz hp) (l2.laid sz hp)))
    · exact h.elim
  · rw [own_int_v o2]
    obtain ⟨a, xs, rfl, s1, t1, l1⟩ := own_lst_v o1
    have e1 := l1.len2
    split at h
    · rename_i z
      simp only [Bool.and_eq_true, decide_eq_true_eq] at z
      obtain ⟨z0, z3⟩ := z
      have z1 := small_bd z0
      refine ⟨_, op_repR, a, _, xs, rfl, rfl, t1, by omega, by omega, by rw [← e1]; exact z3, fun p hp => h.new (T := [p]) sz hp (.inl rfl) ?_⟩
      exact own_lst upd_same (OwnL.rep (l1.laid sz hp) _)
    · exact h.elim
  · rw [own_int_v o2]
    obtain ⟨a, xs, rfl, t1, l1⟩ := own_tup_v o1
    have e1 := l1.len2
    split at h
    · rename_i z
      simp only [Bool.and_eq_true, decide_eq_true_eq] at z
      obtain ⟨⟨⟨z1, z2⟩, z3⟩, z4⟩ := z
      rw [hK] at t1
      refine ⟨_, op_repT, a, _, xs, rfl, rfl, t1, fun q => ?_, z2, z3, by rw [← e1]; exact z4, fun p hp => h.new (T := []) sz hp (.inr rfl) ?_⟩
      · subst q
        have : _ = [] := List.length_eq_zero_iff.mp e1
        subst this
        cases z1
      · exact own_tup (.inl (.inl upd_same)) (OwnL.rep (l1.laid sz hp) _)
    · exact h.elim
  · exact h.elim
end ops
end
end PL
/-! PL4: comparisons, truth, subscripts, slices, isinstance, built-ins on trees. -/
namespace PL
open PySem L2 PyProof.Rows

/-! ### data -/
mutual
def toP : D → PyData
  | .non => .none
  | .bl b => .bool b
  | .int i => .int i
  | .str s => .str s
  | .tup l => .tuple (toPL l)
  | .lst l => .list (toPL l)
  | _ => .none
def toPL : List D → List PyData
  | [] => []
  | d :: ds => toP d :: toPL ds
end
mutual
theorem shp_ok : ∀ {n : Nat} {d : D}, shp n d = true → (toP d).canLay0 = true ∧ (toP d).depth ≤ n + 1
  | _, .non, _ => by simp [toP, PyData.canLay0, PyData.depth]
  | _, .bl _, _ => by simp [toP, PyData.canLay0, PyData.depth]
  | _, .int _, _ => by simp [toP, PyData.canLay0, PyData.depth]
  | _, .str _, h => by
    unfold shp at h
    exact ⟨by simpa [toP] using h, by simp [toP, PyData.depth]⟩
  | 0, .tup l, h => by simp [shp] at h
  | 0, .lst l, h => by simp [shp] at h
  | n + 1, .tup l, h => by
    simp only [shp] at h
    obtain ⟨h1, h2⟩ := shpL_ok h
    exact ⟨by simpa [toP, PyData.canLay0] using h1, by simp only [toP, PyData.depth]; omega⟩
  | n + 1, .lst l, h => by
    simp only [shp] at h
    obtain ⟨h1, h2⟩ := shpL_ok h
    exact ⟨by simpa [toP, PyData.canLay0] using h1, by simp only [toP, PyData.depth]; omega⟩
  | 0, .dct _ _, h => by simp [shp] at h
  | n + 1, .dct _ _, h => by simp [shp] at h
  | 0, .obj _ _ _, h => by simp [shp] at h
  | n + 1, .obj _ _ _, h => by simp [shp] at h
  | 0, .exc _ _, h => by simp [shp] at h
  | n + 1, .exc _ _, h => by simp [shp] at h
theorem shpL_ok : ∀ {n : Nat} {ds : List D}, shpL n ds = true → PyData.canLayAll0 (toPL ds) = true ∧ PyData.depthAll (toPL ds) ≤ n + 1
  | _, [], _ => by simp [toPL, PyData.canLayAll0, PyData.depthAll]
  | n, d :: ds, h => by
    simp only [shpL, Bool.and_eq_true] at h
    obtain ⟨a1, a2⟩ := shp_ok h.1
    obtain ⟨b1, b2⟩ := shpL_ok h.2
    refine ⟨by simp [toPL, PyData.canLayAll0, a1, b1], ?_⟩
    simp only [toPL, PyData.depthAll]
    omega
end
theorem shaped_of {d : D} (h : shp 60 d = true) : SeqAt.shaped (toP d) = true := by
  obtain ⟨h1, h2⟩ := shp_ok h
  unfold SeqAt.shaped
  rw [h1, decide_eq_true (by omega)]
  rfl
mutual
theorem eqD_P : ∀ {n m : Nat} {d e : D}, shp n d = true → shp m e = true → eqD d e = PyData.eqv (toP d) (toP e)
  | n, m, d, e, h1, h2 => by
    cases d <;> cases e <;> first
      | (simp [eqD, toP, PyData.eqv]; done)
      | (cases n <;> simp [shp] at h1; done)
      | (cases m <;> simp [shp] at h2; done)
      | (cases n with
         | zero => simp [shp] at h1
         | succ n => cases m with
           | zero => simp [shp] at h2
           | succ m =>
             simp only [shp] at h1 h2
             simp only [eqD, toP, PyData.eqv]
             exact eqDL_P h1 h2)
theorem eqDL_P : ∀ {n m : Nat} {d e : List D}, shpL n d = true → shpL m e = true → eqDL d e = PyData.eqvAll (toPL d) (toPL e)
  | _, _, [], [], _, _ => by simp [eqDL, toPL, PyData.eqvAll]
  | _, _, [], _ :: _, _, _ => by simp [eqDL, toPL, PyData.eqvAll]
  | _, _, _ :: _, [], _, _ => by simp [eqDL, toPL, PyData.eqvAll]
  | n, m, a :: as, b :: bs, h1, h2 => by
    simp only [shpL, Bool.and_eq_true] at h1 h2
    simp only [eqDL, toPL, PyData.eqvAll]
    rw [eqD_P h1.1 h2.1, eqDL_P h1.2 h2.2]
end

section
variable {g : G} {xg : XG} {H H1 H' : Hp} {S S1 S' : Rg} {d e : D} {n m : Nat} {v w : V} {T A B : Fp} {W : Value → Option Addr → Hp → Prop} {Q Q' : VK} {r : Res}
mutual
theorem own_Dp : ∀ {k n : Nat} {d : D} {v : V} {A : Fp}, shp k d = true → Own g H S n d v A → Dp g.K H v (toP d)
  | _, _, .non, _, _, _, o => by rw [own_non_v o]; exact .non
  | _, _, .bl _, _, _, _, o => by rw [own_bl_v o]; exact .bl _
  | _, _, .int _, _, _, _, o => by rw [own_int_v o]; exact .int _
  | _, _, .str _, _, _, _, o => by rw [own_str_v o]; exact .str _
  | 0, _, .tup l, _, _, h, o => by simp [shp] at h
  | 0, _, .lst l, _, _, h, o => by simp [shp] at h
  | k + 1, _, .tup l, _, _, h, o => by
    simp only [shp] at h
    obtain ⟨a, xs, rfl, t, l1⟩ := own_tup_v o
    exact .tup t (own_DpL h l1)
  | k + 1, 0, .lst l, _, _, h, o => by
    simp only [shp] at h
    obtain ⟨a, xs, rfl, s, t, l1⟩ := own_lst_v o
    exact .lst (rdL t) (own_DpL h l1)
  | k + 1, n + 1, .lst l, _, _, h, o => by
    simp only [shp] at h
    unfold Own at o
    obtain ⟨a, xs, B, rfl, t, rfl, l1⟩ := o
    exact .lst (rdL (.inl t)) (own_DpL h l1)
  | 0, _, .dct _ _, _, _, h, o => by simp [shp] at h
  | k + 1, _, .dct _ _, _, _, h, o => by simp [shp] at h
  | 0, _, .obj _ _ _, _, _, h, o => by simp [shp] at h
  | k + 1, _, .obj _ _ _, _, _, h, o => by simp [shp] at h
  | 0, _, .exc _ _, _, _, h, o => by simp [shp] at h
  | k + 1, _, .exc _ _, _, _, h, o => by simp [shp] at h
theorem own_DpL : ∀ {k n : Nat} {ds : List D} {vs : List V} {A : Fp}, shpL k ds = true → OwnL g H S n ds vs A → DpAll g.K H vs (toPL ds)
  | _, _, [], _, _, _, o => by unfold OwnL at o; rw [o.1]; exact .nil
  | k, _, c :: cs, _, _, h, o => by
    unfold OwnL at o
    obtain ⟨x, ys, B, C, rfl, rfl, h1, h2⟩ := o
    simp only [shpL, Bool.and_eq_true] at h
    exact .cons (own_Dp h.1 h1) (own_DpL h.2 h2)
end
theorem flat_v (h : flatD d = true) (o : Own g H S n d v A) : flatV v = true := by
  cases d <;> first
    | (rw [own_non_v o]; rfl)
    | (rw [own_bl_v o]; rfl)
    | (rw [own_int_v o]; rfl)
    | (rw [own_str_v o]; rfl)
    | (simp [flatD] at h)
theorem eqV_D (h1 : flatD d = true) (h2 : flatD e = true) (o1 : Own g H S n d v A) (o2 : Own g H S m e w B) : eqV v w = eqD d e := by
  cases d <;> cases e <;> first
    | (simp [flatD] at h1; done)
    | (simp [flatD] at h2; done)
    | (first | rw [own_non_v o1] | rw [own_bl_v o1] | rw [own_int_v o1] | rw [own_str_v o1]
       first | rw [own_non_v o2] | rw [own_bl_v o2] | rw [own_int_v o2] | rw [own_str_v o2]
       simp [eqV, eqD])
theorem flatL_v : ∀ {l : List D} {xs : List V} {A : Fp}, l.all flatD = true → OwnL g H S n l xs A → xs.all flatV = true
  | [], _, _, _, o => by unfold OwnL at o; rw [o.1]; rfl
  | c :: cs, _, _, h, o => by
    unfold OwnL at o
    obtain ⟨x, ys, B, C, rfl, rfl, h1, h2⟩ := o
    simp only [List.all_cons, Bool.and_eq_true] at h ⊢
    exact ⟨flat_v h.1 h1, flatL_v h.2 h2⟩
theorem inV_D (hx : flatD d = true) (ox : Own g H S m d v B) : ∀ {l : List D} {xs : List V} {A : Fp}, l.all flatD = true → OwnL g H S n l xs A → inV v xs = inD d l
  | [], _, _, _, o => by unfold OwnL at o; rw [o.1]; rfl
  | c :: cs, _, _, h, o => by
    unfold OwnL at o
    obtain ⟨x, ys, B, C, rfl, rfl, h1, h2⟩ := o
    simp only [List.all_cons, Bool.and_eq_true] at h
    have e := inV_D hx ox h.2 h2
    unfold inV at e ⊢
    rw [List.any_cons, e, eqV_D h.1 hx h1 ox]
    rfl

/-! ### comparisons -/
def Cop.op : Cop → CmpOp
  | .eq => .Eq | .ne => .NotEq | .lt => .Lt | .le => .LtE | .gt => .Gt | .ge => .GtE | .isN => .Is | .notN => .IsNot | .isin => .In | .notin => .NotIn
variable {X : Cx}
theorem isN_v (o : Own g H S n d v A) : decide (v = .non) = d.isNon := by
  cases d with
  | non => rw [own_non_v o]; rfl
  | bl b => rw [own_bl_v o]; rfl
  | int b => rw [own_int_v o]; rfl
  | str b => rw [own_str_v o]; rfl
  | tup l => obtain ⟨a, xs, rfl, _⟩ := own_tup_v o; rfl
  | lst l => cases n <;> (unfold Own at o) <;> (first | obtain ⟨a, xs, rfl, _⟩ := o | obtain ⟨a, xs, B, rfl, _⟩ := o) <;> rfl
  | dct l k => cases n <;> (unfold Own at o) <;> (first | obtain ⟨a, xs, rfl, _⟩ := o | obtain ⟨a, xs, B, rfl, _⟩ := o) <;> rfl
  | obj c l k => cases n <;> (unfold Own at o) <;> (first | obtain ⟨a, dx, xs, rfl, _⟩ := o | obtain ⟨a, dx, xs, B, rfl, _⟩ := o) <;> rfl
  | exc c l => unfold Own at o; obtain ⟨a, dx, xs, rfl, _⟩ := o; rfl
theorem op_cmp (hK : g.K = X.K) (hu : X.A.units + 64 < cLine) (o : Cop) : OpR X (compareOp o.op) (rB g xg W (cmpD o)) := by
  refine OpR.pick fun x y H Q h => ?_
  obtain ⟨S, d, e, sz, o1, o2, h⟩ := h
  unfold cmpD at h
  split at h
  · split at h
    · rename_i z
      simp only [Bool.and_eq_true] at z
      refine ⟨_, op_eqD hu, toP _, toP _, by rw [← hK]; exact own_Dp z.1 o1, by rw [← hK]; exact own_Dp z.2 o2, shaped_of z.1, shaped_of z.2, ?_⟩
      rw [← eqD_P z.1 z.2]
      exact h.val sz own_bl
    · exact h.elim
  · split at h
    · rename_i z
      simp only [Bool.and_eq_true] at z
      refine ⟨_, op_neD hu, toP _, toP _, by rw [← hK]; exact own_Dp z.1 o1, by rw [← hK]; exact own_Dp z.2 o2, shaped_of z.1, shaped_of z.2, ?_⟩
      rw [← eqD_P z.1 z.2]
      exact h.val sz own_bl
    · exact h.elim
  · rw [own_int_v o1, own_int_v o2]; exact ⟨_, op_lt, _, _, rfl, rfl, h.val sz own_bl⟩
  · rw [own_int_v o1, own_int_v o2]; exact ⟨_, op_le, _, _, rfl, rfl, h.val sz own_bl⟩
  · rw [own_int_v o1, own_int_v o2]; exact ⟨_, op_gt, _, _, rfl, rfl, h.val sz own_bl⟩
  · rw [own_int_v o1, own_int_v o2]; exact ⟨_, op_ge, _, _, rfl, rfl, h.val sz own_bl⟩
  · rw [own_non_v o2]
    refine ⟨_, op_isN, rfl, ?_⟩
    rw [isN_v o1]
    exact h.val sz own_bl
  · rw [own_non_v o2]
    refine ⟨_, op_notN, rfl, ?_⟩
    rw [isN_v o1]
    exact h.val sz own_bl
  · rw [own_bl_v o1, own_bl_v o2]; exact ⟨_, op_is_bl, _, _, rfl, rfl, h.val sz own_bl⟩
  · rw [own_bl_v o1, own_bl_v o2]; exact ⟨_, op_isnot_bl, _, _, rfl, rfl, h.val sz own_bl⟩
  · obtain ⟨a, xs, rfl, s, t, l1⟩ := own_lst_v o2
    split at h
    · rename_i z
      simp only [Bool.and_eq_true] at z
      refine ⟨_, op_in_seq, a, xs, rfl, .inl (rdL t), flat_v z.1 o1, flatL_v z.2 l1, ?_⟩
      rw [if_neg Bool.false_ne_true, inV_D z.1 o1 z.2 l1]
      exact h.val sz own_bl
    · exact h.elim
  · obtain ⟨a, xs, rfl, t, l1⟩ := own_tup_v o2
    split at h
    · rename_i z
      simp only [Bool.and_eq_true] at z
      refine ⟨_, op_in_seq, a, xs, rfl, .inr (by rw [← hK]; exact t), flat_v z.1 o1, flatL_v z.2 l1, ?_⟩
      rw [if_neg Bool.false_ne_true, inV_D z.1 o1 z.2 l1]
      exact h.val sz own_bl
    · exact h.elim
  · obtain ⟨a, xs, rfl, s, t, l1⟩ := own_lst_v o2
    split at h
    · rename_i z
      simp only [Bool.and_eq_true] at z
      refine ⟨_, op_notIn_seq, a, xs, rfl, .inl (rdL t), flat_v z.1 o1, flatL_v z.2 l1, ?_⟩
      rw [if_pos rfl, inV_D z.1 o1 z.2 l1]
      exact h.val sz own_bl
    · exact h.elim
  · obtain ⟨a, xs, rfl, t, l1⟩ := own_tup_v o2
    split at h
    · rename_i z
      simp only [Bool.and_eq_true] at z
      refine ⟨_, op_notIn_seq, a, xs, rfl, .inr (by rw [← hK]; exact t), flat_v z.1 o1, flatL_v z.2 l1, ?_⟩
      rw [if_pos rfl, inV_D z.1 o1 z.2 l1]
      exact h.val sz own_bl
    · exact h.elim
  · exact h.elim

/-! ### subscripts -/
theorem atI_own {l : List D} {xs : List V} {i : Int} (o : OwnL g H S 0 l xs []) (h : atI l i = some d) : ∃ v, atI xs i = some v ∧ Own g H S 0 d v [] := by
  unfold atI at h ⊢
  rw [o.length]
  cases e : ixN l.length i with
  | none => rw [e] at h; cases h
  | some j =>
    rw [e] at h
    obtain ⟨x, B, h1, h2, h3⟩ := o.get (i := j) (show l[j]? = some d from h)
    have := h2.zero
    subst this
    exact ⟨x, h1, h2⟩
theorem ix_sub (hK : g.K = X.K) : IxR X (rB g xg W ixD) := by
  intro value slice pins s σ H x y v u Q I rx ry h hs
  obtain ⟨S, d, e, sz, o1, o2, h⟩ := h
  unfold ixD at h
  split at h
  · rename_i l k
    obtain ⟨a, xs, rfl, s1, t, l1⟩ := own_lst_v o1
    rw [own_int_v o2] at ry
    unfold atD at h
    split at h
    · rename_i c e1
      obtain ⟨z, e2, o3⟩ := atI_own l1 e1
      exact ix_list value slice pins s σ H _ _ v u Q I rx ry ⟨a, xs, k, z, rfl, rfl, rdL t, e2, h.val sz o3⟩ hs
    · exact h.elim
  · rename_i l k
    obtain ⟨a, xs, rfl, t, l1⟩ := own_tup_v o1
    rw [own_int_v o2] at ry
    unfold atD at h
    split at h
    · rename_i c e1
      obtain ⟨z, e2, o3⟩ := atI_own l1 e1
      exact ix_tup value slice pins s σ H _ _ v u Q I rx ry ⟨a, xs, k, z, rfl, rfl, by rw [← hK]; exact t, e2, h.val sz o3⟩ hs
    · exact h.elim
  · rename_i z k
    rw [own_str_v o1] at rx
    rw [own_int_v o2] at ry
    unfold strAt at h
    split at h
    · rename_i c e1
      split at h
      · rename_i z1
        exact ix_str value slice pins s σ H _ _ v u Q I rx ry ⟨z, k, c, rfl, rfl, of_decide_eq_true z1, e1, h.val sz own_str⟩ hs
      · exact h.elim
    · exact h.elim
  · exact h.elim

/-! ### slices -/
/-- a slice of a frozen value -/
def rSlD (g : G) (xg : XG) (W : Value → Option Addr → Hp → Prop) : V → Option Int → Option Int → Hp → VK → Prop := fun x lo hi H Q =>
  ∃ S d, (∀ a, S a → (H a).isSome = true) ∧ Own g H S 0 d x [] ∧ RF g xg H S (slD d lo hi) W Q
theorem SlR.pick {r' : V → Option Int → Option Int → Hp → VK → Prop} (k : ∀ x lo hi H Q, r' x lo hi H Q → ∃ r, SlR X r ∧ r x lo hi H Q) : SlR X r' :=
  fun pins s σ H x v vl vu lo hi sl Q I rx hs pl pu q => let ⟨_, h, z⟩ := k x lo hi H Q q; h pins s σ H x v vl vu lo hi sl Q I rx hs pl pu z
theorem OwnL.drop {l : List D} {xs : List V} (o : OwnL g H S 0 l xs []) : ∀ k : Nat, OwnL g H S 0 (l.drop k) (xs.drop k) [] := by
  induction l generalizing xs with
  | nil =>
    unfold OwnL at o
    rw [o.1]
    intro k
    simp
    exact OwnL.nil
  | cons c cs ih =>
    have o' := o
    unfold OwnL at o
    obtain ⟨x, ys, B, C, rfl, e, h1, h2⟩ := o
    have e1 := h1.zero
    have e2 := h2.zero
    subst e1
    subst e2
    intro k
    cases k with
    | zero => exact o'
    | succ k => exact ih h2 k
theorem OwnL.take {l : List D} {xs : List V} (o : OwnL g H S 0 l xs []) : ∀ k : Nat, OwnL g H S 0 (l.take k) (xs.take k) [] := by
  induction l generalizing xs with
  | nil =>
    unfold OwnL at o
    rw [o.1]
    intro k
    simp
    exact OwnL.nil
  | cons c cs ih =>
    unfold OwnL at o
    obtain ⟨x, ys, B, C, rfl, e, h1, h2⟩ := o
    have e1 := h1.zero
    have e2 := h2.zero
    subst e1
    subst e2
    intro k
    cases k with
    | zero => simp; exact OwnL.nil
    | succ k => exact OwnL.cons (A := []) (B := []) h1 (ih h2 k)
theorem OwnL.cut {l : List D} {xs : List V} (o : OwnL g H S 0 l xs []) (lo hi : Option Int) : OwnL g H S 0 (cutD l lo hi) (cutV xs lo hi) [] := by
  unfold cutD cutV
  rw [o.length]
  exact (o.drop _).take _
theorem sl_sub (hK : g.K = X.K) : SlR X (rSlD g xg W) := by
  refine SlR.pick fun x lo hi H Q h => ?_
  obtain ⟨S, d, sz, o1, h⟩ := h
  unfold slD at h
  split at h
  · obtain ⟨a, xs, rfl, s1, t, l1⟩ := own_lst_v o1
    exact ⟨_, sl_list, a, xs, rfl, rdL t, fun p hp => h.new (T := [p]) sz hp (.inl rfl) (own_lst upd_same ((l1.laid sz hp).cut lo hi))⟩
  · rename_i l
    obtain ⟨a, xs, rfl, t, l1⟩ := own_tup_v o1
    have e1 := l1.length
    refine ⟨_, sl_tupA, a, xs, rfl, by rw [← hK]; exact t, fun q => ?_, fun q p hp => h.new (T := []) sz hp (.inr rfl) (own_tup (.inl (.inl upd_same)) ((l1.laid sz hp).cut lo hi))⟩
    refine h.val sz (own_tup t ?_)
    have e2 : cutD l lo hi = l := by
      unfold cutD
      rw [← e1, q.1, q.2, List.drop_zero, Nat.sub_zero, e1, List.take_length]
    rw [e2]
    exact l1
  · rw [own_str_v o1]
    split at h
    · rename_i z
      exact ⟨_, sl_str, _, rfl, of_decide_eq_true z, h.val sz own_str⟩
    · exact h.elim
  · exact h.elim
end
end PL
/-! PL5: PySem's expressions, by what the small language's expressions do. -/
namespace PL
open PySem L2 PyProof.Rows

/-! ### the syntax, whatever the parts are -/
def noStar : Expr → Bool
  | .Starred _ _ => false
  | _ => true
theorem star_cons {e : Expr} {es : List Expr} {env : PySem.Env} (h : noStar e = true) : starEach (e :: es) env = (false, eval e env) :: starEach es env := by
  cases e <;> first | rfl | exact absurd h Bool.false_ne_true
theorem plain_any {es : List Expr} {env : PySem.Env} {pos : Pos} (h : es.all noStar = true) : (backTo pos (starEach es env)).any (·.1) = false := by
  induction es with
  | nil => rfl
  | cons e es ih =>
    simp only [List.all_cons, Bool.and_eq_true] at h
    rw [star_cons h.1]
    have := ih h.2
    unfold backTo at this ⊢
    simp only [List.map_cons, List.any_cons, this]
    rfl
theorem plain_len {es : List Expr} {env : PySem.Env} (h : es.all noStar = true) : (starEach es env).length = es.length := by
  induction es with
  | nil => rfl
  | cons e es ih =>
    simp only [List.all_cons, Bool.and_eq_true] at h
    rw [star_cons h.1, List.length_cons, List.length_cons, ih h.2]
theorem plain_form {es : List Expr} {env : PySem.Env} {pos : Pos} {n : Nat} (h : es.all noStar = true) (hn : n < 30) : methodCallForm n (backTo pos (starEach es env)) [] = true := by
  unfold methodCallForm
  have h1 := plain_any (env := env) (pos := pos) h
  simp only [List.all_nil, Bool.and_true, List.isEmpty_nil, if_true, Bool.and_eq_true, decide_eq_true_eq]
  refine ⟨?_, by simpa using hn⟩
  rw [List.all_eq_true]
  intro x hx
  rw [List.any_eq_false] at h1
  have := h1 x hx
  simpa using this
def noSlice : Expr → Bool
  | .Slice _ _ _ _ => false
  | _ => true
theorem plainIx {b : Expr} (h : noSlice b = true) : PlainIx b := by
  intro o i
  cases b <;> first | rfl | exact absurd h Bool.false_ne_true
def noSuper : Expr → Bool
  | .Call (.Name id _) [] [] _ => !(id == ("super" : Str))
  | _ => true
theorem attrBase {o : Expr} {m : Str} {env : PySem.Env} {w : Sem Value} (h : noSuper o = true) : attributeBase o m env w = w := by
  unfold attributeBase
  split
  · rename_i id p pos
    have e : (id != ("super" : Str)) = true := h
    rw [e]
    rfl
  · rfl
theorem eval_meth {o : Expr} {m : Str} {apos pos : Pos} {es : List Expr} {env : PySem.Env} (h1 : noSuper o = true) (h2 : es.all noStar = true) (h3 : es.length < 30) (h4 : (apos.endLine == pos.line) = true) :
    eval (.Call (.Attribute o m apos) es [] pos) env = (do
      let ov ← eval o env
      standAt apos.atName
      let (f, first) ← holding [ov] (getMethod ov m (do return (← importBound o env).getD true))
      callWith pos f first (backTo pos (starEach es env)) (backToKw pos (keywordEach [] env))) := by
  show (do
    let ov ← attributeBase o m env (eval o env)
    standAt apos.atName
    methodCall o m apos pos env ov (es.length + ([] : List Keyword).length) (backTo pos (starEach es env)) (backToKw pos (keywordEach [] env))) = _
  rw [attrBase h1]
  have e : methodCallForm (es.length + ([] : List Keyword).length) (backTo pos (starEach es env)) (backToKw pos (keywordEach [] env)) = true := plain_form h2 (by simpa using h3)
  unfold methodCall methodCallPos calleeOf
  rw [e]
  simp only [h4, Bool.not_true, Bool.false_or, if_true, pure_bind]
def noComp : Expr → Bool
  | .ListComp _ _ _ _ => false
  | .SetComp _ _ _ _ => false
  | .DictComp _ _ _ _ _ => false
  | _ => true
theorem noSwap {e : Expr} {t : Option Expr} {l : Nat} {env : PySem.Env} (h : noComp e = true) : swapsWith e t l env = pure false := by
  cases e <;> first | rfl | exact absurd h Bool.false_ne_true
def isLeaf : Expr → Bool
  | .UnaryOp .Not _ _ => false
  | .BoolOp _ _ _ => false
  | .IfExp _ _ _ _ => false
  | .Compare _ _ _ _ => false
  | _ => true
theorem isTrue_leaf {e : Expr} {env : PySem.Env} (h : isLeaf e = true) : ∀ whole, isTrue e env whole = (do let v ← whole; standAt e.pos; holding [v] (truthy v)) := by
  intro w
  cases e <;> first | rfl | exact absurd h Bool.false_ne_true | skip
  rename_i o x p
  cases o <;> first | rfl | exact absurd h Bool.false_ne_true
def noSet : Expr → Bool
  | .Set _ _ _ => false
  | _ => true
theorem noMark {e : Expr} {op : CmpOp} (h : noSet e = true) : behindInMarks op e = false := by
  cases e <;> first | rfl | exact absurd h Bool.false_ne_true
theorem noFold {e : Expr} {env : PySem.Env} (h : noSet e = true) : ∀ x, foldedSetIterable e env x = pure x := by
  intro x
  cases e <;> first | rfl | exact absurd h Bool.false_ne_true

/-! ### readings -/
section
variable {g : G} {xg : XG} {Γ : Fe}
/-- a body's slots, all frozen -/
structure Rep0 (g : G) (H : Hp) (S : Rg) (δ : Ev) (σ : L2.St) : Prop where
  sz : ∀ a, S a → (H a).isSome = true
  len : δ.length = σ.length
  at_ : ∀ (i : Nat) (d : D), δ[i]? = some (some d) → ∃ v : V, σ[i]? = some (some v) ∧ Own g H S 0 d v []
theorem Rep0.fw {H H' : Hp} {S S' : Rg} {δ : Ev} {σ : L2.St} (r : Rep0 g H S δ σ) (f : Fw H H' S S') : Rep0 g H' S' δ σ :=
  ⟨f.sz, r.len, fun i d e => let ⟨v, e1, o⟩ := r.at_ i d e; ⟨v, e1, o.fw f r.sz⟩⟩
theorem Rep0.set {H : Hp} {S : Rg} {δ : Ev} {σ : L2.St} {i : Nat} {d : D} {v : V} (r : Rep0 g H S δ σ) (o : Own g H S 0 d v []) : Rep0 g H S (δ.set i (some d)) (σ.set i (some v)) := by
  refine ⟨r.sz, by rw [List.length_set, List.length_set, r.len], fun j e h => ?_⟩
  by_cases hj : i = j
  · subst hj
    have hl : i < δ.length := by
      have := (List.getElem?_eq_some_iff.mp h).1
      rwa [List.length_set] at this
    rw [List.getElem?_set_self hl] at h
    cases h
    exact ⟨v, List.getElem?_set_self (by rw [← r.len]; exact hl), o⟩
  · rw [List.getElem?_set_ne hj] at h ⊢
    exact r.at_ j e h
theorem Rep0.wipe {H : Hp} {S : Rg} {δ : Ev} {σ : L2.St} (r : Rep0 g H S δ σ) : ∀ vs : List Nat, Rep0 g H S (wipeE δ vs) (L2.wipe σ vs)
  | [] => r
  | v :: vs => by
    have ih := Rep0.wipe r vs
    refine ⟨r.sz, ?_, fun j e h => ?_⟩
    · show ((wipeE δ vs).set v none).length = ((L2.wipe σ vs).set v none).length
      rw [List.length_set, List.length_set, ih.len]
    · replace h : ((wipeE δ vs).set v none)[j]? = some (some e) := h
      show ∃ u, ((L2.wipe σ vs).set v none)[j]? = some (some u) ∧ _
      by_cases hj : v = j
      · subst hj
        have hl : v < (wipeE δ vs).length := by
          have := (List.getElem?_eq_some_iff.mp h).1
          rwa [List.length_set] at this
        rw [List.getElem?_set_self hl] at h
        cases h
      · rw [List.getElem?_set_ne hj] at h ⊢
        exact ih.at_ j e h

def RdE (g : G) (xg : XG) (Γ : Fe) (W : WX) (x : Ex) : TE := fun σ H Q => ∃ S δ, Rep0 g H S δ σ ∧ RF g xg H S (evE Γ x δ) (fun c d H' => W c d σ H') Q
/-- a test's end -/
def RFT (g : G) (xg : XG) (H : Hp) (S : Rg) (r : RT) (W : Value → Option Addr → Hp → Prop) (Q : Bool → Hp → Prop) : Prop :=
  match r with
  | .ok b => ∀ H' S', Fw H H' S S' → Q b H'
  | .exn e => ∀ cls dd H', Ext H H' → ExnN xg e cls dd H H' → W cls dd H'
  | .bad => False
def RdT (g : G) (xg : XG) (Γ : Fe) (W : WX) (x : Ex) : TT := fun σ H Q => ∃ S δ, Rep0 g H S δ σ ∧ RFT g xg H S (evT Γ x δ) (fun c d H' => W c d σ H') Q
/-- values at their own depths -/
def OwnN (g : G) (H : Hp) (S : Rg) : List (D × Nat) → List V → Fp → Prop
  | [], xs, A => xs = [] ∧ A = []
  | p :: l, xs, A => ∃ x ys B C, xs = x :: ys ∧ A = B ++ C ∧ Own g H S p.2 p.1 x B ∧ OwnN g H S l ys C
def RFL (g : G) (xg : XG) (H : Hp) (S : Rg) (r : RL) (W : Value → Option Addr → Hp → Prop) (Q : List V → Hp → Prop) : Prop :=
  match r with
  | .ok l => ∀ vs H' S' A, Fw H H' S S' → OwnN g H' S' l vs A → A.Nodup → (∀ a ∈ A, H a = none ∧ ¬ S' a) → Q vs H'
  | .exn e => ∀ cls dd H', Ext H H' → ExnN xg e cls dd H H' → W cls dd H'
  | .bad => False
def RdA (g : G) (xg : XG) (Γ : Fe) (W : WX) (xs : List Ex) : TA := fun σ H Q => ∃ S δ, Rep0 g H S δ σ ∧ RFL g xg H S (evL Γ xs δ) (fun c d H' => W c d σ H') Q

theorem OwnN.there {H : Hp} {S : Rg} : ∀ {l : List (D × Nat)} {vs : List V} {A : Fp}, OwnN g H S l vs A → ∀ a ∈ A, (H a).isSome = true
  | [], _, _, h => by unfold OwnN at h; rw [h.2]; intro a q; cases q
  | p :: l, _, _, h => by
    unfold OwnN at h
    obtain ⟨x, ys, B, C, rfl, rfl, h1, h2⟩ := h
    intro a q
    rcases List.mem_append.mp q with q | q
    · exact h1.there a q
    · exact OwnN.there h2 a q
theorem OwnN.frz {H : Hp} {S : Rg} : ∀ {l : List (D × Nat)} {vs : List V} {A : Fp}, OwnN g H S l vs A → OwnL g H (fun a => S a ∨ a ∈ A) 0 (l.map (·.1)) vs []
  | [], _, _, h => by unfold OwnN at h; rw [h.1]; exact OwnL.nil
  | p :: l, _, _, h => by
    unfold OwnN at h
    obtain ⟨x, ys, B, C, rfl, rfl, h1, h2⟩ := h
    obtain ⟨B', C', k1, k2⟩ := Own.weak (m := 0) (Nat.zero_le _) h1
    replace k1 := k1 (fun a => S a ∨ a ∈ B ++ C) (fun a q => .inl q) (fun a q => .inr (List.mem_append_left _ ((k2.1 a).mpr (.inr q))))
    have e := k1.zero
    subst e
    have h3 := (OwnN.frz h2).keep (S' := fun a => S a ∨ a ∈ B ++ C) (H' := H) ⟨fun a _ => rfl, fun a q => ⟨q.imp id (List.mem_append_right _), rfl⟩, fun _ _ q => q⟩
    exact OwnL.cons (A := []) (B := []) k1 h3
theorem OwnN.at_ {H : Hp} {S : Rg} {m : Nat} : ∀ {l : List (D × Nat)} {vs : List V} {A : Fp}, (∀ p ∈ l, immB p.2 p.1 = true ∨ m ≤ p.2) → OwnN g H S l vs A →
    ∃ B C, (∀ R : Rg, (∀ a, S a → R a) → (∀ a ∈ C, R a) → OwnL g H R m (l.map (·.1)) vs B) ∧ Spl A B C
  | [], _, _, _, h => by unfold OwnN at h; refine ⟨[], [], fun R _ _ => ?_, by rw [h.2]; exact .nil⟩; rw [h.1]; exact OwnL.nil
  | p :: l, _, _, hm, h => by
    unfold OwnN at h
    obtain ⟨x, ys, A1, A2, rfl, rfl, h1, h2⟩ := h
    obtain ⟨B2, C2, k1, k2⟩ := OwnN.at_ (fun q hq => hm q (List.mem_cons_of_mem _ hq)) h2
    by_cases hle : m ≤ p.2
    · obtain ⟨B1, C1, j1, j2⟩ := Own.weak hle h1
      exact ⟨B1 ++ B2, C1 ++ C2, fun R hS hC => OwnL.cons (j1 R hS fun b hb => hC b (List.mem_append_left _ hb)) (k1 R hS fun b hb => hC b (List.mem_append_right _ hb)), j2.app k2⟩
    · have hi : immB p.2 p.1 = true := (hm p List.mem_cons_self).resolve_right hle
      refine ⟨A1 ++ B2, [] ++ C2, fun R hS hC => OwnL.cons (Own.imm (by omega) hi h1) (k1 R hS fun b hb => hC b hb), Spl.app ⟨fun a => by simp, fun q => by simpa using q⟩ k2⟩
theorem dep_le : ∀ l : List (D × Nat), ∀ p ∈ l, immB p.2 p.1 = true ∨ dep l ≤ p.2
  | [], _, h => by cases h
  | (d, n) :: r, p, h => by
    have ih := dep_le r
    unfold dep
    rcases List.mem_cons.mp h with rfl | h
    · by_cases hi : immB n d = true
      · exact .inl hi
      · rw [if_neg hi]; exact .inr (Nat.min_le_left _ _)
    · rcases ih p h with hq | hq
      · exact .inl hq
      · by_cases hi : immB n d = true
        · rw [if_pos hi]; exact .inr hq
        · rw [if_neg hi]; exact .inr (Nat.le_trans (Nat.min_le_right _ _) hq)
theorem OwnN.len {H : Hp} {S : Rg} : ∀ {l : List (D × Nat)} {vs : List V} {A : Fp}, OwnN g H S l vs A → vs.length = l.length
  | [], _, _, h => by unfold OwnN at h; rw [h.1]; rfl
  | p :: l, _, _, h => by
    unfold OwnN at h
    obtain ⟨x, ys, B, C, rfl, rfl, h1, h2⟩ := h
    rw [List.length_cons, List.length_cons, OwnN.len h2]

theorem _root_.L2.PE.imp {X : Cx} {e : Expr} {t t' : TE} (h : PE X e t) (k : ∀ σ H Q, t' σ H Q → t σ H Q) : PE X e t' := ⟨fun pins s σ H Q I q => h.run pins s σ H Q I (k σ H Q q)⟩
theorem _root_.L2.PE.pick {X : Cx} {e : Expr} {t' : TE} (k : ∀ σ H Q, t' σ H Q → ∃ t, PE X e t ∧ t σ H Q) : PE X e t' := ⟨fun pins s σ H Q I q => let ⟨_, h, z⟩ := k σ H Q q; h.run pins s σ H Q I z⟩
theorem _root_.L2.PT.imp {X : Cx} {e : Expr} {t t' : TT} (h : PT X e t) (k : ∀ σ H Q, t' σ H Q → t σ H Q) : PT X e t' := ⟨fun pins s σ H Q I q => h.run pins s σ H Q I (k σ H Q q)⟩
theorem _root_.L2.PA.imp {X : Cx} {e : List Expr} {t t' : TA} (h : PA X e t) (k : ∀ σ H Q, t' σ H Q → t σ H Q) : PA X e t' := ⟨fun po pins s σ H Q I q => h.run po pins s σ H Q I (k σ H Q q)⟩

variable {X : Cx} {W : WX} {a b c : Expr} {xa xb xc : Ex} {pos : Pos}
/-- an operand, then the rest -/
theorem RdE.bind {σ : L2.St} {H : Hp} {S : Rg} {δ : Ev} {f : D → Res} {Q Q' : VK} (rep : Rep0 g H S δ σ) (h : RF g xg H S ((evE Γ xa δ).bind f) (fun c d H' => W c d σ H') Q)
    (k : ∀ d v H1 S1, Rep0 g H1 S1 δ σ → Fw H H1 S S1 → Own g H1 S1 0 d v [] → RF g xg H1 S1 (f d) (fun c d H' => W c d σ H') Q → Q' v H1) : RdE g xg Γ W xa σ H Q' :=
  ⟨S, δ, rep, RF.bind rep.sz h fun d n v H1 S1 _ fw o q => k d v H1 S1 (rep.fw fw) fw o q⟩
theorem e_bin (hK : g.K = X.K) (o : Bop) (ha : PE X a (RdE g xg Γ W xa)) (hb : PE X b (RdE g xg Γ W xb)) : PE X (.BinOp a o.op b pos) (RdE g xg Γ W (.bin o xa xb)) := by
  refine PE.pick fun σ H Q ⟨S, δ, rep, h⟩ => ⟨_, pe_op (op_bin (xg := xg) (W := fun c d H' => W c d σ H') hK o) ha hb, ?_⟩
  unfold evE at h
  exact RdE.bind rep h fun d v H1 S1 rep1 f1 o1 h1 => RdE.bind rep1 h1 fun d2 v2 H2 S2 rep2 f2 o2 h2 => ⟨S2, d, d2, rep2.sz, o1.fw f2 rep1.sz, o2, h2⟩
theorem e_cmp (hK : g.K = X.K) (hu : X.A.units + 64 < cLine) (o : Cop) (hs : noSet b = true) (ha : PE X a (RdE g xg Γ W xa)) (hb : PE X b (RdE g xg Γ W xb)) : PE X (.Compare a [o.op] [b] pos) (RdE g xg Γ W (.cmp o xa xb)) := by
  refine PE.pick fun σ H Q ⟨S, δ, rep, h⟩ => ⟨_, pe_cmpR (op_cmp (xg := xg) (W := fun c d H' => W c d σ H') hK hu o) ha hb (noMark hs), ?_⟩
  unfold evE at h
  exact RdE.bind rep h fun d v H1 S1 rep1 f1 o1 h1 => RdE.bind rep1 h1 fun d2 v2 H2 S2 rep2 f2 o2 h2 => ⟨S2, d, d2, rep2.sz, o1.fw f2 rep1.sz, o2, h2⟩
theorem e_ix (hK : g.K = X.K) (hs : noSlice b = true) (ha : PE X a (RdE g xg Γ W xa)) (hb : PE X b (RdE g xg Γ W xb)) : PE X (.Subscript a b pos) (RdE g xg Γ W (.ix xa xb)) := by
  refine PE.pick fun σ H Q ⟨S, δ, rep, h⟩ => ⟨_, pe_ix (ix_sub (xg := xg) (W := fun c d H' => W c d σ H') hK) ha hb (plainIx hs), ?_⟩
  unfold evE at h
  exact RdE.bind rep h fun d v H1 S1 rep1 f1 o1 h1 => RdE.bind rep1 h1 fun d2 v2 H2 S2 rep2 f2 o2 h2 => ⟨S2, d, d2, rep2.sz, o1.fw f2 rep1.sz, o2, h2⟩
theorem e_con_int {i : Int} {j : Nat} : PE X (.Constant (.int i) j pos) (RdE g xg Γ W (.con (.int i))) :=
  pe_int.imp fun σ H Q ⟨S, δ, rep, h⟩ => by unfold evE at h; exact h.val rep.sz own_int
theorem e_con_bl {i : Bool} {j : Nat} : PE X (.Constant (.bool i) j pos) (RdE g xg Γ W (.con (.bl i))) :=
  pe_bl.imp fun σ H Q ⟨S, δ, rep, h⟩ => by unfold evE at h; exact h.val rep.sz own_bl
theorem e_con_str {i : Str} {j : Nat} : PE X (.Constant (.str i) j pos) (RdE g xg Γ W (.con (.str i))) :=
  pe_str.imp fun σ H Q ⟨S, δ, rep, h⟩ => by unfold evE at h; exact h.val rep.sz own_str
theorem e_con_non {j : Nat} : PE X (.Constant .none j pos) (RdE g xg Γ W (.con .non)) :=
  pe_non.imp fun σ H Q ⟨S, δ, rep, h⟩ => by unfold evE at h; exact h.val rep.sz own_non
theorem e_var {i : Nat} {x : Str} (hN : X.N[i]? = some x) (hv : Vis X.env.scope x) (hd : (x == ("__debug__" : Str)) = false) (hcd : (x == ("__classdict__" : Str)) = false) : PE X (.Name x pos) (RdE g xg Γ W (.var i)) :=
  (pe_var hN hv hd hcd).imp fun σ H Q ⟨S, δ, rep, h⟩ => by
    unfold evE at h
    split at h
    · rename_i d e
      obtain ⟨v, e1, o⟩ := rep.at_ i d e
      exact ⟨v, e1, h.val rep.sz o⟩
    · exact h.elim
theorem e_neg (ha : PE X a (RdE g xg Γ W xa)) : PE X (.UnaryOp .USub a pos) (RdE g xg Γ W (.neg xa)) :=
  (pe_un un_neg ha).imp fun σ H Q ⟨S, δ, rep, h⟩ => by
    unfold evE at h
    refine RdE.bind rep h fun d v H1 S1 rep1 f1 o1 h1 => ?_
    split at h1
    · rw [own_int_v o1]
      exact ⟨_, rfl, h1.val rep1.sz own_int⟩
    · exact h1.elim
theorem e_not (ha : PE X a (RdE g xg Γ W xa)) : PE X (.UnaryOp .Not a pos) (RdE g xg Γ W (.not xa)) :=
  (pe_not ha).imp fun σ H Q ⟨S, δ, rep, h⟩ => by
    unfold evE at h
    refine RdE.bind rep h fun d v H1 S1 rep1 f1 o1 h1 => ?_
    split at h1
    · rw [own_bl_v o1]
      exact ⟨_, rfl, h1.val rep1.sz own_bl⟩
    · exact h1.elim
theorem e_and {rest : List Expr} (ha : PE X a (RdE g xg Γ W xa)) (hb : PE X (.BoolOp .And (b :: rest) pos) (RdE g xg Γ W xb)) : PE X (.BoolOp .And (a :: b :: rest) pos) (RdE g xg Γ W (.and xa xb)) :=
  (pe_and ha hb).imp fun σ H Q ⟨S, δ, rep, h⟩ => by
    unfold evE at h
    refine RdE.bind rep h fun d v H1 S1 rep1 f1 o1 h1 => ?_
    split at h1
    · rw [own_bl_v o1]
      exact ⟨_, rfl, iteT ⟨S1, δ, rep1, h1⟩⟩
    · rw [own_bl_v o1]
      exact ⟨_, rfl, iteF (h1.val rep1.sz own_bl)⟩
    · exact h1.elim
theorem e_or {rest : List Expr} (ha : PE X a (RdE g xg Γ W xa)) (hb : PE X (.BoolOp .Or (b :: rest) pos) (RdE g xg Γ W xb)) : PE X (.BoolOp .Or (a :: b :: rest) pos) (RdE g xg Γ W (.or xa xb)) :=
  (pe_or ha hb).imp fun σ H Q ⟨S, δ, rep, h⟩ => by
    unfold evE at h
    refine RdE.bind rep h fun d v H1 S1 rep1 f1 o1 h1 => ?_
    split at h1
    · rw [own_bl_v o1]
      exact ⟨_, rfl, iteT (h1.val rep1.sz own_bl)⟩
    · rw [own_bl_v o1]
      exact ⟨_, rfl, iteF ⟨S1, δ, rep1, h1⟩⟩
    · exact h1.elim
theorem e_one {op : BoolOp} (ha : PE X a (RdE g xg Γ W xa)) : PE X (.BoolOp op [a] pos) (RdE g xg Γ W xa) := pe_one ha

/-! ### tests -/
theorem empty_len {l : List D} {xs : List V} (h : xs.length = l.length) : (!l.isEmpty) = !xs.isEmpty := by
  cases l <;> cases xs <;> first | rfl | (simp at h)
theorem tru_D (hK : g.K = X.K) {H : Hp} {S : Rg} {d : D} {v : V} {k : Bool} (o : Own g H S 0 d v []) (h : truD d = .ok k) : TruV X.K v H k := by
  unfold truD at h
  split at h
  · rw [own_non_v o]; cases h; rfl
  · rw [own_bl_v o]; cases h; rfl
  · rw [own_int_v o]; cases h; rfl
  · rw [own_str_v o]
    split at h
    · rename_i z; cases h; exact ⟨of_decide_eq_true z, rfl⟩
    · cases h
  · obtain ⟨a, xs, rfl, s, t, l1⟩ := own_lst_v o
    cases h
    exact .inl ⟨xs, rdL t, empty_len l1.length⟩
  · obtain ⟨a, xs, rfl, t, l1⟩ := own_tup_v o
    cases h
    exact .inr (.inl ⟨xs, by rw [← hK]; exact t, empty_len l1.length⟩)
  · cases h
theorem RFT.fw {H H1 : Hp} {S S1 : Rg} {r : RT} {W : Value → Option Addr → Hp → Prop} {Q : Bool → Hp → Prop} (f : Fw H H1 S S1) (h : RFT g xg H S r W Q) : RFT g xg H1 S1 r W Q := by
  cases r with
  | ok b => exact fun H' S' o => h H' S' (f.trans o)
  | exn e => exact fun cls dd H' q k => h cls dd H' (f.ext.trans q) (k.back fun _ z => f.ext.back z)
  | bad => exact h
theorem RFT.bind {H : Hp} {S : Rg} {r : Res} {f : D → RT} {W : Value → Option Addr → Hp → Prop} {Q : Bool → Hp → Prop} {Q' : VK} (sz : ∀ a, S a → (H a).isSome = true) (h : RFT g xg H S (r.bindT f) W Q)
    (k : ∀ d n v H1 S1, r = .ok d n → Fw H H1 S S1 → Own g H1 S1 0 d v [] → RFT g xg H1 S1 (f d) W Q → Q' v H1) : RF g xg H S r W Q' := by
  cases r with
  | ok d n =>
    intro v H' S' T o
    obtain ⟨S2, f2, o2⟩ := o.frz sz
    exact k d n v H' S2 rfl f2 o2 (RFT.fw f2 h)
  | exn e => exact h
  | bad => exact h
theorem t_leaf (hK : g.K = X.K) (hl : isLeaf a = true) (ha : PE X a (RdE g xg Γ W xa)) : PT X a (RdT g xg Γ W xa) :=
  (pt_truth ha (isTrue_leaf hl)).imp fun σ H Q ⟨S, δ, rep, h⟩ => by
    refine ⟨S, δ, rep, RFT.bind rep.sz h fun d n v H1 S1 _ f1 o1 h1 => ?_⟩
    cases e : truD d with
    | ok k =>
      rw [e] at h1
      exact ⟨k, tru_D hK o1 e, h1 H1 S1 (Fw.refl f1.sz)⟩
    | exn x =>
      exfalso
      cases d <;> simp [truD] at e
      split at e <;> cases e
    | bad => rw [e] at h1; exact h1.elim
end
end PL
/-! PL6: calls, displays, slices, fields, tests. -/
namespace PL
open PySem L2 PyProof.Rows
section
variable {g : G} {xg : XG} {Γ : Fe} {X : Cx} {W : WX} {a b c : Expr} {xa xb xc : Ex} {pos : Pos}

/-! ### arguments -/
theorem a_nil : PA X [] (RdA g xg Γ W []) := pa_nil.imp fun σ H Q ⟨S, δ, rep, h⟩ => by
  unfold evL at h
  exact h [] H S [] (Fw.refl rep.sz) (by unfold OwnN; exact ⟨rfl, rfl⟩) List.nodup_nil fun _ q => nomatch q
theorem a_cons {es : List Expr} {xs : List Ex} (hs : noStar a = true) (ha : PE X a (RdE g xg Γ W xa)) (hr : PA X es (RdA g xg Γ W xs)) : PA X (a :: es) (RdA g xg Γ W (xa :: xs)) :=
  (pa_cons ha hr (star_cons hs)).imp fun σ H Q ⟨S, δ, rep, h⟩ => by
    refine ⟨S, δ, rep, ?_⟩
    unfold evL at h
    cases e1 : evE Γ xa δ with
    | ok d n =>
      rw [e1] at h
      intro v H1 S1 T o
      refine ⟨S1, δ, rep.fw o.fw, ?_⟩
      cases e2 : evL Γ xs δ with
      | ok l =>
        rw [e2] at h
        intro vs H2 S2 A f ow nd fr
        refine h (v :: vs) H2 S2 (T ++ A) (o.fw.trans f) ?_ ?_ ?_
        · unfold OwnN
          exact ⟨v, vs, T, A, rfl, rfl, o.own.fw f o.sz, ow⟩
        · refine List.nodup_append.mpr ⟨o.nd, nd, fun x hx y hy e => ?_⟩
          have h1 := o.own.there x hx
          rw [e, (fr y hy).1] at h1
          cases h1
        · intro x hx
          rcases List.mem_append.mp hx with hx | hx
          · refine ⟨(o.fr x hx).1, fun q => ?_⟩
            rcases f.new x q with q | q
            · exact (o.fr x hx).2 q
            · have h1 := o.own.there x hx
              rw [q] at h1
              cases h1
          · exact ⟨o.ext.back (fr x hx).1, (fr x hx).2⟩
      | exn x =>
        rw [e2] at h
        exact fun cls dd H' q k => h cls dd H' (o.ext.trans q) (k.back fun _ z => o.ext.back z)
      | bad => rw [e2] at h; exact h.elim
    | exn x => rw [e1] at h; exact h
    | bad => rw [e1] at h; exact h.elim
/-- the arguments, all frozen -/
theorem RFL.frz {H : Hp} {S : Rg} {r : RL} {f : List D → Res} {W : Value → Option Addr → Hp → Prop} {Q : VK} {Q' : List V → Hp → Prop} (sz : ∀ a, S a → (H a).isSome = true) (h : RF g xg H S (r.bind f) W Q)
    (k : ∀ ds vs H1 S1, Fw H H1 S S1 → OwnL g H1 S1 0 ds vs [] → RF g xg H1 S1 (f ds) W Q → Q' vs H1) : RFL g xg H S r W Q' := by
  cases r with
  | ok l =>
    intro vs H' S' A f1 ow nd fr
    have f2 : Fw H H' S (fun a => S' a ∨ a ∈ A) := ⟨f1.ext, fun a q => .inl (f1.sub a q), fun a q => q.elim (f1.new a) fun q => .inr (fr a q).1, fun a q => q.elim (f1.sz a) fun q => ?_⟩
    · exact k _ vs H' _ f2 ow.frz (RF.fw f2 h)
    · have : ∀ {l : List (D × Nat)} {vs : List V} {A : Fp}, OwnN g H' S' l vs A → ∀ a ∈ A, (H' a).isSome = true := by
        intro l
        induction l with
        | nil => intro vs A h; unfold OwnN at h; rw [h.2]; intro a q; cases q
        | cons p l ih =>
          intro vs A h
          unfold OwnN at h
          obtain ⟨x, ys, B, C, rfl, rfl, h1, h2⟩ := h
          intro a q
          rcases List.mem_append.mp q with q | q
          · exact h1.there a q
          · exact ih h2 a q
      exact this ow a q
  | exn e => exact h
  | bad => exact h

/-! ### displays -/
section
variable {H H1 : Hp} {S S1 : Rg} {l : List (D × Nat)} {vs : List V} {A : Fp} {p : Addr}
/-- a new object over values that were just made -/
theorem lay_core {o : HO} (f : Fw H H1 S S1) (ow : OwnN g H1 S1 l vs A) (nd : A.Nodup) (fr : ∀ a ∈ A, H a = none ∧ ¬ S1 a) (hp : H1 p = none) :
    ∃ (S2 : Rg) (B : Fp), (∀ n d T, (∀ L : OwnL g (upd H1 p o) S2 (dep l) (l.map (·.1)) vs B, Own g (upd H1 p o) S2 n d (.ref p) T) → (T = B ∨ T = p :: B) → OkV g H (upd H1 p o) S S2 n d (.ref p) T) := by
  obtain ⟨B, C, k1, k2⟩ := OwnN.at_ (m := dep l) (dep_le l) ow
  have k3 := k1 (fun a => S1 a ∨ a ∈ C) (fun a q => .inl q) (fun a q => .inr q)
  have hB : ∀ a ∈ B, a ∈ A := fun a q => (k2.1 a).mpr (.inl q)
  have hC : ∀ a ∈ C, a ∈ A := fun a q => (k2.1 a).mpr (.inr q)
  have szC : ∀ a, (S1 a ∨ a ∈ C) → (H1 a).isSome = true := fun a q => q.elim (f.sz a) fun q => ow.there a (hC a q)
  have k4 : OwnL g (upd H1 p o) (fun a => S1 a ∨ a ∈ C) (dep l) (l.map (·.1)) vs B := k3.laid szC hp
  obtain ⟨n1, n2, n3⟩ := List.nodup_append.mp (k2.2 nd)
  have pB : p ∉ B := fun q => by
    have := k3.there p q
    rw [hp] at this; cases this
  have inB : ∀ a ∈ B, H a = none ∧ ¬ (S1 a ∨ a ∈ C) := fun a q => ⟨(fr a (hB a q)).1, fun z => z.elim (fr a (hB a q)).2 fun z => n3 a q a z rfl⟩
  refine ⟨fun a => S1 a ∨ a ∈ C, B, fun n d T own hT => ⟨f.ext.trans (Ext.new hp), fun a q => .inl (f.sub a q), fun a q => ?_, fun a q => ?_, own k4, ?_, fun a q => ?_⟩⟩
  · rcases q with q | q
    · exact f.new a q
    · exact .inr (fr a (hC a q)).1
  · by_cases e : a = p
    · rw [e, upd_same]; rfl
    · rw [upd_ne e]; exact szC a q
  · rcases hT with rfl | rfl
    · exact n1
    · exact List.nodup_cons.mpr ⟨pB, n1⟩
  · rcases hT with rfl | rfl
    · exact inB a q
    · rcases List.mem_cons.mp q with rfl | q
      · refine ⟨f.ext.back hp, fun z => ?_⟩
        have := szC a z
        rw [hp] at this; cases this
      · exact inB a q
theorem lay_lst (f : Fw H H1 S S1) (ow : OwnN g H1 S1 l vs A) (nd : A.Nodup) (fr : ∀ a ∈ A, H a = none ∧ ¬ S1 a) (hp : H1 p = none) :
    ∃ S2 T, OkV g H (upd H1 p (.lst vs)) S S2 (dep l + 1) (.lst (l.map (·.1))) (.ref p) T := by
  obtain ⟨S2, B, k⟩ := lay_core (o := .lst vs) f ow nd fr hp
  exact ⟨S2, _, k _ _ (p :: B) (fun L => own_lst upd_same L) (.inr rfl)⟩
theorem lay_tup (f : Fw H H1 S S1) (ow : OwnN g H1 S1 l vs A) (nd : A.Nodup) (fr : ∀ a ∈ A, H a = none ∧ ¬ S1 a) (hp : H1 p = none) :
    ∃ S2 T, OkV g H (upd H1 p (.tup vs)) S S2 (dep l) (.tup (l.map (·.1))) (.ref p) T := by
  obtain ⟨S2, B, k⟩ := lay_core (o := .tup vs) f ow nd fr hp
  exact ⟨S2, _, k _ _ B (fun L => own_tup (.inl (.inl upd_same)) L) (.inl rfl)⟩
end
theorem e_lst {es : List Expr} {xs : List Ex} (h : PA X es (RdA g xg Γ W xs)) : PE X (.List es pos) (RdE g xg Γ W (.lst xs)) :=
  (pe_lst h).imp fun σ H Q ⟨S, δ, rep, h⟩ => by
    refine ⟨S, δ, rep, ?_⟩
    unfold evE at h
    cases e2 : evL Γ xs δ with
    | ok l =>
      rw [e2] at h
      intro vs H1 S1 A f ow nd fr
      simp only [RL.bindN_ok, newL] at h
      split at h
      · rename_i z
        refine ⟨by rw [ow.len]; exact of_decide_eq_true z, fun p hp => ?_⟩
        obtain ⟨S2, T, o⟩ := lay_lst f ow nd fr hp
        exact h _ _ _ _ o
      · exact h.elim
    | exn x => rw [e2] at h; exact h
    | bad => rw [e2] at h; exact h.elim
theorem e_tup {es : List Expr} {xs : List Ex} {k : Nat} (h : PA X es (RdA g xg Γ W xs)) : PE X (.Tuple es k pos) (RdE g xg Γ W (.tup xs)) :=
  (pe_tup h).imp fun σ H Q ⟨S, δ, rep, h⟩ => by
    refine ⟨S, δ, rep, ?_⟩
    unfold evE at h
    cases e2 : evL Γ xs δ with
    | ok l =>
      rw [e2] at h
      intro vs H1 S1 A f ow nd fr
      simp only [RL.bindN_ok, newT] at h
      split at h
      · rename_i z
        refine ⟨by rw [ow.len]; exact of_decide_eq_true z, fun p hp => ?_⟩
        obtain ⟨S2, T, o⟩ := lay_tup f ow nd fr hp
        exact h _ _ _ _ o
      · exact h.elim
    | exn x => rw [e2] at h; exact h
    | bad => rw [e2] at h; exact h.elim

/-! ### calls -/
/-- a def's promise: what the function F says of the frozen arguments -/
def pSp (g : G) (xg : XG) (F : List D → Res) : Sp := fun vs H Q E => ∃ S ds, (∀ a, S a → (H a).isSome = true) ∧ OwnL g H S 0 ds vs [] ∧ RF g xg H S (F ds) E Q
/-- the name x stands for a def that keeps its promise F -/
structure Callee (g : G) (xg : XG) (X : Cx) (x : Str) (F : List D → Res) : Prop where
  is : ∃ f fd ps k, FnOk X.prog X.w X.K X.mg X.base (L2.CX X.prog X.w) k f fd ps (pSp g xg F) ∧ Room k X.A ∧ X.mg x = some (.ref f) ∧ PySem.W.keepIn X.K (.ref f) = true ∧ Binds X.K fd ps []
theorem evL_rf {σ : L2.St} {H : Hp} {S : Rg} {δ : Ev} {xs : List Ex} {F : List D → Res} {Q : VK} {Q' : List V → Hp → Prop} (rep : Rep0 g H S δ σ) (h : RF g xg H S ((evL Γ xs δ).bind F) (fun c d H' => W c d σ H') Q)
    (k : ∀ ds vs H1 S1, Rep0 g H1 S1 δ σ → Fw H H1 S S1 → OwnL g H1 S1 0 ds vs [] → RF g xg H1 S1 (F ds) (fun c d H' => W c d σ H') Q → Q' vs H1) : RdA g xg Γ W xs σ H Q' :=
  ⟨S, δ, rep, RFL.frz rep.sz h fun ds vs H1 S1 f1 ow h1 => k ds vs H1 S1 (rep.fw f1) f1 ow h1⟩
theorem e_call {x : Str} {p : Pos} {es : List Expr} {xs : List Ex} {f : Nat} (tk : Takes X W) (C : Callee g xg X x (Γ.fn f)) (hg : Gl X x) (hdb : (x == ("__debug__" : Str)) = false) (hs : es.all noStar = true) (hn : es.isEmpty = xs.isEmpty)
    (ha : PA X es (RdA g xg Γ W xs)) : PE X (.Call (.Name x p) es [] pos) (RdE g xg Γ W (.call f xs)) := by
  obtain ⟨fa, fd, ps, k, F, hr, hm, hk, hb⟩ := C.is
  refine ⟨fun pins s σ H Q I ⟨S, δ, rep, h⟩ => ?_⟩
  unfold evE at h
  refine wpAny_Call_Name_kw (ld_glob I hg hm ?_ hdb)
  cases es with
  | nil =>
    cases xs with
    | cons y ys => cases hn
    | nil =>
      unfold evL at h
      exact PySem.W.callWith_K0 I.kIn hk (run_fnS (E := WE W) (us := []) (vs := []) F hr hb (passAt tk σ) I .nil ⟨S, [], rep.sz, OwnL.nil, h⟩)
  | cons e es =>
    simp only [List.all_cons, Bool.and_eq_true] at hs
    have hA : RdA g xg Γ W xs σ H fun vs H1 => pSp g xg (Γ.fn f) vs H1 Q (WE W σ) := evL_rf rep h fun ds vs H1 S1 rep1 f1 ow h1 => ⟨S1, ds, rep1.sz, ow, h1⟩
    refine PySem.W.callWith_K (h₀ := X.base) I.ok.mod.kin hk (thn (ha.run pos pins s σ H _ I hA) fun us s1 ⟨vs, H1, I1, r, q⟩ => ⟨I1.kIn, ?_⟩) (star_cons hs.1) (plain_any hs.2)
    exact run_fnS (E := WE W) F hr hb (passAt tk σ) I1 r q

/-- the class c has the method m, a def that keeps its promise F -/
structure MCallee (g : G) (xg : XG) (X : Cx) (c : Nat) (m : Str) (F : List D → Res) : Prop where
  is : ∃ f fd ps k, FnOk X.prog X.w X.K X.mg X.base (L2.CX X.prog X.w) k f fd ps (pSp g xg F) ∧ Room k X.A ∧ Cls X.K (g.CA c) ∧ Meth X.K (g.CA c) m f ∧ Binds X.K fd ps []
theorem lookup_none {ks : List Nat} {xs : List V} {m : Str} (h : ∀ k, g.AN k ≠ m) : ((ks.map g.AN).zip xs).lookup m = none := by
  induction ks generalizing xs with
  | nil => rfl
  | cons k ks ih =>
    cases xs with
    | nil => rfl
    | cons x xs =>
      show List.lookup m ((g.AN k, x) :: ((ks.map g.AN).zip xs)) = none
      rw [List.lookup_cons]
      have : (m == g.AN k) = false := by
        rw [beq_eq_false_iff_ne]
        exact fun e => h k e.symm
      rw [this]
      exact ih
theorem own_obj_v {H : Hp} {S : Rg} {c : Nat} {ks : List Nat} {vs : List D} {v : V} {A : Fp} (h : Own g H S 0 (.obj c ks vs) v A) :
    ∃ a dx xs, v = .ref a ∧ S a ∧ H a = some (.ins (g.CA c) dx ((ks.map g.AN).zip xs)) ∧ ks.length = vs.length ∧ OwnL g H S 0 vs xs A := by
  unfold Own at h
  exact h
/-- o.m(..): whose method it is the run tells -/
theorem e_meth {m : Str} {mi : Nat} {apos : Pos} {es : List Expr} {xs : List Ex} (tk : Takes X W) (C : ∀ c, Γ.mh mi c = true → MCallee g xg X c m (Γ.me mi c)) (hm : ∀ k, g.AN k ≠ m)
    (h1 : noSuper a = true) (hs : es.all noStar = true) (h3 : es.length < 30) (h4 : (apos.endLine == pos.line) = true) (hn : es.isEmpty = xs.isEmpty)
    (he : PE X a (RdE g xg Γ W xa)) (ha : PA X es (RdA g xg Γ W xs)) : PE X (.Call (.Attribute a m apos) es [] pos) (RdE g xg Γ W (.meth mi xa xs)) := by
  refine ⟨fun pins s σ H Q I ⟨S, δ, rep, h⟩ => ?_⟩
  unfold evE at h
  have hE : RdE g xg Γ W xa σ H fun x H1 => ∃ r c dx fs f fd ps k, x = .ref r ∧ H1 r = some (.ins (g.CA c) dx fs) ∧ Cls X.K (g.CA c) ∧ Meth X.K (g.CA c) m f ∧ fs.lookup m = none ∧
      FnOk X.prog X.w X.K X.mg X.base (L2.CX X.prog X.w) k f fd ps (pSp g xg (Γ.me mi c)) ∧ Room k X.A ∧ Binds X.K fd ps [] ∧ (xs = [] → pSp g xg (Γ.me mi c) [x] H1 Q (WE W σ)) ∧
      RdA g xg Γ W xs σ H1 fun vs H2 => pSp g xg (Γ.me mi c) (x :: vs) H2 Q (WE W σ) := by
    refine RdE.bind rep h fun d v H1 S1 rep1 f1 o1 q1 => ?_
    split at q1
    · rename_i c ks vs
      split at q1
      · rename_i hmh
        obtain ⟨r, dx, ys, rfl, s1, e1, e2, o2⟩ := own_obj_v o1
        obtain ⟨f, fd, ps, k, F, hr, hc, hM, hB⟩ := (C c hmh).is
        refine ⟨r, c, dx, _, f, fd, ps, k, rfl, e1, hc, hM, lookup_none hm, F, hr, hB, fun e => ?_, ?_⟩
        · subst e
          unfold evL at q1
          exact ⟨S1, _, rep1.sz, OwnL.one o1, q1⟩
        · exact evL_rf rep1 q1 fun ds us H2 S2 rep2 f2 ow q2 => ⟨S2, _, rep2.sz, OwnL.cons (A := []) (B := []) (o1.fw f2 rep1.sz) ow, q2⟩
      · exact q1.elim
    · exact q1.elim
  refine PySem.W.methodCall_KW (thn (he.run pins s σ H _ I hE) fun u s1 ⟨x, H1, I1, rx, r, c, dx, fs, f, fd, ps, k, ex, ea, hc, hM, l, F, hr, hB, q0, q⟩ => ?_) (eval_meth h1 hs h3 h4)
  subst ex
  obtain rfl : u = Value.ref r := rx
  refine getmeth_ok I1 ea hc hM l ?_
  cases es with
  | nil =>
    cases xs with
    | cons y ys => cases hn
    | nil => exact PySem.W.callWith_K0 (first := [.ref r]) I1.kIn hM.kp (run_fnS (E := WE W) (us := [.ref r]) (vs := [.ref r]) F hr hB (passAt tk σ) I1 (.cons rfl .nil) (q0 rfl))
  | cons e es =>
    simp only [List.all_cons, Bool.and_eq_true] at hs
    refine PySem.W.callWith_K (first := [.ref r]) (h₀ := X.base) I1.ok.mod.kin hM.kp (thn (ha.run pos pins s1 σ H1 _ I1 q) fun us s2 ⟨vs, H2, I2, r2, q2⟩ => ⟨I2.kIn, ?_⟩) (star_cons hs.1) (plain_any hs.2)
    exact run_fnS (E := WE W) (us := .ref r :: us) (vs := .ref r :: vs) F hr hB (passAt tk σ) I2 (.cons rfl r2) q2

/-- the promise of an __init__: the new instance at x, the rest as a def's -/
def iSp (g : G) (xg : XG) (c : Nat) (F : List D → Res) : Sp := fun vs H Q E => ∃ S ds x dx ws, vs = .ref x :: ws ∧ (∀ a, S a → (H a).isSome = true) ∧ H x = some (.ins (g.CA c) dx []) ∧ ¬ S x ∧ OwnL g H S 0 ds ws [] ∧
  match F ds with
  | .ok d n => ∀ H' S' T, (∀ a o, a ≠ x → H a = some o → H' a = some o) → (∀ a, S a → S' a) → (∀ a, S' a → S a ∨ H a = none) → (∀ a, S' a → (H' a).isSome = true) → Own g H' S' n d (.ref x) T → T.Nodup → (∀ a ∈ T, (H a = none ∨ a = x) ∧ ¬ S' a) → Q .non H'
  | .exn e => ∀ cls dd H', (∀ a o, a ≠ x → H a = some o → H' a = some o) → ExnN xg e cls dd H H' → E cls dd H'
  | .bad => False
structure KCallee (g : G) (xg : XG) (X : Cx) (x : Str) (c : Nat) (F : List D → Res) : Prop where
  is : ∃ f fd ps k, FnOk X.prog X.w X.K X.mg X.base (L2.CX X.prog X.w) k f fd ps (iSp g xg c F) ∧ Room (k + 1) X.A ∧ X.mg x = some (.ref (g.CA c)) ∧ Mk X.K (g.CA c) f ∧ Binds X.K fd ps []
theorem run_makeS {CX : CXT} {k : Nat} {f C : Addr} {fd : FuncData} {ps : List Str} {sp : Sp} {E : L2.St → XK} {pins : List (Addr × Obj)} {σ : L2.St} {H : Hp} {s : Shared} {Q : VK} {us : List Value} {vs : List V} (M : Mk X.K C f) (F : FnOk X.prog X.w X.K X.mg X.base CX k f fd ps sp) (hr : Room (k + 1) X.A) (hb : Binds X.K fd ps [])
    (hx : PassesAt CX X σ (E σ)) (I : Inv X pins σ H s) (r : Vals vs us)
    (h : ∀ x dx, H x = none → H dx = none → dx ≠ x → sp (.ref x :: vs) (upd (upd H dx (.own x)) x (.ins C dx [])) (fun v H2 => v = .non ∧ Q (.ref x) H2) (E σ)) :
    wpAny (model X.prog X.w) X.A (call (.ref C) us) (EP X pins σ Q) X.xe s := by
  have hq := h (s.heap.objs.size + 1) s.heap.objs.size (I.hok.fresh (Nat.le_succ _)) (I.hok.fresh (Nat.le_refl _)) (Nat.ne_of_lt (Nat.lt_succ_self _))
  have I2 := Inv.made (C := C) I
  have r2 : Vals (V.ref (s.heap.objs.size + 1) :: vs) (Value.ref (s.heap.objs.size + 1) :: us) := .cons rfl r
  have hl : (Value.ref (s.heap.objs.size + 1) :: us).length = ps.length := by
    have e := r2.length
    rw [F.len _ _ _ _ hq] at e
    exact e.symm
  have b := hb { s with heap := (s.heap.push PySem.W.emptyDict).push (PySem.W.instObj C s.heap.objs.size) } (Value.ref (s.heap.objs.size + 1) :: us) I2.kIn (by rw [List.append_nil]; exact hl)
  rw [List.append_nil] at b
  refine wpAny_call (make_map (f := f) I.kIn M.makes M.init (beq_iff_eq.mp M.fn) (codeAny_mono (F.run _ X.stack _ _ ⟨Value.ref (s.heap.objs.size + 1) :: us, []⟩ (Value.ref (s.heap.objs.size + 1) :: us) _ _ (E σ) (hr.make C us [])
    (I2.env0.make C us []) b r2 hq) fun r s' hq' => ?_))
  cases r with
  | error e => exact hx pins _ _ e s' I2 hq'
  | ok fl =>
    cases fl with
    | ret u =>
      obtain ⟨v, H', I3, rv, ev, q3⟩ := I2.after hq'
      subst ev
      exact ⟨rv, ⟨V.ref (s.heap.objs.size + 1), H', I3, rfl, q3⟩⟩
    | next => exact False.elim hq'
    | brk => exact False.elim hq'
    | cont => exact False.elim hq'
/-- at a new instance -/
theorem made_iSp {c : Nat} {F : List D → Res} {H : Hp} {S : Rg} {ds : List D} {ws : List V} {x dx : Addr} {Q : VK} {E : XK} (sz : ∀ a, S a → (H a).isSome = true) (ow : OwnL g H S 0 ds ws []) (nx : H x = none) (nd : H dx = none) (ne : dx ≠ x)
    (h : RF g xg H S (F ds) E Q) : iSp g xg c F (.ref x :: ws) (upd (upd H dx (.own x)) x (.ins (g.CA c) dx [])) (fun v H2 => v = .non ∧ Q (.ref x) H2) E := by
  have ext : Ext H (upd (upd H dx (.own x)) x (.ins (g.CA c) dx [])) := (Ext.new nd).trans (Ext.new (by rw [upd_ne ne.symm]; exact nx))
  have sx : ¬ S x := fun q => by have := sz x q; rw [nx] at this; cases this
  have szN : ∀ a, S a → ((upd (upd H dx (.own x)) x (.ins (g.CA c) dx [])) a).isSome = true := fun a q => by
    cases e : H a with
    | none => have := sz a q; rw [e] at this; cases this
    | some o => rw [ext a o e]; rfl
  refine ⟨S, ds, x, dx, ws, rfl, szN, upd_same, sx, ?_, ?_⟩
  · refine ow.keep ⟨(fun a ha => nomatch ha), fun a q => ⟨q, ?_⟩, fun a xs q => ext.rd q⟩
    have := sz a q
    cases e : H a with
    | none => rw [e] at this; cases this
    | some o => exact ext a o e
  cases e : F ds with
  | ok d n =>
    rw [e] at h
    intro H' S' T k1 k2 k3 k4 k5 k6 k7
    refine ⟨rfl, h (.ref x) H' S' T ⟨fun a o q => k1 a o (fun z => by rw [z, nx] at q; cases q) (ext a o q), k2, fun a q => ?_, k4, k5, k6, fun a q => ⟨?_, (k7 a q).2⟩⟩⟩
    · rcases k3 a q with z | z
      · exact .inl z
      · exact .inr (ext.back z)
    · rcases (k7 a q).1 with z | z
      · exact ext.back z
      · rw [z]; exact nx
  | exn x => rw [e] at h; exact fun cls dd H' k1 k2 => h cls dd H' (fun a o q => k1 a o (fun z => by rw [z, nx] at q; cases q) (ext a o q)) (k2.back fun _ z => ext.back z)
  | bad => rw [e] at h; exact h
theorem e_mk {x : Str} {p : Pos} {es : List Expr} {xs : List Ex} {c : Nat} (tk : Takes X W) (C : KCallee g xg X x c (Γ.ma c)) (hg : Gl X x) (hdb : (x == ("__debug__" : Str)) = false) (hs : es.all noStar = true) (hn : es.isEmpty = xs.isEmpty)
    (ha : PA X es (RdA g xg Γ W xs)) : PE X (.Call (.Name x p) es [] pos) (RdE g xg Γ W (.mk c xs)) := by
  obtain ⟨fa, fd, ps, k, F, hr, hm, M, hb⟩ := C.is
  refine ⟨fun pins s σ H Q I ⟨S, δ, rep, h⟩ => ?_⟩
  unfold evE at h
  refine wpAny_Call_Name_kw (ld_glob I hg hm ?_ hdb)
  cases es with
  | nil =>
    cases xs with
    | cons y ys => cases hn
    | nil =>
      unfold evL at h
      exact PySem.W.callWith_K0 I.kIn M.kp (run_makeS (E := WE W) (us := []) (vs := []) M F hr hb (passAt tk σ) I .nil fun x dx nx nd ne => made_iSp rep.sz OwnL.nil nx nd ne h)
  | cons e es =>
    simp only [List.all_cons, Bool.and_eq_true] at hs
    have hA : RdA g xg Γ W xs σ H fun vs H1 => ∀ x dx, H1 x = none → H1 dx = none → dx ≠ x → iSp g xg c (Γ.ma c) (.ref x :: vs) (upd (upd H1 dx (.own x)) x (.ins (g.CA c) dx [])) (fun v H2 => v = .non ∧ Q (.ref x) H2) (WE W σ) :=
      evL_rf rep h fun ds vs H1 S1 rep1 f1 ow h1 x dx nx nd ne => made_iSp rep1.sz ow nx nd ne h1
    refine PySem.W.callWith_K (h₀ := X.base) I.ok.mod.kin M.kp (thn (ha.run pos pins s σ H _ I hA) fun us s1 ⟨vs, H1, I1, r, q⟩ => ⟨I1.kIn, ?_⟩) (star_cons hs.1) (plain_any hs.2)
    exact run_makeS (E := WE W) M F hr hb (passAt tk σ) I1 r q
end
end PL
/-! PL7: built-ins, isinstance, slices, fields, tests. -/
namespace PL
open PySem L2 PyProof.Rows
section
variable {g : G} {xg : XG} {Γ : Fe} {X : Cx} {W : WX} {a b c : Expr} {xa xb xc : Ex} {pos : Pos}

/-! ### built-ins -/
def Bi.val : Bi → Value
  | .len => .builtin "len" | .abs => .builtin "abs" | .sum => .builtin "sum" | .max1 => .builtin "max" | .min1 => .builtin "min" | .max2 => .builtin "max" | .min2 => .builtin "min"
  | .list => .type "list" | .tuple => .type "tuple" | .str => .type "str" | .int => .type "int" | .all => .builtin "all" | .any => .builtin "any" | .sorted => .builtin "sorted" | .repr => .builtin "repr"
def rBi (g : G) (xg : XG) (W : Value → Option Addr → Hp → Prop) (b : Bi) : List V → Hp → VK → Prop := fun xs H Q => ∃ S ds, (∀ a, S a → (H a).isSome = true) ∧ OwnL g H S 0 ds xs [] ∧ RF g xg H S (biD b ds) W Q
theorem CallR.pick {f : Value} {r' : List V → Hp → VK → Prop} (k : ∀ xs H Q, r' xs H Q → ∃ r, CallR X f r ∧ r xs H Q) : CallR X f r' :=
  fun pins s σ H xs us Q I rx q => let ⟨_, h, z⟩ := k xs H Q q; h pins s σ H xs us Q I rx z
theorem own1 {H : Hp} {S : Rg} {d : D} {xs : List V} (o : OwnL g H S 0 [d] xs []) : ∃ v, xs = [v] ∧ Own g H S 0 d v [] := by
  unfold OwnL at o
  obtain ⟨x, ys, B, C, rfl, e, h1, h2⟩ := o
  have e1 := h1.zero
  subst e1
  unfold OwnL at h2
  rw [h2.1]
  exact ⟨x, rfl, h1⟩
theorem own2 {H : Hp} {S : Rg} {d e : D} {xs : List V} (o : OwnL g H S 0 [d, e] xs []) : ∃ v w, xs = [v, w] ∧ Own g H S 0 d v [] ∧ Own g H S 0 e w [] := by
  unfold OwnL at o
  obtain ⟨x, ys, B, C, rfl, e, h1, h2⟩ := o
  have e1 := h1.zero
  have e2 := h2.zero
  subst e1
  subst e2
  obtain ⟨w, rfl, h3⟩ := own1 h2
  exact ⟨x, w, rfl, h1, h3⟩
theorem ints_v {H : Hp} {S : Rg} : ∀ {l : List D} {ns : List Int} {xs : List V} {A : Fp} {n : Nat}, unI l = some ns → OwnL g H S n l xs A → xs = ns.map V.int
  | [], ns, _, _, _, h, o => by
    cases h
    unfold OwnL at o
    rw [o.1]
    rfl
  | d :: l, ns, _, _, _, h, o => by
    unfold OwnL at o
    obtain ⟨x, ys, B, C, rfl, rfl, h1, h2⟩ := o
    cases d <;> simp [unI] at h
    obtain ⟨ms, e1, rfl⟩ := h
    rw [own_int_v h1, ints_v e1 h2]
    rfl
theorem bls_v {H : Hp} {S : Rg} : ∀ {l : List D} {ns : List Bool} {xs : List V} {A : Fp} {n : Nat}, unB l = some ns → OwnL g H S n l xs A → xs = ns.map V.bl
  | [], ns, _, _, _, h, o => by
    cases h
    unfold OwnL at o
    rw [o.1]
    rfl
  | d :: l, ns, _, _, _, h, o => by
    unfold OwnL at o
    obtain ⟨x, ys, B, C, rfl, rfl, h1, h2⟩ := o
    cases d <;> simp [unB] at h
    obtain ⟨ms, e1, rfl⟩ := h
    rw [own_bl_v h1, bls_v e1 h2]
    rfl
theorem fold_max : ∀ (ns : List Int) (n : Int), ns.foldl max n ∈ n :: ns ∧ ∀ y ∈ n :: ns, y ≤ ns.foldl max n
  | [], n => ⟨List.mem_cons_self, fun y hy => by rcases List.mem_cons.mp hy with rfl | hy <;> first | exact Int.le_refl _ | cases hy⟩
  | k :: ns, n => by
    obtain ⟨h1, h2⟩ := fold_max ns (max n k)
    rw [List.foldl_cons]
    refine ⟨?_, fun y hy => ?_⟩
    · rcases List.mem_cons.mp h1 with h | h
      · rw [h]
        rcases Int.le_total n k with q | q
        · rw [Int.max_eq_right q]; simp
        · rw [Int.max_eq_left q]; simp
      · simp [h]
    · have h3 := h2 (max n k) List.mem_cons_self
      rcases List.mem_cons.mp hy with rfl | hy
      · exact Int.le_trans (Int.le_max_left _ _) h3
      · rcases List.mem_cons.mp hy with rfl | hy
        · exact Int.le_trans (Int.le_max_right _ _) h3
        · exact h2 y (List.mem_cons_of_mem _ hy)
theorem fold_min : ∀ (ns : List Int) (n : Int), ns.foldl min n ∈ n :: ns ∧ ∀ y ∈ n :: ns, ns.foldl min n ≤ y
  | [], n => ⟨List.mem_cons_self, fun y hy => by rcases List.mem_cons.mp hy with rfl | hy <;> first | exact Int.le_refl _ | cases hy⟩
  | k :: ns, n => by
    obtain ⟨h1, h2⟩ := fold_min ns (min n k)
    rw [List.foldl_cons]
    refine ⟨?_, fun y hy => ?_⟩
    · rcases List.mem_cons.mp h1 with h | h
      · rw [h]
        rcases Int.le_total n k with q | q
        · rw [Int.min_eq_left q]; simp
        · rw [Int.min_eq_right q]; simp
      · simp [h]
    · have h3 := h2 (min n k) List.mem_cons_self
      rcases List.mem_cons.mp hy with rfl | hy
      · exact Int.le_trans h3 (Int.min_le_left _ _)
      · rcases List.mem_cons.mp hy with rfl | hy
        · exact Int.le_trans h3 (Int.min_le_right _ _)
        · exact h2 y (List.mem_cons_of_mem _ hy)
theorem top_of {n m : Int} {ns : List Int} (hm : m ∈ n :: ns) (hle : ∀ y, y ∈ n :: ns → y ≤ m) : m = ns.foldl max n := by
  obtain ⟨h1, h2⟩ := fold_max ns n
  exact Int.le_antisymm (h2 m hm) (hle _ h1)
theorem bot_of {n m : Int} {ns : List Int} (hm : m ∈ n :: ns) (hle : ∀ y, y ∈ n :: ns → m ≤ y) : m = ns.foldl min n := by
  obtain ⟨h1, h2⟩ := fold_min ns n
  exact Int.le_antisymm (hle _ h1) (h2 m hm)
/-- sum of a tuple of ints -/
theorem cr_sumT (hc : X.calm = true) : CallR X (.builtin "sum") (fun vs H Q => ∃ (a : Addr) (ns : List Int), vs = [V.ref a] ∧ SqT X.K H a (ns.map V.int) ∧ Q (.int ns.sum) H) := by
  rintro pins s σ H vs us Q I r ⟨a, ns, rfl, hs, q⟩
  obtain ⟨ts, rv, ht, _⟩ := I.tuple hs
  rw [Vals.ref1 r]
  obtain ⟨xs, ex⟩ := rv.ints.allInts.items
  have hn : numsOf (intItems xs).toList = ns := ex ▸ rv.ints.numsOf
  rw [nums_intItems] at hn
  have ht2 : s.heap.IsTuple a (intItems xs) := ex ▸ ht
  refine PySem.W.ktm_sumG (I.ok.hd hc) ht2 fun h' tk t' hk => ?_
  rw [preSum_eq, List.take_of_length_le (by simp), hn]
  exact ⟨.int _, H, I.kept hk, ⟨_, rfl⟩, q⟩
theorem call_repr_non : CallR X (.builtin "repr") (fun xs H Q => xs = [.non] ∧ Q (.str "None") H) := by
  intro pins s σ H xs us Q I r h
  obtain ⟨rfl, q⟩ := h
  obtain ⟨u, rfl, ru⟩ := r.one
  cases ru
  exact PySem.P.repr_of_none ⟨.str "None", H, I.tok _, ⟨_, rfl⟩, q⟩
theorem bi_call (hK : g.K = X.K) (hc : X.calm = true) {W : Value → Option Addr → Hp → Prop} (b : Bi) : CallR X b.val (rBi g xg W b) := by
  refine CallR.pick fun xs H Q ⟨S, ds, sz, o, h⟩ => ?_
  unfold biD at h
  split at h
  · obtain ⟨v, rfl, o1⟩ := own1 o
    obtain ⟨a, xs, rfl, s, t, l1⟩ := own_lst_v o1
    refine ⟨_, call_len, _, xs.length, rfl, .inl ⟨xs, rdL t, rfl⟩, ?_⟩
    rw [l1.length]
    exact h.val sz own_int
  · obtain ⟨v, rfl, o1⟩ := own1 o
    obtain ⟨a, xs, rfl, t, l1⟩ := own_tup_v o1
    refine ⟨_, call_len, _, xs.length, rfl, .inr ⟨xs, by rw [← hK]; exact t, rfl⟩, ?_⟩
    rw [l1.length]
    exact h.val sz own_int
  · obtain ⟨v, rfl, o1⟩ := own1 o
    rw [own_str_v o1]
    split at h
    · rename_i z
      exact ⟨_, call_len, _, _, rfl, ⟨of_decide_eq_true z, rfl⟩, h.val sz own_int⟩
    · exact h.elim
  · obtain ⟨v, rfl, o1⟩ := own1 o
    rw [own_int_v o1]
    exact ⟨_, call_abs, _, rfl, h.val sz own_int⟩
  · obtain ⟨v, rfl, o1⟩ := own1 o
    obtain ⟨a, xs, rfl, s, t, l1⟩ := own_lst_v o1
    split at h
    · rename_i ns e
      have ex := ints_v e l1
      subst ex
      exact ⟨_, cr_sum hc, a, ns, rfl, rdL t, h.val sz own_int⟩
    · exact h.elim
  · obtain ⟨v, w, rfl, o1, o2⟩ := own2 o
    rw [own_int_v o1, own_int_v o2]
    exact ⟨_, call_max2 hc, _, _, rfl, h.val sz own_int⟩
  · obtain ⟨v, w, rfl, o1, o2⟩ := own2 o
    rw [own_int_v o1, own_int_v o2]
    exact ⟨_, call_min2 hc, _, _, rfl, h.val sz own_int⟩
  · obtain ⟨v, rfl, o1⟩ := own1 o
    obtain ⟨a, xs, rfl, s, t, l1⟩ := own_lst_v o1
    exact ⟨_, call_list_of, a, xs, rfl, .inl (rdL t), fun p hp => h.new (T := [p]) sz hp (.inl rfl) (own_lst upd_same (l1.laid sz hp))⟩
  · obtain ⟨v, rfl, o1⟩ := own1 o
    obtain ⟨a, xs, rfl, t, l1⟩ := own_tup_v o1
    exact ⟨_, call_list_of, a, xs, rfl, .inr (by rw [← hK]; exact t), fun p hp => h.new (T := [p]) sz hp (.inl rfl) (own_lst upd_same (l1.laid sz hp))⟩
  · obtain ⟨v, rfl, o1⟩ := own1 o
    obtain ⟨a, xs, rfl, s, t, l1⟩ := own_lst_v o1
    exact ⟨_, call_tuple_of, a, xs, rfl, .inl ⟨rdL t, fun p hp => h.new (T := []) sz hp (.inr rfl) (own_tup (.inl (.inl upd_same)) (l1.laid sz hp))⟩⟩
  · obtain ⟨v, rfl, o1⟩ := own1 o
    obtain ⟨a, xs, rfl, t, l1⟩ := own_tup_v o1
    exact ⟨_, call_tuple_of, a, xs, rfl, .inr ⟨by rw [← hK]; exact t, h.val sz o1⟩⟩
  · obtain ⟨v, rfl, o1⟩ := own1 o
    obtain ⟨a, xs, rfl, s, t, l1⟩ := own_lst_v o1
    split at h
    · rename_i ns e
      have ex := bls_v e l1
      subst ex
      exact ⟨_, cr_all hc, a, ns, rfl, rdL t, h.val sz own_bl⟩
    · exact h.elim
  · obtain ⟨v, rfl, o1⟩ := own1 o
    obtain ⟨a, xs, rfl, s, t, l1⟩ := own_lst_v o1
    split at h
    · rename_i ns e
      have ex := bls_v e l1
      subst ex
      exact ⟨_, cr_any hc, a, ns, rfl, rdL t, h.val sz own_bl⟩
    · exact h.elim
  · obtain ⟨v, rfl, o1⟩ := own1 o
    rw [own_int_v o1]
    split at h
    · rename_i z
      exact ⟨_, call_str_int, _, rfl, of_decide_eq_true z, h.val sz own_str⟩
    · exact h.elim
  · obtain ⟨v, rfl, o1⟩ := own1 o
    rw [own_int_v o1]
    exact ⟨_, call_int1, .inl ⟨_, rfl, h.val sz own_int⟩⟩
  · obtain ⟨v, rfl, o1⟩ := own1 o
    rw [own_bl_v o1]
    exact ⟨_, call_int1, .inr ⟨_, rfl, h.val sz own_int⟩⟩
  · obtain ⟨v, rfl, o1⟩ := own1 o
    obtain ⟨a, xs, rfl, s, t, l1⟩ := own_lst_v o1
    split at h
    · rename_i n ns e
      have ex := ints_v e l1
      subst ex
      refine ⟨_, cr_max hc, a, n :: ns, rfl, rdL t, Nat.succ_pos _, fun m hm hle => ?_⟩
      rw [top_of hm hle]
      exact h.val sz own_int
    · exact h.elim
  · obtain ⟨v, rfl, o1⟩ := own1 o
    obtain ⟨a, xs, rfl, s, t, l1⟩ := own_lst_v o1
    split at h
    · rename_i n ns e
      have ex := ints_v e l1
      subst ex
      refine ⟨_, cr_min hc, a, n :: ns, rfl, rdL t, Nat.succ_pos _, fun m hm hle => ?_⟩
      rw [bot_of hm hle]
      exact h.val sz own_int
    · exact h.elim
  · obtain ⟨v, rfl, o1⟩ := own1 o
    rw [own_int_v o1]
    split at h
    · rename_i z
      exact ⟨_, SkE.call_repr_int, _, rfl, of_decide_eq_true z, h.val sz own_str⟩
    · exact h.elim
  · obtain ⟨v, rfl, o1⟩ := own1 o
    rw [own_non_v o1]
    exact ⟨_, call_repr_non, rfl, h.val sz own_str⟩
  · obtain ⟨v, rfl, o1⟩ := own1 o
    obtain ⟨a, xs, rfl, t, l1⟩ := own_tup_v o1
    split at h
    · rename_i ns e
      have ex := ints_v e l1
      subst ex
      exact ⟨_, cr_sumT hc, a, ns, rfl, by rw [← hK]; exact t, h.val sz own_int⟩
    · exact h.elim
  · exact h.elim
theorem e_bi {x : Str} {p : Pos} {e : Expr} {es : List Expr} {y : Ex} {xs : List Ex} (hK : g.K = X.K) (hc : X.calm = true) (b : Bi) (hg : Gl X x) (hm : X.mg x = none) (hv : bootBuiltins x = some b.val) (hn : x ≠ "__name__") (hdb : (x == ("__debug__" : Str)) = false)
    (hs : (e :: es).all noStar = true) (ha : PA X (e :: es) (RdA g xg Γ W xs)) : PE X (.Call (.Name x p) (e :: es) [] pos) (RdE g xg Γ W (.bi b xs)) := by
  simp only [List.all_cons, Bool.and_eq_true] at hs
  refine PE.pick fun σ H Q ⟨S, δ, rep, h⟩ => ?_
  unfold evE at h
  have hA : RdA g xg Γ W xs σ H fun vs H1 => rBi g xg (fun c d H' => W c d σ H') b vs H1 Q := evL_rf rep h fun ds vs H1 S1 rep1 f1 ow h1 => ⟨S1, ds, rep1.sz, ow, h1⟩
  have hb : CallR X b.val (rBi g xg (fun c d H' => W c d σ H') b) := bi_call hK hc b
  cases hbv : b.val with
  | builtin id =>
    rw [hbv] at hb hv
    exact ⟨_, pe_callB hb hg hm hv ha hn hdb (star_cons hs.1) (plain_any hs.2), hA⟩
  | type T =>
    rw [hbv] at hb hv
    exact ⟨_, pe_callTy hb hg hm hv ha hn hdb (star_cons hs.1) (plain_any hs.2), hA⟩
  | _ => cases b <;> cases hbv

/-! ### methods of lists -/
def Bm.nm : Bm → Str
  | .count => "count" | .index => "index" | .get1 => "get" | .get2 => "get" | .join => "join" | .split => "split"
/-- how often a flat thing stands in a list of flat things -/
def rCntF (K : PySem.W.Frag) : V → List V → Hp → VK → Prop := fun x xs H Q => ∃ (p : Addr) (ys : List V) (y : V), x = .ref p ∧ xs = [y] ∧ SqL K H p ys ∧ flatV y = true ∧ ys.all flatV = true ∧ Q (.int (ys.countP fun z => eqV z y : Nat)) H
theorem count_eqU {y : V} : ∀ {ys : List V} {us : List Value}, Vals ys us → ys.all flatV = true → us.countP (eqU y) = ys.countP fun z => eqV z y
  | _, _, .nil, _ => rfl
  | z :: ys, u :: us, .cons r t, f => by
    rw [List.all_cons, Bool.and_eq_true] at f
    rw [List.countP_cons, List.countP_cons, count_eqU t f.2, eqU_of r f.1]
theorem mt_cntF {X : Cx} : MtR X "list.count" (rCntF X.K) := by
  intro pins s σ H x xs v us Q I rx rxs h
  obtain ⟨p, ys, y, rfl, rfl, hs, fy, fys, q⟩ := h
  cases rx
  obtain ⟨u, rfl, ru⟩ := rxs.one
  obtain ⟨its, rv, ⟨⟨cls, dd, data, sl⟩, n, ho, hc, hdn, hd⟩, hlen⟩ := I.list hs
  simp only at hc hd
  subst hc hd
  refine call_meets PySem.F.slot_list_count ⟨_, ho, rfl⟩ PySem.F.entry_list_count (PySem.F.args_list_count_2 _ _)
    (SeqAt.list_countAt p its.toArray n dd sl u (eqU y)) ⟨ho, fun u' hu' => mem_eqAt ru fy rv fys u' (by simpa using hu'), ?_⟩
  have ec : its.toArray.toList.countP (eqU y) = ys.countP fun z => eqV z y := count_eqU rv fys
  refine ⟨.int (ys.countP fun z => eqV z y : Nat), H, I.tok _, ⟨s.toks, ?_⟩, q⟩
  show Value.int ((its.toArray.toList.countP (eqU y) : Nat) : Int) s.toks = Value.int ((ys.countP fun z => eqV z y : Nat) : Int) s.toks
  rw [ec]
theorem count_D {y : D} {w : V} {H : Hp} {S : Rg} {m : Nat} {B : Fp} (hy : flatD y = true) (oy : Own g H S m y w B) : ∀ {l : List D} {xs : List V} {n : Nat} {A : Fp}, l.all flatD = true → OwnL g H S n l xs A → (xs.countP fun z => eqV z w) = l.countP fun e => eqD e y
  | [], _, _, _, _, o => by unfold OwnL at o; rw [o.1]; rfl
  | c :: cs, _, _, _, h, o => by
    unfold OwnL at o
    obtain ⟨x, ys, B, C, rfl, rfl, h1, h2⟩ := o
    simp only [List.all_cons, Bool.and_eq_true] at h
    rw [List.countP_cons, List.countP_cons, count_D hy oy h.2 h2, eqV_D h.1 hy h1 oy]
theorem index_D {y : D} {w : V} {H : Hp} {S : Rg} {m : Nat} {B : Fp} (hy : flatD y = true) (oy : Own g H S m y w B) : ∀ {l : List D} {xs : List V} {n : Nat} {A : Fp} {j : Nat}, l.all flatD = true → OwnL g H S n l xs A → (l.findIdx? fun e => eqD e y) = some j →
    ∃ z, xs[j]? = some z ∧ eqV z w = true ∧ ∀ (k : Nat) (z' : V), k < j → xs[k]? = some z' → eqV z' w = false
  | [], _, _, _, _, _, _, e => by cases e
  | c :: cs, _, _, _, j, h, o, e => by
    unfold OwnL at o
    obtain ⟨x, ys, B, C, rfl, rfl, h1, h2⟩ := o
    simp only [List.all_cons, Bool.and_eq_true] at h
    have e1 := eqV_D h.1 hy h1 oy
    rw [List.findIdx?_cons] at e
    cases ec : eqD c y with
    | true =>
      rw [ec] at e
      obtain rfl : 0 = j := Option.some.inj e
      exact ⟨x, rfl, by rw [e1, ec], fun k z' hk => absurd hk (by omega)⟩
    | false =>
      rw [ec] at e
      simp only [Bool.false_eq_true, if_false, Option.map_eq_some_iff] at e
      obtain ⟨i, e2, rfl⟩ := e
      obtain ⟨z, z1, z2, z3⟩ := index_D hy oy h.2 h2 e2
      refine ⟨z, z1, z2, fun k z' hk hz => ?_⟩
      cases k with
      | zero =>
        obtain rfl : x = z' := Option.some.inj hz
        rw [e1, ec]
      | succ k => exact z3 k z' (by omega) hz
theorem e_count {nm : Str} {apos : Pos} {es : List Expr} {e : Expr} {xs : List Ex} (hn : nm = "count") (h1 : noSuper a = true) (hs : (e :: es).all noStar = true) (h30 : (e :: es).length < 30) (hl : (apos.endLine == pos.line) = true)
    (ha : PE X a (RdE g xg Γ W xa)) (hb : PA X (e :: es) (RdA g xg Γ W xs)) (hK : g.K = X.K) : PE X (.Call (.Attribute a nm apos) (e :: es) [] pos) (RdE g xg Γ W (.bm .count xa xs)) := by
  subst hn
  have hs2 := hs
  simp only [List.all_cons, Bool.and_eq_true] at hs2
  refine (pe_bm PySem.F.plainAttrs_list PySem.F.slot_list_count PySem.F.type_list_count mt_cntF ha hb (attrBase h1) (plain_form hs h30) hl (star_cons hs2.1) (plain_any hs2.2)).imp fun σ H Q ⟨S, δ, rep, h⟩ => ?_
  unfold evE at h
  refine RdE.bind rep h fun d v H1 S1 rep1 f1 o1 h1 => ?_
  cases d with
  | lst l =>
    obtain ⟨r, ys, rfl, s, t, l1⟩ := own_lst_v o1
    refine ⟨.inl ⟨rfl, _, rdL t⟩, ?_⟩
    refine evL_rf rep1 h1 fun ds vs H2 S2 rep2 f2 ow h2 => ?_
    obtain ⟨r', ys', er, s', t', l2⟩ := own_lst_v (o1.fw f2 rep1.sz)
    cases er
    unfold bmD at h2
    split at h2
    · rename_i y _
      split at h2
      · rename_i z
        simp only [Bool.and_eq_true] at z
        obtain ⟨w, rfl, o3⟩ := own1 ow
        refine ⟨r, ys', w, rfl, rfl, rdL t', flat_v z.2 o3, flatL_v z.1 l2, ?_⟩
        rw [count_D z.2 o3 z.1 l2]
        exact h2.val rep2.sz own_int
      · exact h2.elim
    · contradiction
    · exact h2.elim
  | _ => exact h1.elim
theorem e_index {nm : Str} {apos : Pos} {es : List Expr} {e : Expr} {xs : List Ex} (hn : nm = "index") (h1 : noSuper a = true) (hs : (e :: es).all noStar = true) (h30 : (e :: es).length < 30) (hl : (apos.endLine == pos.line) = true)
    (ha : PE X a (RdE g xg Γ W xa)) (hb : PA X (e :: es) (RdA g xg Γ W xs)) (hK : g.K = X.K) : PE X (.Call (.Attribute a nm apos) (e :: es) [] pos) (RdE g xg Γ W (.bm .index xa xs)) := by
  subst hn
  have hs2 := hs
  simp only [List.all_cons, Bool.and_eq_true] at hs2
  refine (pe_bm PySem.F.plainAttrs_list PySem.F.slot_list_index PySem.F.type_list_index mt_index ha hb (attrBase h1) (plain_form hs h30) hl (star_cons hs2.1) (plain_any hs2.2)).imp fun σ H Q ⟨S, δ, rep, h⟩ => ?_
  unfold evE at h
  refine RdE.bind rep h fun d v H1 S1 rep1 f1 o1 h1 => ?_
  cases d with
  | lst l =>
    obtain ⟨r, ys, rfl, s, t, l1⟩ := own_lst_v o1
    refine ⟨.inl ⟨rfl, _, rdL t⟩, ?_⟩
    refine evL_rf rep1 h1 fun ds vs H2 S2 rep2 f2 ow h2 => ?_
    obtain ⟨r', ys', er, s', t', l2⟩ := own_lst_v (o1.fw f2 rep1.sz)
    cases er
    unfold bmD at h2
    split at h2
    · contradiction
    · rename_i y _
      split at h2
      · rename_i z
        simp only [Bool.and_eq_true] at z
        obtain ⟨w, rfl, o3⟩ := own1 ow
        split at h2
        · rename_i j ej
          obtain ⟨u, u1, u2, u3⟩ := index_D z.2 o3 z.1 l2 ej
          exact ⟨r, ys', w, j, u, rfl, rfl, rdL t', flat_v z.2 o3, flatL_v z.1 l2, u1, u2, u3, h2.val rep2.sz own_int⟩
        · exact h2.elim
      · exact h2.elim
    · exact h2.elim
  | _ => exact h1.elim

/-! ### isinstance -/
def Ty.name : Ty → String
  | .int => "int" | .bool => "bool" | .tuple => "tuple" | .list => "list" | .str => "str" | .dict => "dict" | .float => "float"
theorem isi_rule (hK : g.K = X.K) {H : Hp} {S : Rg} {d : D} {v : V} {t : Ty} {W : Value → Option Addr → Hp → Prop} {Q : VK} (sz : ∀ a, S a → (H a).isSome = true) (o : Own g H S 0 d v []) (h : RF g xg H S (isiD t d) W Q) : rIsi X.K [v, .ty t.name] H Q := by
  have key : ∀ (ty : String) (r : Bool), TyX X.K H v (.type ty) → kitB ty t.name = some r → isiD t d = .ok (.bl r) 0 → rIsi X.K [v, .ty t.name] H Q := fun ty r h1 h2 h3 => by
    rw [h3] at h
    exact ⟨v, .ty t.name, .type ty, .type t.name, r, rfl, .ty _, h1, kit_ty h2, h.val sz own_bl⟩
  cases d with
  | non => rw [own_non_v o] at key ⊢; cases t <;> exact key "NoneType" _ (.base .non) (by decide +kernel) rfl
  | bl x => rw [own_bl_v o] at key ⊢; cases t <;> exact key "bool" _ (.base (.bl x)) (by decide +kernel) rfl
  | int x => rw [own_int_v o] at key ⊢; cases t <;> exact key "int" _ (.base (.int x)) (by decide +kernel) rfl
  | str x => rw [own_str_v o] at key ⊢; cases t <;> exact key "str" _ (.base (.str x)) (by decide +kernel) rfl
  | tup l =>
    obtain ⟨a, xs, rfl, tt, l1⟩ := own_tup_v o
    have ty : TyX X.K H (.ref a) (.type "tuple") := by
      rw [hK] at tt
      rcases tt with (q | ⟨ob, q⟩) | ⟨ob, its, n, q, c, _⟩
      · exact .base (.tup q)
      · exact .fTuple q
      · exact .kTuple q c
    cases t <;> exact key "tuple" _ ty (by decide +kernel) rfl
  | lst l =>
    obtain ⟨a, xs, rfl, s, tt, l1⟩ := own_lst_v o
    have ty : TyX X.K H (.ref a) (.type "list") := by
      rcases tt with q | ⟨ob, q⟩
      · exact .base (.lst q)
      · exact .base (.frz q)
    cases t <;> exact key "list" _ ty (by decide +kernel) rfl
  | dct ks vs =>
    cases ks with
    | nil =>
      unfold Own at o
      obtain ⟨a, xs, rfl, s, tt, e, l1⟩ := o
      have ty : TyX X.K H (.ref a) (.type "dict") := by
        rcases tt with ⟨kk, e1, q | ⟨ob, q⟩⟩ | ⟨kk, e0, _⟩
        · exact .base (.dK q)
        · exact .fDict q
        · exact absurd rfl e0
      cases t <;> exact key "dict" _ ty (by decide +kernel) rfl
    | cons k ks => cases t <;> exact h.elim
  | obj _ _ _ => cases t <;> exact h.elim
  | exc _ _ => cases t <;> exact h.elim
theorem e_isi {x y : Str} {p p2 : Pos} (hK : g.K = X.K) (t : Ty) (hg : Gl X x) (hm : X.mg x = none) (hv : bootBuiltins x = some (.builtin "isinstance")) (hn : x ≠ "__name__") (hdb : (x == ("__debug__" : Str)) = false)
    (hg2 : Gl X y) (hm2 : X.mg y = none) (hv2 : bootBuiltins y = some (.type t.name)) (hn2 : y ≠ "__name__") (hdb2 : (y == ("__debug__" : Str)) = false) (hs : noStar a = true)
    (ha : PE X a (RdE g xg Γ W xa)) : PE X (.Call (.Name x p) [a, .Name y p2] [] pos) (RdE g xg Γ W (.isi xa t)) := by
  refine (pe_callB call_isi hg hm hv (pa_cons ha (pa_cons (pe_bltn (v := .ty t.name) hg2 hm2 hv2 rfl hn2 hdb2) pa_nil) (star_cons hs)) hn hdb (star_cons hs) rfl).imp fun σ H Q ⟨S, δ, rep, h⟩ => ?_
  unfold evE at h
  exact RdE.bind rep h fun d v H1 S1 rep1 f1 o1 h1 => isi_rule hK rep1.sz o1 h1

/-! ### slices -/
def RdO (g : G) (xg : XG) (Γ : Fe) (W : WX) (x : Ex) : TO := fun σ H Q => (x.isOmit = true ∧ Q none H) ∨ (x.isOmit = false ∧ RdE g xg Γ W x σ H fun v H1 => ∃ i, v = .int i ∧ Q (some i) H1)
theorem o_none : PO X none (RdO g xg Γ W .omit) := ⟨fun pins s σ H Q I h => po_none.run pins s σ H Q I (h.elim (fun h => h.2) fun h => Bool.noConfusion h.1)⟩
theorem o_some (hx : xa.isOmit = false) (ha : PE X a (RdE g xg Γ W xa)) : PO X (some a) (RdO g xg Γ W xa) :=
  ⟨fun pins s σ H Q I h => (po_some ha).run pins s σ H Q I (h.elim (fun h => by rw [hx] at h; exact Bool.noConfusion h.1) fun h => h.2)⟩
theorem optI_rf {σ : L2.St} {H : Hp} {S : Rg} {δ : Ev} {f : Option Int → Res} {Q : VK} {Q' : Option Int → Hp → Prop} (rep : Rep0 g H S δ σ) (h : RF g xg H S (optI (if xa.isOmit then none else some (evE Γ xa δ)) f) (fun c d H' => W c d σ H') Q)
    (k : ∀ i H1 S1, Rep0 g H1 S1 δ σ → Fw H H1 S S1 → RF g xg H1 S1 (f i) (fun c d H' => W c d σ H') Q → Q' i H1) : RdO g xg Γ W xa σ H Q' := by
  cases e : xa.isOmit with
  | true =>
    rw [e] at h
    exact .inl ⟨e, k none H S rep (Fw.refl rep.sz) h⟩
  | false =>
    rw [e] at h
    refine .inr ⟨e, RdE.bind rep h fun d v H1 S1 rep1 f1 o1 h1 => ?_⟩
    split at h1
    · exact ⟨_, own_int_v o1, k _ H1 S1 rep1 f1 h1⟩
    · exact h1.elim
theorem e_sl {lo hi : Option Expr} {xl xh : Ex} {p2 : Pos} (hK : g.K = X.K) (ha : PE X a (RdE g xg Γ W xa)) (hl : PO X lo (RdO g xg Γ W xl)) (hh : PO X hi (RdO g xg Γ W xh)) : PE X (.Subscript a (.Slice lo hi none p2) pos) (RdE g xg Γ W (.sl xa xl xh)) := by
  refine PE.pick fun σ H Q ⟨S, δ, rep, h⟩ => ⟨_, pe_slice (sl_sub (xg := xg) (W := fun c d H' => W c d σ H') hK) ha hl hh, ?_⟩
  unfold evE at h
  exact RdE.bind rep h fun d v H1 S1 rep1 f1 o1 h1 => optI_rf rep1 h1 fun i H2 S2 rep2 f2 h2 => optI_rf rep2 h2 fun j H3 S3 rep3 f3 h3 => ⟨S3, d, rep3.sz, (o1.fw f2 rep1.sz).fw f3 rep2.sz, h3⟩

/-! ### fields -/
theorem fld_own (inj : ∀ i j, g.AN i = g.AN j → i = j) {H : Hp} {S : Rg} {f : Nat} {d : D} : ∀ {ks : List Nat} {vs : List D} {xs : List V}, fldL f ks vs = some d → OwnL g H S 0 vs xs [] → ∃ v, ((ks.map g.AN).zip xs).lookup (g.AN f) = some v ∧ Own g H S 0 d v []
  | [], _, _, h, _ => by cases h
  | k :: ks, [], _, h, _ => by cases h
  | k :: ks, v :: vs, _, h, o => by
    unfold OwnL at o
    obtain ⟨x, ys, B, C, rfl, e, h1, h2⟩ := o
    have e1 := h1.zero
    have e2 := h2.zero
    subst e1
    subst e2
    unfold fldL at h
    show ∃ u, List.lookup (g.AN f) ((g.AN k, x) :: ((ks.map g.AN).zip ys)) = some u ∧ _
    rw [List.lookup_cons]
    by_cases hk : k = f
    · subst hk
      rw [if_pos rfl] at h
      cases h
      exact ⟨x, by simp, h1⟩
    · rw [if_neg hk] at h
      have : (g.AN f == g.AN k) = false := by
        rw [beq_eq_false_iff_ne]
        exact fun e => hk (inj _ _ e.symm)
      rw [this]
      exact fld_own inj h h2
theorem e_fld {f : Nat} {nm : Str} (hf : g.AN f = nm) (inj : ∀ i j, g.AN i = g.AN j → i = j) (C : ∀ c, Γ.fo c f = true → Cls X.K (g.CA c) ∧ NoAttr X.K (g.CA c) nm) (h1 : noSuper a = true) (ha : PE X a (RdE g xg Γ W xa)) :
    PE X (.Attribute a nm pos) (RdE g xg Γ W (.fld xa f)) := by
  refine (pe_fld ha (attrBase h1)).imp fun σ H Q ⟨S, δ, rep, h⟩ => ?_
  unfold evE at h
  refine RdE.bind rep h fun d v H1 S1 rep1 f1 o1 h1 => ?_
  unfold fldD at h1
  split at h1
  · rename_i c ks vs
    split at h1
    · rename_i hc
      obtain ⟨r, dx, ys, rfl, s1, e1, e2, o2⟩ := own_obj_v o1
      split at h1
      · rename_i d' e3
        obtain ⟨u, e4, o3⟩ := fld_own inj e3 o2
        exact ⟨r, _, dx, _, u, rfl, e1, (C c hc).1, (C c hc).2, by rw [← hf]; exact e4, h1.val rep1.sz o3⟩
      · exact h1.elim
    · exact h1.elim
  · exact h1.elim

/-! ### chains, conditional expressions -/
theorem e_cmp2 (hK : g.K = X.K) (hu : X.A.units + 64 < cLine) (o q : Cop) (h1 : noSet c = true) (ha : PE X a (RdE g xg Γ W xa)) (hb : PE X b (RdE g xg Γ W xb)) (hc : PE X c (RdE g xg Γ W xc)) : PE X (.Compare a [o.op, q.op] [b, c] pos) (RdE g xg Γ W (.cmp2 o q xa xb xc)) := by
  refine PE.pick fun σ H Q ⟨S, δ, rep, h⟩ => ⟨_, pe_chain (op_cmp (xg := xg) (W := fun c d H' => W c d σ H') hK hu o) (op_cmp (xg := xg) (W := fun c d H' => W c d σ H') hK hu q) ha hb hc (noMark h1), ?_⟩
  unfold evE at h
  refine RdE.bind rep h fun d v H1 S1 rep1 f1 o1 h1 => RdE.bind rep1 h1 fun d2 v2 H2 S2 rep2 f2 o2 h2 => ⟨S2, d, d2, rep2.sz, o1.fw f2 rep1.sz, o2, ?_⟩
  refine RF.bind rep2.sz h2 fun k n u H3 S3 _ f3 o3 h3 => ?_
  split at h3
  · rw [own_bl_v o3]
    exact ⟨true, rfl, iteT (RdE.bind (rep2.fw f3) h3 fun d4 v4 H4 S4 rep4 f4 o4 h4 => ⟨S4, d2, d4, rep4.sz, (o2.fw f3 rep2.sz).fw f4 f3.sz, o4, h4⟩)⟩
  · rw [own_bl_v o3]
    exact ⟨false, rfl, iteF (h3.val f3.sz own_bl)⟩
  · exact h3.elim
/-- a chain of three -/
def tChain3 (r r' r'' : R2) (ta tb tc td : TE) : TE := fun σ H Q => ta σ H fun x H1 => tb σ H1 fun y H2 => r x y H2 fun z H3 => ∃ k, z = .bl k ∧
  (if k = true then tc σ H3 fun w' H4 => r' y w' H4 fun z2 H5 => ∃ k2, z2 = .bl k2 ∧ (if k2 = true then td σ H5 fun u' H6 => r'' w' u' H6 Q else Q (.bl false) H5) else Q (.bl false) H3)
theorem pe_chain3 {op op' op'' : CmpOp} {r r' r'' : R2} {d : Expr} {ta tb tc td : TE} (ho : OpR X (compareOp op) r) (ho' : OpR X (compareOp op') r') (ho'' : OpR X (compareOp op'') r'') (ha : PE X a ta) (hb : PE X b tb) (hc : PE X c tc) (hd : PE X d td)
    (hm : lastMarks [op, op', op''] [b, c, d] = false) : PE X (.Compare a [op, op', op''] [b, c, d] pos) (tChain3 r r' r'' ta tb tc td) := by
  refine ⟨fun pins s σ H Q I h => ?_⟩
  refine Compare_chain (thn (ha.run pins s σ H _ I h) fun v s1 ⟨x, H1, I1, r1, q1⟩ => chain_link (thn (hb.run pins s1 σ H1 _ I1 q1) fun u s2 ⟨y, H2, I2, r2, q2⟩ =>
    thn (ho pins s2 σ H2 x y v u _ I2 r1 r2 q2) fun d s3 ⟨z, H3, I3, r3, k, e, q3⟩ => ?_)) hm
  subst e
  cases r3
  refine wpAny_truthy_bool ?_
  cases k with
  | false => exact ite_ff ⟨.bl false, H3, I3, rfl, q3⟩
  | true =>
    refine ite_tt (chain_link (thn (hc.run pins s3 σ H3 _ I3 q3) fun w' s4 ⟨z', H4, I4, r4, q4⟩ => thn (ho' pins s4 σ H4 y z' u w' _ I4 r2 r4 q4) fun d' s5 ⟨z2, H5, I5, r5, k2, e2, q5⟩ => ?_))
    subst e2
    cases r5
    refine wpAny_truthy_bool ?_
    cases k2 with
    | false => exact ite_ff ⟨.bl false, H5, I5, rfl, q5⟩
    | true => exact ite_tt (chain_last (thn (hd.run pins s5 σ H5 _ I5 q5) fun w2 s6 ⟨z3, H6, I6, r6, q6⟩ => ho'' pins s6 σ H6 z' z3 w' w2 Q I6 r4 r6 q6))
theorem pt_chain3 {op op' op'' : CmpOp} {r r' r'' : R2} {d : Expr} {ta tb tc td : TE} (ho : OpR X (compareOp op) r) (ho' : OpR X (compareOp op') r') (ho'' : OpR X (compareOp op'') r'') (ha : PE X a ta) (hb : PE X b tb) (hc : PE X c tc) (hd : PE X d td)
    (hm : lastMarks [op, op', op''] [b, c, d] = false) : PT X (.Compare a [op, op', op''] [b, c, d] pos) (tTest (tChain3 r r' r'' ta tb tc td)) := by
  refine ⟨fun pins s σ H Q I h => ?_⟩
  refine isTrue_chain (thn (ha.run pins s σ H _ I h) fun v s1 ⟨x, H1, I1, r1, q1⟩ => test_link (thn (hb.run pins s1 σ H1 _ I1 q1) fun u s2 ⟨y, H2, I2, r2, q2⟩ =>
    thn (ho pins s2 σ H2 x y v u _ I2 r1 r2 q2) fun d s3 ⟨z, H3, I3, r3, k, e, q3⟩ => ?_)) hm
  subst e
  cases r3
  refine wpAny_truthy_bool ?_
  cases k with
  | false =>
    obtain ⟨k', e', q'⟩ := q3
    cases e'
    exact ite_ff ⟨H3, I3, q'⟩
  | true =>
    refine ite_tt (test_link (thn (hc.run pins s3 σ H3 _ I3 q3) fun w' s4 ⟨z', H4, I4, r4, q4⟩ => thn (ho' pins s4 σ H4 y z' u w' _ I4 r2 r4 q4) fun d' s5 ⟨z2, H5, I5, r5, k2, e2, q5⟩ => ?_))
    subst e2
    cases r5
    refine wpAny_truthy_bool ?_
    cases k2 with
    | false =>
      obtain ⟨k', e', q'⟩ := q5
      cases e'
      exact ite_ff ⟨H5, I5, q'⟩
    | true =>
      refine ite_tt (test_last (thn (hd.run pins s5 σ H5 _ I5 q5) fun w2 s6 ⟨z3, H6, I6, r6, q6⟩ => thn (ho'' pins s6 σ H6 z' z3 w' w2 _ I6 r4 r6 q6) fun d2 s7 ⟨z4, H7, I7, r7, k3, e3, q7⟩ => ?_))
      subst e3
      cases r7
      exact wpAny_truthy_bool ⟨H7, I7, q7⟩
theorem e_cmp3 {d : Expr} {xd : Ex} (hK : g.K = X.K) (hu : X.A.units + 64 < cLine) (o q q2 : Cop) (h1 : noSet d = true) (ha : PE X a (RdE g xg Γ W xa)) (hb : PE X b (RdE g xg Γ W xb)) (hc : PE X c (RdE g xg Γ W xc)) (hd : PE X d (RdE g xg Γ W xd)) : PE X (.Compare a [o.op, q.op, q2.op] [b, c, d] pos) (RdE g xg Γ W (.cmp3 o q q2 xa xb xc xd)) := by
  refine PE.pick fun σ H Q ⟨S, δ, rep, h⟩ => ⟨_, pe_chain3 (op_cmp (xg := xg) (W := fun c d H' => W c d σ H') hK hu o) (op_cmp (xg := xg) (W := fun c d H' => W c d σ H') hK hu q) (op_cmp (xg := xg) (W := fun c d H' => W c d σ H') hK hu q2) ha hb hc hd (noMark h1), ?_⟩
  unfold evE at h
  refine RdE.bind rep h fun d v H1 S1 rep1 f1 o1 h1 => RdE.bind rep1 h1 fun d2 v2 H2 S2 rep2 f2 o2 h2 => ⟨S2, d, d2, rep2.sz, o1.fw f2 rep1.sz, o2, ?_⟩
  refine RF.bind rep2.sz h2 fun k n u H3 S3 _ f3 o3 h3 => ?_
  split at h3
  · rw [own_bl_v o3]
    refine ⟨true, rfl, iteT (RdE.bind (rep2.fw f3) h3 fun d4 v4 H4 S4 rep4 f4 o4 h4 => ⟨S4, d2, d4, rep4.sz, (o2.fw f3 rep2.sz).fw f4 f3.sz, o4, ?_⟩)⟩
    refine RF.bind rep4.sz h4 fun k2 n2 u2 H5 S5 _ f5 o5 h5 => ?_
    split at h5
    · rw [own_bl_v o5]
      exact ⟨true, rfl, iteT (RdE.bind (rep4.fw f5) h5 fun d6 v6 H6 S6 rep6 f6 o6 h6 => ⟨S6, d4, d6, rep6.sz, (o4.fw f5 rep4.sz).fw f6 f5.sz, o6, h6⟩)⟩
    · rw [own_bl_v o5]
      exact ⟨false, rfl, iteF (h5.val f5.sz own_bl)⟩
    · exact h5.elim
  · rw [own_bl_v o3]
    exact ⟨false, rfl, iteF (h3.val f3.sz own_bl)⟩
  · exact h3.elim
/-! ### list(range(..)) -/
theorem ownN_ints {H : Hp} {S : Rg} : ∀ l : List Int, OwnN g H S (l.map fun i => (D.int i, 9)) (l.map V.int) []
  | [] => by unfold OwnN; exact ⟨rfl, rfl⟩
  | i :: l => by
    rw [List.map_cons, List.map_cons]
    unfold OwnN
    exact ⟨_, _, [], [], rfl, rfl, own_int, ownN_ints l⟩
theorem dep_ints9 : ∀ l : List Int, dep (l.map fun i => (D.int i, 9)) = 9
  | [] => rfl
  | i :: l => by
    rw [List.map_cons]
    unfold dep
    rw [dep_ints9 l]
    rfl
theorem lrng_rf {H : Hp} {S : Rg} {x y : D} {v w : V} {W : Value → Option Addr → Hp → Prop} {Q : VK} (sz : ∀ a, S a → (H a).isSome = true) (ox : Own g H S 0 x v []) (oy : Own g H S 0 y w []) (h : RF g xg H S (lrngD x y) W Q) :
    ∃ i j, v = .int i ∧ w = .int j ∧ RgOk i j ∧ ∀ q, H q = none → Q (.ref q) (upd H q (.lst (rgV i j))) := by
  unfold lrngD at h
  split at h
  · rename_i i j
    split at h
    · rename_i z
      simp only [Bool.and_eq_true, decide_eq_true_eq] at z
      obtain ⟨⟨z1, z2⟩, z3⟩ := z
      have b1 := small_bd z1
      have b2 := small_bd z2
      have e24 : szLine = 2 ^ 24 := by rw [szLine_eq, sizeLine_eq]
      refine ⟨i, j, own_int_v ox, own_int_v oy, ⟨by omega, by omega, by omega, by omega, by omega⟩, fun q hq => ?_⟩
      obtain ⟨l, hl⟩ : ∃ l : List Int, l = (List.range (j - i).toNat).map fun k : Nat => i + (k : Int) := ⟨_, rfl⟩
      have e1 : rgV i j = l.map V.int := by rw [hl, List.map_map]; rfl
      have e2 : rngD i (j - i).toNat = l.map D.int := by rw [hl, List.map_map]; rfl
      obtain ⟨S2, T, o⟩ := lay_lst (p := q) (Fw.refl sz) (ownN_ints (g := g) (S := S) l) List.nodup_nil (fun a z => nomatch z) hq
      rw [dep_ints9, List.map_map] at o
      rw [e2] at h
      rw [e1]
      exact h _ _ _ _ o
    · exact h.elim
  · exact h.elim
theorem e_lrng {p p2 pos2 : Pos} (hc : X.calm = true) (hg : Gl X "list") (hm : X.mg "list" = none) (hg2 : Gl X "range") (hm2 : X.mg "range" = none) (hsa : noStar a = true) (hsb : noStar b = true) (ha : PE X a (RdE g xg Γ W xa)) (hb : PE X b (RdE g xg Γ W xb)) :
    PE X (.Call (.Name "list" p) [.Call (.Name "range" p2) [a, b] [] pos2] [] pos) (RdE g xg Γ W (.lrng xa xb)) :=
  (pe_listRg hc hg hm (prg_2 hg2 hm2 ha hb (star_cons hsa) (star_cons hsb) (plain_any (by simp [hsb]))) (star_cons rfl)).imp fun σ H Q ⟨S, δ, rep, h⟩ => by
    unfold evE at h
    refine RdE.bind rep h fun d v H1 S1 rep1 f1 o1 h1 => RdE.bind rep1 h1 fun d2 v2 H2 S2 rep2 f2 o2 h2 => ?_
    obtain ⟨i, j, e1, e2, r, q⟩ := lrng_rf rep2.sz (o1.fw f2 rep1.sz) o2 h2
    exact ⟨i, j, e1, e2, r, q⟩
theorem e_lrng1 {p p2 pos2 : Pos} (hc : X.calm = true) (hg : Gl X "list") (hm : X.mg "list" = none) (hg2 : Gl X "range") (hm2 : X.mg "range" = none) (hsa : noStar a = true) (ha : PE X a (RdE g xg Γ W xa)) :
    PE X (.Call (.Name "list" p) [.Call (.Name "range" p2) [a] [] pos2] [] pos) (RdE g xg Γ W (.lrng1 xa)) :=
  (pe_listRg hc hg hm (prg_1 hg2 hm2 ha (star_cons hsa)) (star_cons rfl)).imp fun σ H Q ⟨S, δ, rep, h⟩ => by
    unfold evE at h
    refine RdE.bind rep h fun d v H1 S1 rep1 f1 o1 h1 => ?_
    obtain ⟨i, j, e1, e2, r, q⟩ := lrng_rf rep1.sz own_int o1 h1
    cases e1
    exact ⟨j, e2, r, q⟩
/-- {} -/
theorem e_dct0 : PE X (.Dict [] [] pos) (RdE g xg Γ W .dct0) := pe_dnewK.imp fun σ H Q ⟨S, δ, rep, h⟩ p hp => by
  unfold evE at h
  obtain ⟨S2, B, k⟩ := lay_core (g := g) (o := .dK []) (l := []) (vs := []) (A := []) (Fw.refl rep.sz) (by unfold OwnN; exact ⟨rfl, rfl⟩) List.nodup_nil (fun a q => nomatch q) hp
  refine h _ _ _ _ (k 9 (.dct [] []) (p :: B) (fun L => ?_) (.inr rfl))
  have eB : B = [] := by unfold OwnL at L; exact L.2
  subst eB
  unfold Own
  exact ⟨p, [], [], rfl, .inl ⟨[], rfl, upd_same⟩, rfl, rfl, by unfold OwnL; exact ⟨rfl, rfl⟩⟩
theorem RFT.bindF {σ : L2.St} {H : Hp} {S : Rg} {δ : Ev} {f : Bool → Res} {Q : VK} {Q' : Bool → Hp → Prop} (rep : Rep0 g H S δ σ) (h : RF g xg H S ((evT Γ xa δ).bind f) (fun c d H' => W c d σ H') Q)
    (k : ∀ b H1 S1, Rep0 g H1 S1 δ σ → Fw H H1 S S1 → RF g xg H1 S1 (f b) (fun c d H' => W c d σ H') Q → Q' b H1) : RdT g xg Γ W xa σ H Q' := by
  refine ⟨S, δ, rep, ?_⟩
  cases e : evT Γ xa δ with
  | ok b => rw [e] at h; exact fun H' S' f1 => k b H' S' (rep.fw f1) f1 (RF.fw f1 h)
  | exn x => rw [e] at h; exact h
  | bad => rw [e] at h; exact h
theorem e_ife (hc : PT X c (RdT g xg Γ W xc)) (ha : PE X a (RdE g xg Γ W xa)) (hb : PE X b (RdE g xg Γ W xb)) : PE X (.IfExp c a b pos) (RdE g xg Γ W (.ife xc xa xb)) :=
  (pe_ifExp hc ha hb).imp fun σ H Q ⟨S, δ, rep, h⟩ => by
    unfold evE at h
    refine RFT.bindF (xa := xc) rep h fun k H1 S1 rep1 f1 h1 => ?_
    cases k with
    | true => exact iteT ⟨S1, δ, rep1, h1⟩
    | false => exact iteF ⟨S1, δ, rep1, h1⟩

/-! ### tests -/
theorem RFT.bindTT {σ : L2.St} {H : Hp} {S : Rg} {δ : Ev} {f : D → RT} {Q : Bool → Hp → Prop} {Q' : VK} (rep : Rep0 g H S δ σ) (h : RFT g xg H S ((evE Γ xa δ).bindT f) (fun c d H' => W c d σ H') Q)
    (k : ∀ d v H1 S1, Rep0 g H1 S1 δ σ → Fw H H1 S S1 → Own g H1 S1 0 d v [] → RFT g xg H1 S1 (f d) (fun c d H' => W c d σ H') Q → Q' v H1) : RdE g xg Γ W xa σ H Q' :=
  ⟨S, δ, rep, RFT.bind rep.sz h fun d n v H1 S1 _ f1 o1 h1 => k d v H1 S1 (rep.fw f1) f1 o1 h1⟩
theorem bindT_bind (r : Res) (f : D → Res) (k : D → RT) : (r.bind f).bindT k = r.bindT fun d => (f d).bindT k := by cases r <;> rfl
/-- a comparison's end as a test -/
theorem tst_of {H : Hp} {S : Rg} {r : Res} {W : Value → Option Addr → Hp → Prop} {Q : Bool → Hp → Prop} (sz : ∀ a, S a → (H a).isSome = true) (hr : ∀ d n, r = .ok d n → ∃ k, d = .bl k) (h : RFT g xg H S (r.bindT truD) W Q) :
    RF g xg H S r W fun x H' => ∃ k, x = .bl k ∧ Q k H' := by
  cases r with
  | ok d n =>
    obtain ⟨k, rfl⟩ := hr d n rfl
    intro v H' S' T o
    exact ⟨k, own_bl_v o.own, h H' S' o.fw⟩
  | exn e => exact h
  | bad => exact h
theorem cmpD_bl {o : Cop} {x y d : D} {n : Nat} (h : cmpD o x y = .ok d n) : ∃ k, d = .bl k := by
  unfold cmpD at h
  split at h <;> first
    | (cases h; exact ⟨_, rfl⟩)
    | (split at h <;> first | (cases h; exact ⟨_, rfl⟩) | cases h)
    | cases h
theorem t_cmp (hK : g.K = X.K) (hu : X.A.units + 64 < cLine) (o : Cop) (hs : noSet b = true) (ha : PE X a (RdE g xg Γ W xa)) (hb : PE X b (RdE g xg Γ W xb)) : PT X (.Compare a [o.op] [b] pos) (RdT g xg Γ W (.cmp o xa xb)) := by
  refine ⟨fun pins s σ H Q I ⟨S, δ, rep, h⟩ => (pt_cmpR (op_cmp (xg := xg) (W := fun c d H' => W c d σ H') hK hu o) ha hb (noMark hs)).run pins s σ H Q I ?_⟩
  unfold evT evE at h
  rw [bindT_bind] at h
  refine RFT.bindTT rep h fun d v H1 S1 rep1 f1 o1 h1 => ?_
  rw [bindT_bind] at h1
  exact RFT.bindTT rep1 h1 fun d2 v2 H2 S2 rep2 f2 o2 h2 => ⟨S2, d, d2, rep2.sz, o1.fw f2 rep1.sz, o2, tst_of rep2.sz (fun _ _ e => cmpD_bl e) h2⟩
theorem t_cmp2 (hK : g.K = X.K) (hu : X.A.units + 64 < cLine) (o q : Cop) (h1 : noSet c = true) (ha : PE X a (RdE g xg Γ W xa)) (hb : PE X b (RdE g xg Γ W xb)) (hc : PE X c (RdE g xg Γ W xc)) : PT X (.Compare a [o.op, q.op] [b, c] pos) (RdT g xg Γ W (.cmp2 o q xa xb xc)) := by
  refine ⟨fun pins s σ H Q I ⟨S, δ, rep, h⟩ => (pt_chain (op_cmp (xg := xg) (W := fun c d H' => W c d σ H') hK hu o) (op_cmp (xg := xg) (W := fun c d H' => W c d σ H') hK hu q) ha hb hc (noMark h1)).run pins s σ H Q I ?_⟩
  unfold evT evE at h
  rw [bindT_bind] at h
  refine RFT.bindTT rep h fun d v H1 S1 rep1 f1 o1 h1 => ?_
  rw [bindT_bind] at h1
  refine RFT.bindTT rep1 h1 fun d2 v2 H2 S2 rep2 f2 o2 h2 => ⟨S2, d, d2, rep2.sz, o1.fw f2 rep1.sz, o2, ?_⟩
  rw [bindT_bind] at h2
  refine RFT.bind rep2.sz h2 fun k n u H3 S3 _ f3 o3 h3 => ?_
  split at h3
  · rw [own_bl_v o3]
    refine ⟨true, rfl, iteT ?_⟩
    rw [bindT_bind] at h3
    exact RFT.bindTT (rep2.fw f3) h3 fun d4 v4 H4 S4 rep4 f4 o4 h4 => ⟨S4, d2, d4, rep4.sz, (o2.fw f3 rep2.sz).fw f4 f3.sz, o4, tst_of rep4.sz (fun _ _ e => cmpD_bl e) h4⟩
  · rw [own_bl_v o3]
    exact ⟨false, rfl, iteF ⟨false, rfl, h3 H3 S3 (Fw.refl f3.sz)⟩⟩
  · exact h3.elim
theorem t_cmp3 {d : Expr} {xd : Ex} (hK : g.K = X.K) (hu : X.A.units + 64 < cLine) (o q q2 : Cop) (h1 : noSet d = true) (ha : PE X a (RdE g xg Γ W xa)) (hb : PE X b (RdE g xg Γ W xb)) (hc : PE X c (RdE g xg Γ W xc)) (hd : PE X d (RdE g xg Γ W xd)) : PT X (.Compare a [o.op, q.op, q2.op] [b, c, d] pos) (RdT g xg Γ W (.cmp3 o q q2 xa xb xc xd)) := by
  refine ⟨fun pins s σ H Q I ⟨S, δ, rep, h⟩ => (pt_chain3 (op_cmp (xg := xg) (W := fun c d H' => W c d σ H') hK hu o) (op_cmp (xg := xg) (W := fun c d H' => W c d σ H') hK hu q) (op_cmp (xg := xg) (W := fun c d H' => W c d σ H') hK hu q2) ha hb hc hd (noMark h1)).run pins s σ H Q I ?_⟩
  unfold evT evE at h
  rw [bindT_bind] at h
  refine RFT.bindTT rep h fun d v H1 S1 rep1 f1 o1 h1 => ?_
  rw [bindT_bind] at h1
  refine RFT.bindTT rep1 h1 fun d2 v2 H2 S2 rep2 f2 o2 h2 => ⟨S2, d, d2, rep2.sz, o1.fw f2 rep1.sz, o2, ?_⟩
  rw [bindT_bind] at h2
  refine RFT.bind rep2.sz h2 fun k n u H3 S3 _ f3 o3 h3 => ?_
  split at h3
  · rw [own_bl_v o3]
    refine ⟨true, rfl, iteT ?_⟩
    rw [bindT_bind] at h3
    refine RFT.bindTT (rep2.fw f3) h3 fun d4 v4 H4 S4 rep4 f4 o4 h4 => ⟨S4, d2, d4, rep4.sz, (o2.fw f3 rep2.sz).fw f4 f3.sz, o4, ?_⟩
    rw [bindT_bind] at h4
    refine RFT.bind rep4.sz h4 fun k2 n2 u2 H5 S5 _ f5 o5 h5 => ?_
    split at h5
    · rw [own_bl_v o5]
      refine ⟨true, rfl, iteT ?_⟩
      rw [bindT_bind] at h5
      exact RFT.bindTT (rep4.fw f5) h5 fun d6 v6 H6 S6 rep6 f6 o6 h6 => ⟨S6, d4, d6, rep6.sz, (o4.fw f5 rep4.sz).fw f6 f5.sz, o6, tst_of rep6.sz (fun _ _ e => cmpD_bl e) h6⟩
    · rw [own_bl_v o5]
      exact ⟨false, rfl, iteF ⟨false, rfl, h5 H5 S5 (Fw.refl f5.sz)⟩⟩
    · exact h5.elim
  · rw [own_bl_v o3]
    exact ⟨false, rfl, iteF ⟨false, rfl, h3 H3 S3 (Fw.refl f3.sz)⟩⟩
  · exact h3.elim
theorem t_not (ha : PT X a (RdT g xg Γ W xa)) : PT X (.UnaryOp .Not a pos) (RdT g xg Γ W (.not xa)) :=
  (pt_not ha).imp fun σ H Q ⟨S, δ, rep, h⟩ => by
    refine ⟨S, δ, rep, ?_⟩
    unfold evT evE at h
    unfold evT
    cases e : evE Γ xa δ with
    | ok d n =>
      rw [e] at h
      simp only [Res.bind_ok] at h
      split at h
      · exact fun H' S' f => h H' S' f
      · exact h.elim
    | exn x => rw [e] at h; exact h
    | bad => rw [e] at h; exact h
theorem t_and {rest : List Expr} (ha : PT X a (RdT g xg Γ W xa)) (hb : PW X (.BoolOp .And (b :: rest) pos) (RdT g xg Γ W xb)) : PW X (.BoolOp .And (a :: b :: rest) pos) (RdT g xg Γ W (.and xa xb)) := by
  refine ⟨fun wh pins s σ H Q I ⟨S, δ, rep, h⟩ => (pw_and ha hb).run wh pins s σ H Q I ⟨S, δ, rep, ?_⟩⟩
  unfold evT evE at h
  unfold evT
  cases e : evE Γ xa δ with
  | ok d n =>
    rw [e] at h
    simp only [Res.bind_ok] at h
    split at h
    · exact fun H' S' f => iteT ⟨S', δ, rep.fw f, RFT.fw f h⟩
    · exact fun H' S' f => iteF (h H' S' f)
    · exact h.elim
  | exn x => rw [e] at h; exact h
  | bad => rw [e] at h; exact h
theorem t_or {rest : List Expr} (ha : PT X a (RdT g xg Γ W xa)) (hb : PW X (.BoolOp .Or (b :: rest) pos) (RdT g xg Γ W xb)) : PW X (.BoolOp .Or (a :: b :: rest) pos) (RdT g xg Γ W (.or xa xb)) := by
  refine ⟨fun wh pins s σ H Q I ⟨S, δ, rep, h⟩ => (pw_or ha hb).run wh pins s σ H Q I ⟨S, δ, rep, ?_⟩⟩
  unfold evT evE at h
  unfold evT
  cases e : evE Γ xa δ with
  | ok d n =>
    rw [e] at h
    simp only [Res.bind_ok] at h
    split at h
    · exact fun H' S' f => iteT (h H' S' f)
    · exact fun H' S' f => iteF ⟨S', δ, rep.fw f, RFT.fw f h⟩
    · exact h.elim
  | exn x => rw [e] at h; exact h
  | bad => rw [e] at h; exact h

/-! ### the module's constants -/
theorem e_glo {x : Str} {k : Nat} {v : V} {u : Value} (hg : Gl X x) (hm : X.mg x = some u) (r : RelV v u) (hd : (x == ("__debug__" : Str)) = false) (ho : ∀ H S, Own g H S 0 (Γ.gl k) v []) : PE X (.Name x pos) (RdE g xg Γ W (.glo k)) :=
  (pe_glob hg hm r hd).imp fun σ H Q ⟨S, δ, rep, h⟩ => by unfold evE at h; exact h.val rep.sz (ho H S)
end
end PL
/-! PL8: what is walked; targets; comprehensions. -/
namespace PL
open PySem L2 PyProof.Rows
section
variable {g : G} {xg : XG} {Γ : Fe} {X : Cx} {W : WX} {a b c : Expr} {xa xb xc : Ex} {pos : Pos}

/-- the region's nodes and the tuples are as they were -/
structure Kz (H H' : Hp) (S : Rg) : Prop where
  frz : ∀ a, S a → H' a = H a
  tup : ∀ a xs, Rd H a (.tup xs) → Rd H' a (.tup xs)
theorem Kz.own {H H' : Hp} {S : Rg} {d : D} {v : V} (k : Kz H H' S) (o : Own g H S 0 d v []) : Own g H' S 0 d v [] := o.keep ⟨(fun a h => nomatch h), fun a q => ⟨q, k.frz a q⟩, k.tup⟩
theorem Kz.ownL {H H' : Hp} {S : Rg} {d : List D} {v : List V} (k : Kz H H' S) (o : OwnL g H S 0 d v []) : OwnL g H' S 0 d v [] := o.keep ⟨(fun a h => nomatch h), fun a q => ⟨q, k.frz a q⟩, k.tup⟩
theorem Kz.refl {H : Hp} {S : Rg} : Kz H H S := ⟨fun _ _ => rfl, fun _ _ q => q⟩
/-- J walks the items xs -/
def Wk (g : G) (J : It) (S : Rg) (H1 : Hp) (xs : List D) : Prop := ∃ (Gd : Hp → Prop) (Y : Nat → Hp → V → Hp → Prop), Walk J xs.length Gd Y ∧ (∀ H', Kz H1 H' S → Gd H') ∧
  ∀ i x H' H'', i < xs.length → Kz H1 H' S → (∀ a, S a → (H' a).isSome = true) → Y i H' x H'' → ∃ d, xs[i]? = some d ∧ (H'' = H' ∨ ∃ p o, H' p = none ∧ H'' = upd H' p o) ∧ Own g H'' S 0 d x []
theorem wk_list {H : Hp} {S : Rg} {l : List D} {xs : List V} {r : Addr} (s : S r) (t : Rd H r (.lst xs)) (o : OwnL g H S 0 l xs []) : Wk g (Itl X.K r) S H l := by
  have e := o.length
  refine ⟨_, _, e ▸ walk_list (K := X.K) (a := r) (xs := xs), fun H' k => rdL (by unfold Rd; rw [k.frz r s]; exact t), fun i x H' H'' hi k _ ⟨e1, e2⟩ => ?_⟩
  subst e1
  obtain ⟨y, B, h1, h2, _⟩ := (k.ownL o).get (i := i) (d := l[i]) (List.getElem?_eq_getElem hi)
  have := h2.zero
  subst this
  rw [e2] at h1
  cases h1
  exact ⟨_, List.getElem?_eq_getElem hi, .inl rfl, h2⟩
theorem wk_tup {H : Hp} {S : Rg} {l : List D} {xs : List V} {r : Addr} (t : SqT X.K H r xs) (o : OwnL g H S 0 l xs []) : Wk g (Itt X.K r) S H l := by
  have e := o.length
  refine ⟨_, _, e ▸ walk_tup (K := X.K) (a := r) (xs := xs), fun H' k => t.elim (fun t => .inl (k.tup _ _ t)) .inr, fun i x H' H'' hi k _ ⟨e1, e2⟩ => ?_⟩
  subst e1
  obtain ⟨y, B, h1, h2, _⟩ := (k.ownL o).get (i := i) (d := l[i]) (List.getElem?_eq_getElem hi)
  have := h2.zero
  subst this
  rw [e2] at h1
  cases h1
  exact ⟨_, List.getElem?_eq_getElem hi, .inl rfl, h2⟩
theorem wk_range {H : Hp} {S : Rg} {lo : Int} {n : Nat} : Wk g (Itr lo n) S H (rngD lo n) := by
  have e : (rngD lo n).length = n := by unfold rngD; rw [List.length_map, List.length_range]
  refine ⟨fun _ => True, YFn fun i => .int (lo + i), by rw [e]; exact walk_range, fun _ _ => trivial, fun i x H' H'' hi k _ ⟨e1, e2⟩ => ?_⟩
  subst e1
  subst e2
  rw [e] at hi
  refine ⟨.int (lo + i), ?_, .inl rfl, own_int⟩
  unfold rngD
  rw [List.getElem?_map, List.getElem?_range hi]
  rfl
theorem wk_enum {H : Hp} {S : Rg} {l : List D} {xs : List V} {r : Addr} (s : S r) (t : Rd H r (.lst xs)) (o : OwnL g H S 0 l xs []) : Wk g (Ite X.K r) S H (l.zipIdx.map fun p => .tup [.int (p.2 : Nat), p.1]) := by
  have e := o.length
  have e0 : (l.zipIdx.map fun p => D.tup [.int (p.2 : Nat), p.1]).length = xs.length := by rw [List.length_map, List.length_zipIdx, e]
  refine ⟨_, _, e0.symm ▸ walk_enum (K := X.K) (a := r) (xs := xs), fun H' k => rdL (by unfold Rd; rw [k.frz r s]; exact t), fun i x H' H'' hi k sz ⟨T, y, z, e1, e2, e3, e4, e5⟩ => ?_⟩
  subst e1
  subst e3
  rw [e0] at hi
  obtain ⟨w, B, h1, h2, _⟩ := (k.ownL o).get (i := i) (d := l[i]'(by omega)) (List.getElem?_eq_getElem (by omega))
  have := h2.zero
  subst this
  have e5' : xs[i]? = some z := e5
  rw [e5'] at h1
  cases h1
  cases e4
  refine ⟨.tup [.int (i : Nat), l[i]'(by omega)], ?_, .inr ⟨T, _, e2, rfl⟩, own_tup (.inl (.inl upd_same)) (OwnL.laid sz e2 (OwnL.cons (A := []) (B := []) own_int (OwnL.one h2)))⟩
  rw [List.getElem?_map, List.getElem?_zipIdx, List.getElem?_eq_getElem (by omega)]
  simp
theorem wk_zip {H : Hp} {S : Rg} {l l' : List D} {xs ys : List V} {r r' : Addr} (s : S r) (t : Rd H r (.lst xs)) (o : OwnL g H S 0 l xs []) (s' : S r') (t' : Rd H r' (.lst ys)) (o' : OwnL g H S 0 l' ys []) :
    Wk g (Itz X.K r r') S H ((l.zip l').map fun p => .tup [p.1, p.2]) := by
  have e := o.length
  have e' := o'.length
  have e0 : ((l.zip l').map fun p => D.tup [p.1, p.2]).length = min xs.length ys.length := by rw [List.length_map, List.length_zip, e, e']
  refine ⟨_, _, e0.symm ▸ walk_zip (K := X.K) (a := r) (b := r') (xs := xs) (ys := ys) rfl, fun H' k => ⟨rdL (by unfold Rd; rw [k.frz r s]; exact t), rdL (by unfold Rd; rw [k.frz r' s']; exact t')⟩, fun i x H' H'' hi k sz ⟨T, y, z, e1, e2, e3, e4, e5⟩ => ?_⟩
  subst e1
  subst e3
  rw [e0] at hi
  obtain ⟨w, B, h1, h2, _⟩ := (k.ownL o).get (i := i) (d := l[i]'(by omega)) (List.getElem?_eq_getElem (by omega))
  have := h2.zero
  subst this
  obtain ⟨w', B', h3, h4, _⟩ := (k.ownL o').get (i := i) (d := l'[i]'(by omega)) (List.getElem?_eq_getElem (by omega))
  have := h4.zero
  subst this
  have e4' : xs[i]? = some y := e4
  have e5' : ys[i]? = some z := e5
  rw [e4'] at h1
  rw [e5'] at h3
  cases h1
  cases h3
  refine ⟨.tup [l[i]'(by omega), l'[i]'(by omega)], ?_, .inr ⟨T, _, e2, rfl⟩, own_tup (.inl (.inl upd_same)) (OwnL.laid sz e2 (OwnL.cons (A := []) (B := []) h2 (OwnL.one h4)))⟩
  have ez : (l.zip l')[i]? = some (l[i]'(by omega), l'[i]'(by omega)) := List.getElem?_zip_eq_some.mpr ⟨List.getElem?_eq_getElem (by omega), List.getElem?_eq_getElem (by omega)⟩
  rw [List.getElem?_map, ez]
  rfl

theorem Wk.any {J : It} {H : Hp} {S : Rg} {xs : List D} {k : SK} (w : Wk g J (if k.isRng then fun _ => False else S) H xs) : Wk g J S H xs := by
  cases e : k.isRng with
  | false => rw [e] at w; exact w
  | true =>
    rw [e] at w
    obtain ⟨Gd, Y, wk, hG, hY⟩ := w
    refine ⟨Gd, Y, wk, fun H' k => hG H' ⟨fun a q => q.elim, k.tup⟩, fun i x H' H'' hi k sz y => ?_⟩
    obtain ⟨d, e1, e2, o⟩ := hY i x H' H'' hi ⟨fun a q => q.elim, k.tup⟩ (fun a q => q.elim) y
    exact ⟨d, e1, e2, o.keep ⟨(fun a h => nomatch h), fun a q => q.elim, fun _ _ q => q⟩⟩

/-! ### the iterators -/
def RdI (g : G) (xg : XG) (Γ : Fe) (W : WX) (k : SK) (args : List Ex) : TI := fun σ H R => ∃ S δ, Rep0 g H S δ σ ∧
  match evL Γ args δ with
  | .ok l => ∃ xs, items k (l.map (·.1)) = some xs ∧ ∀ J H1 S1, Fw H H1 S S1 → Wk g J (if k.isRng then fun _ => False else S1) H1 xs → R J H1
  | .exn e => ∀ cls dd H', Ext H H' → ExnN xg e cls dd H H' → W cls dd σ H'
  | .bad => False
theorem PI.pick {tg iter : Expr} {t' : TI} (k : ∀ σ H R, t' σ H R → ∃ t, PI X tg iter t ∧ t σ H R) : PI X tg iter t' := ⟨fun pins s σ H R I q => let ⟨_, h, z⟩ := k σ H R q; h.run pins s σ H R I z⟩
/-- arguments of an iterator, frozen -/
theorem RdI.args {k : SK} {xs : List Ex} {σ : L2.St} {H : Hp} {R : It → Hp → Prop} {Q' : List V → Hp → Prop} (h : RdI g xg Γ W k xs σ H R)
    (q : ∀ ds vs its H1 S1, (∀ a, S1 a → (H1 a).isSome = true) → OwnL g H1 S1 0 ds vs [] → items k ds = some its → (∀ J, Wk g J (if k.isRng then fun _ => False else S1) H1 its → R J H1) → Q' vs H1) : RdA g xg Γ W xs σ H Q' := by
  obtain ⟨S, δ, rep, h⟩ := h
  refine ⟨S, δ, rep, ?_⟩
  cases e : evL Γ xs δ with
  | ok l =>
    rw [e] at h
    obtain ⟨its, e1, h⟩ := h
    intro vs H' S' A f1 ow nd fr
    have f2 : Fw H H' S (fun a => S' a ∨ a ∈ A) := ⟨f1.ext, fun a q => .inl (f1.sub a q), fun a q => q.elim (f1.new a) fun q => .inr (fr a q).1, fun a q => q.elim (f1.sz a) fun q => ow.there a q⟩
    exact q _ vs its H' _ f2.sz ow.frz e1 fun J w => h J H' _ f2 w
  | exn x => rw [e] at h; exact h
  | bad => rw [e] at h; exact h
/-- the one argument -/
theorem RdI.one {k : SK} {σ : L2.St} {H : Hp} {R : It → Hp → Prop} {Q' : VK} (h : RdI g xg Γ W k [xa] σ H R)
    (q : ∀ d v its H1 S1, (∀ a, S1 a → (H1 a).isSome = true) → Own g H1 S1 0 d v [] → items k [d] = some its → (∀ J, Wk g J (if k.isRng then fun _ => False else S1) H1 its → R J H1) → Q' v H1) : RdE g xg Γ W xa σ H Q' := by
  obtain ⟨S, δ, rep, h⟩ := h
  refine ⟨S, δ, rep, ?_⟩
  unfold evL evL at h
  cases e : evE Γ xa δ with
  | ok d n =>
    rw [e] at h
    obtain ⟨its, e1, h⟩ := h
    intro v H' S' T o
    obtain ⟨S2, f2, o2⟩ := o.frz rep.sz
    exact q d v its H' S2 f2.sz o2 e1 fun J w => h J H' S2 f2 w
  | exn x => rw [e] at h; exact h
  | bad => rw [e] at h; exact h
theorem i_seq {tg : Expr} (hK : g.K = X.K) (ha : PE X a (RdE g xg Γ W xa)) : PI X tg a (RdI g xg Γ W .seq [xa]) := by
  refine PI.pick fun σ H R h => ?_
  obtain ⟨S, δ, rep, h0⟩ := id h
  unfold evL evL at h0
  cases e : evE Γ xa δ with
  | ok d n =>
    rw [e] at h0
    obtain ⟨its, e1, h0⟩ := h0
    have go : ∀ (F : VK), (∀ v H1 S2, Fw H H1 S S2 → Own g H1 S2 0 d v [] → F v H1) → RdE g xg Γ W xa σ H F := fun F k => ⟨S, δ, rep, by
      rw [e]
      intro v H' S' T o
      obtain ⟨S2, f2, o2⟩ := o.frz rep.sz
      exact k v H' S2 f2 o2⟩
    cases d with
    | lst l =>
      obtain rfl : l = its := Option.some.inj e1
      refine ⟨_, pi_list ha, go _ fun v H1 S2 f2 o2 => ?_⟩
      obtain ⟨r, xs, rfl, s, t, l1⟩ := own_lst_v o2
      exact ⟨r, rfl, ⟨xs, rdL t⟩, h0 _ H1 S2 f2 (wk_list s t l1)⟩
    | tup l =>
      obtain rfl : l = its := Option.some.inj e1
      refine ⟨_, pi_tup ha, go _ fun v H1 S2 f2 o2 => ?_⟩
      obtain ⟨r, xs, rfl, t, l1⟩ := own_tup_v o2
      rw [hK] at t
      exact ⟨r, rfl, ⟨xs, t⟩, h0 _ H1 S2 f2 (wk_tup t l1)⟩
    | dct ks vs => cases e1
    | _ => cases e1
  | exn x => rw [e] at h0; exact ⟨_, pi_list ha, ⟨S, δ, rep, by rw [e]; exact h0⟩⟩
  | bad => rw [e] at h0; exact h0.elim
theorem i_rng1 {tg : Expr} {p : Pos} (hg : Gl X "range") (hm : X.mg "range" = none) (hs : noStar a = true) (ha : PE X a (RdE g xg Γ W xa)) : PI X tg (.Call (.Name "range" p) [a] [] pos) (RdI g xg Γ W .rng1 [xa]) := by
  refine ⟨fun pins s σ H R I h => (pi_range1 hg hm (pa_cons ha pa_nil (star_cons hs)) (star_cons hs)).run pins s σ H R I ?_⟩
  refine RdI.one h fun d v its H1 S1 sz o e q => ?_
  cases d <;> simp only [items] at e <;> first | (cases e; done) | skip
  split at e
  · rename_i j z
    obtain rfl := Option.some.inj e
    rw [own_int_v o]
    have z := small_bd z
    exact ⟨_, rfl, by omega, by omega, q _ wk_range⟩
  · cases e
theorem i_rng2 {tg : Expr} {p : Pos} (hg : Gl X "range") (hm : X.mg "range" = none) (hs : noStar a = true) (hs2 : noStar b = true) (ha : PA X [a, b] (RdA g xg Γ W [xa, xb])) : PI X tg (.Call (.Name "range" p) [a, b] [] pos) (RdI g xg Γ W .rng2 [xa, xb]) := by
  refine ⟨fun pins s σ H R I h => (pi_range2 hg hm ha (by rw [star_cons hs, star_cons hs2]; rfl) (star_cons hs2)).run pins s σ H R I ?_⟩
  refine RdI.args h fun ds vs its H1 S1 sz o e q => ?_
  unfold items at e
  split at e <;> first | (cases e; done) | skip
  all_goals first | (rename_i h1; cases h1; done) | skip
  split at e
  · rename_i z
    obtain rfl := Option.some.inj e
    obtain ⟨v, w, rfl, o1, o2⟩ := own2 o
    rw [own_int_v o1, own_int_v o2]
    simp only [Bool.and_eq_true] at z
    have z1 := small_bd z.1
    have z2 := small_bd z.2
    exact ⟨_, _, rfl, ⟨by omega, by omega, by omega, by omega⟩, q _ wk_range⟩
  · cases e
theorem i_enum {elts : List Expr} {kk : Nat} {p tp : Pos} (hg : Gl X "enumerate") (hm : X.mg "enumerate" = none) (hs : noStar a = true) (ha : PE X a (RdE g xg Γ W xa)) : PI X (.Tuple elts kk tp) (.Call (.Name "enumerate" p) [a] [] pos) (RdI g xg Γ W .enum [xa]) := by
  refine ⟨fun pins s σ H R I h => (pi_enum hg hm (pa_cons ha pa_nil (star_cons hs)) (star_cons hs)).run pins s σ H R I ?_⟩
  refine RdI.one h fun d v its H1 S1 sz o e q => ?_
  cases d <;> simp only [items] at e <;> first | (cases e; done) | skip
  obtain rfl := Option.some.inj e
  obtain ⟨r, xs, rfl, s, t, l1⟩ := own_lst_v o
  exact ⟨r, xs, rfl, rdL t, q _ (wk_enum s t l1)⟩
theorem i_zip {elts : List Expr} {kk : Nat} {p tp : Pos} (hg : Gl X "zip") (hm : X.mg "zip" = none) (hs : noStar a = true) (hs2 : noStar b = true) (ha : PA X [a, b] (RdA g xg Γ W [xa, xb])) : PI X (.Tuple elts kk tp) (.Call (.Name "zip" p) [a, b] [] pos) (RdI g xg Γ W .zip [xa, xb]) := by
  refine ⟨fun pins s σ H R I h => (pi_zip hg hm ha (star_cons hs) (by rw [star_cons hs2]; rfl)).run pins s σ H R I ?_⟩
  refine RdI.args h fun ds vs its H1 S1 sz o e q => ?_
  unfold items at e
  split at e <;> first | (cases e; done) | skip
  all_goals first | (rename_i h1; cases h1; done) | skip
  obtain rfl := Option.some.inj e
  obtain ⟨v, w, rfl, o1, o2⟩ := own2 o
  obtain ⟨r, xs, rfl, s, t, l1⟩ := own_lst_v o1
  obtain ⟨r', ys, rfl, s', t', l1'⟩ := own_lst_v o2
  exact ⟨r, r', xs, ys, rfl, rdL t, rdL t', q _ (wk_zip s t l1 s' t' l1')⟩

/-! ### targets -/
def gNames : List Nat → TGs
  | [] => gNil
  | i :: is => gCons (gName i) (gNames is)
def gT (K : PySem.W.Frag) (tg : List Nat) : TG := match tg with
  | [i] => gName i
  | tg => gTup K tg.length (gNames tg)
theorem wipe_set0 (i : Nat) (x : Option V) : ∀ (vs : List Nat) (σ : L2.St), (L2.wipe (σ.set i x) vs).set i none = (L2.wipe σ vs).set i none
  | [], σ => by show (σ.set i x).set i none = σ.set i none; rw [List.set_set]
  | v :: vs, σ => by
    show ((L2.wipe (σ.set i x) vs).set v none).set i none = ((L2.wipe σ vs).set v none).set i none
    by_cases h : v = i
    · subst h
      rw [List.set_set, List.set_set, wipe_set0 v x vs σ]
    · rw [List.set_comm _ _ h, List.set_comm _ _ h, wipe_set0 i x vs σ]
theorem wipe_set {i : Nat} {x : Option V} : ∀ {vs : List Nat} {σ : L2.St}, i ∈ vs → L2.wipe (σ.set i x) vs = L2.wipe σ vs
  | v :: vs, σ, h => by
    show (L2.wipe (σ.set i x) vs).set v none = (L2.wipe σ vs).set v none
    by_cases e : i = v
    · subst e; exact wipe_set0 i x vs σ
    · rcases List.mem_cons.mp h with h | h
      · exact absurd h e
      · rw [wipe_set h]
theorem wipe_wipe : ∀ (us vs : List Nat) (σ : L2.St), (∀ u ∈ us, u ∈ vs) → L2.wipe (L2.wipe σ us) vs = L2.wipe σ vs
  | [], vs, σ, _ => rfl
  | u :: us, vs, σ, h => by
    show L2.wipe ((L2.wipe σ us).set u none) vs = L2.wipe σ vs
    rw [wipe_set (h u List.mem_cons_self), wipe_wipe us vs σ fun w hw => h w (List.mem_cons_of_mem _ hw)]
theorem bindE_ok {H : Hp} {S : Rg} {all : List Nat} {Q : L2.St → Hp → Prop} : ∀ {is : List Nat} {ds : List D} {xs : List V} {δ δ1 : Ev} {σ : L2.St}, bindE is ds δ = some δ1 → OwnL g H S 0 ds xs [] → Rep0 g H S δ σ → (∀ i ∈ is, i ∈ all) →
    (∀ σ1, Rep0 g H S δ1 σ1 → L2.wipe σ1 all = L2.wipe σ all → Q σ1 H) → xs.length = is.length ∧ gNames is xs σ H Q
  | [], [], xs, δ, δ1, σ, h, o, rep, hi, k => by
    cases h
    unfold OwnL at o
    rw [o.1]
    exact ⟨rfl, rfl, k σ rep rfl⟩
  | i :: is, [], _, _, _, _, h, _, _, _, _ => by cases h
  | [], d :: ds, _, _, _, _, h, _, _, _, _ => by cases h
  | i :: is, d :: ds, xs, δ, δ1, σ, h, o, rep, hi, k => by
    unfold OwnL at o
    obtain ⟨x, ys, B, C, rfl, e, h1, h2⟩ := o
    have e1 := h1.zero
    have e2 := h2.zero
    subst e1
    subst e2
    obtain ⟨a1, a2⟩ := bindE_ok (all := all) (Q := Q) (σ := σ.set i (some x)) (show bindE is ds (δ.set i (some d)) = some δ1 from h) h2 (rep.set h1) (fun j hj => hi j (List.mem_cons_of_mem _ hj)) fun σ1 r1 e => k σ1 r1 (by rw [e, wipe_set (hi i List.mem_cons_self)])
    exact ⟨by rw [List.length_cons, List.length_cons, a1], x, ys, rfl, a2⟩
theorem takeE_ok (hK : g.K = X.K) {H : Hp} {S : Rg} {tg : List Nat} {d : D} {v : V} {δ δ1 : Ev} {σ : L2.St} {Q : L2.St → Hp → Prop} (h : takeE tg d δ = some δ1) (o : Own g H S 0 d v []) (rep : Rep0 g H S δ σ)
    (k : ∀ σ1, Rep0 g H S δ1 σ1 → L2.wipe σ1 tg = L2.wipe σ tg → Q σ1 H) : gT X.K tg v σ H Q := by
  unfold takeE at h
  split at h
  · rename_i i
    cases h
    exact k _ (rep.set o) (wipe_set List.mem_cons_self)
  · rename_i l hne
    obtain ⟨a, xs, rfl, t, l1⟩ := own_tup_v o
    obtain ⟨e1, e2⟩ := bindE_ok (all := tg) h l1 rep (fun _ q => q) k
    have : gT X.K tg = gTup X.K tg.length (gNames tg) := by
      unfold gT
      split
      · exact (hne _ rfl).elim
      · rfl
    rw [this]
    exact ⟨a, xs, rfl, by rw [← hK]; exact t, e1, e2⟩
  · cases h

/-! ### comprehensions -/
theorem compL_ok {tg : List Nat} {elt : Ev → Res} {cnd : Ev → RT} : ∀ {xs : List D} {δ : Ev}, (∃ l, compL tg elt cnd xs δ = .ok l) ∨ compL tg elt cnd xs δ = .bad
  | [], _ => .inl ⟨[], rfl⟩
  | x :: xs, δ => by
    unfold compL
    cases takeE tg x δ with
    | none => exact .inr rfl
    | some δ1 =>
      dsimp only
      cases cnd δ1 with
      | ok b =>
        cases b with
        | true =>
          dsimp only
          cases elt δ1 with
          | ok d n =>
            dsimp only
            rcases compL_ok (tg := tg) (elt := elt) (cnd := cnd) (xs := xs) (δ := δ) with ⟨l, e⟩ | e
            · rw [e]; exact .inl ⟨_, rfl⟩
            · rw [e]; exact .inr rfl
          | exn e => exact .inr rfl
          | bad => exact .inr rfl
        | false => exact compL_ok
      | exn e => exact .inr rfl
      | bad => exact .inr rfl
/-- the list under construction -/
structure CS (g : G) (H1 H' : Hp) (S1 S2 : Rg) (Dl : Addr) (acc : List (D × Nat)) (vs : List V) (A : Fp) : Prop where
  ext : Ext H1 H'
  sub : ∀ a, S1 a → S2 a
  new : ∀ a, S2 a → S1 a ∨ H1 a = none
  sz : ∀ a, S2 a → (H' a).isSome = true
  at_ : H' Dl = some (.lst vs)
  nS : ¬ S2 Dl
  own : OwnN g H' S2 acc vs A
  nd : A.Nodup
  fr : ∀ a ∈ A, H1 a = none ∧ ¬ S2 a ∧ a ≠ Dl
theorem OwnN.keep {H H' : Hp} {S S' : Rg} : ∀ {l : List (D × Nat)} {vs : List V} {A : Fp}, OwnN g H S l vs A → Kp H H' S S' A → OwnN g H' S' l vs A
  | [], _, _, h, _ => by unfold OwnN at h ⊢; exact h
  | p :: l, _, _, h, k => by
    unfold OwnN at h ⊢
    obtain ⟨x, ys, B, C, rfl, rfl, h1, h2⟩ := h
    exact ⟨x, ys, B, C, rfl, rfl, h1.keep (k.sub fun _ q => List.mem_append_left _ q), OwnN.keep h2 (k.sub fun _ q => List.mem_append_right _ q)⟩
theorem OwnN.snoc {H : Hp} {S : Rg} {d : D} {n : Nat} {v : V} {T : Fp} (o : Own g H S n d v T) : ∀ {l : List (D × Nat)} {vs : List V} {A : Fp}, OwnN g H S l vs A → OwnN g H S (l ++ [(d, n)]) (vs ++ [v]) (A ++ T)
  | [], _, _, h => by
    unfold OwnN at h
    rw [h.1, h.2]
    show OwnN g H S [(d, n)] [v] T
    unfold OwnN
    exact ⟨v, [], T, [], rfl, (List.append_nil _).symm, o, by unfold OwnN; exact ⟨rfl, rfl⟩⟩
  | p :: l, _, _, h => by
    unfold OwnN at h
    obtain ⟨x, ys, B, C, rfl, rfl, h1, h2⟩ := h
    show OwnN g H S (p :: (l ++ [(d, n)])) (x :: (ys ++ [v])) (B ++ C ++ T)
    unfold OwnN
    exact ⟨x, ys ++ [v], B, C ++ T, rfl, List.append_assoc _ _ _, h1, OwnN.snoc o h2⟩
/-- one more item -/
theorem CS.snoc {H1 H' H4 : Hp} {S1 S2 S4 : Rg} {Dl : Addr} {acc : List (D × Nat)} {vs : List V} {A T : Fp} {d : D} {n : Nat} {v : V} (hD : H1 Dl = none) (c : CS g H1 H' S1 S2 Dl acc vs A) (o : OkV g H' H4 S2 S4 n d v T) :
    CS g H1 (upd H4 Dl (.lst (vs ++ [v]))) S1 S4 Dl (acc ++ [(d, n)]) (vs ++ [v]) (A ++ T) := by
  have dn : Dl ∉ T := fun q => by have := (o.fr Dl q).1; rw [c.at_] at this; cases this
  have da : Dl ∉ A := fun q => (c.fr Dl q).2.2 rfl
  have nS4 : ¬ S4 Dl := fun q => by
    rcases o.new Dl q with z | z
    · exact c.nS z
    · rw [c.at_] at z; cases z
  have kp : ∀ B : Fp, Dl ∉ B → Kp H4 (upd H4 Dl (.lst (vs ++ [v]))) S4 S4 B := fun B hB => ⟨fun a q => upd_ne fun e => hB (e ▸ q), fun a q => ⟨q, upd_ne fun e => nS4 (e ▸ q)⟩, fun a xs q => by
    have : a ≠ Dl := fun e => by
      subst e
      have h4 := o.ext _ _ c.at_
      rcases q with q | ⟨_, q⟩ <;> (rw [h4] at q; cases q)
    unfold Rd
    rw [upd_ne this]
    exact q⟩
  refine ⟨fun a u q => ?_, fun a q => o.sub a (c.sub a q), fun a q => ?_, fun a q => ?_, upd_same, nS4, ?_, ?_, fun a q => ?_⟩
  · rw [upd_ne (ne_of_none q hD)]
    exact o.ext a u (c.ext a u q)
  · rcases o.new a q with z | z
    · exact c.new a z
    · exact .inr (c.ext.back z)
  · have ne : a ≠ Dl := fun e => nS4 (by rw [e] at q; exact q)
    rw [upd_ne ne]
    exact o.sz a q
  · refine OwnN.snoc (o.own.keep (kp T dn)) ((c.own.keep (S' := S4) (H' := H4) ⟨fun a q => ?_, fun a q => ⟨o.sub a q, ?_⟩, fun a xs q => o.ext.rd q⟩).keep (kp A da))
    · have := c.own.there a q
      cases e : H' a with
      | none => rw [e] at this; cases this
      | some u => exact o.ext a u e
    · have := c.sz a q
      cases e : H' a with
      | none => rw [e] at this; cases this
      | some u => exact o.ext a u e
  · refine List.nodup_append.mpr ⟨c.nd, o.nd, fun x hx y hy e => ?_⟩
    have h1 := c.own.there x hx
    rw [e, (o.fr y hy).1] at h1
    cases h1
  · rcases List.mem_append.mp q with q | q
    · refine ⟨(c.fr a q).1, fun z => ?_, (c.fr a q).2.2⟩
      rcases o.new a z with z | z
      · exact (c.fr a q).2.1 z
      · have h1 := c.own.there a q
        rw [z] at h1
        cases h1
    · exact ⟨c.ext.back (o.fr a q).1, (o.fr a q).2, fun e => dn (e ▸ q)⟩
/-- no item -/
theorem CS.fw {H1 H' H4 : Hp} {S1 S2 S4 : Rg} {Dl : Addr} {acc : List (D × Nat)} {vs : List V} {A : Fp} (c : CS g H1 H' S1 S2 Dl acc vs A) (f : Fw H' H4 S2 S4) : CS g H1 H4 S1 S4 Dl acc vs A := by
  refine ⟨c.ext.trans f.ext, fun a q => f.sub a (c.sub a q), fun a q => ?_, f.sz, f.ext _ _ c.at_, fun q => ?_, ?_, c.nd, fun a q => ⟨(c.fr a q).1, fun z => ?_, (c.fr a q).2.2⟩⟩
  · rcases f.new a q with z | z
    · exact c.new a z
    · exact .inr (c.ext.back z)
  · rcases f.new Dl q with z | z
    · exact c.nS z
    · rw [c.at_] at z; cases z
  · refine c.own.keep ⟨fun a q => ?_, fun a q => ⟨f.sub a q, ?_⟩, fun a xs q => f.ext.rd q⟩
    · have := c.own.there a q
      cases e : H' a with
      | none => rw [e] at this; cases this
      | some u => exact f.ext a u e
    · have := c.sz a q
      cases e : H' a with
      | none => rw [e] at this; cases this
      | some u => exact f.ext a u e
  · rcases f.new a z with z | z
    · exact (c.fr a q).2.1 z
    · have h1 := c.own.there a q
      rw [z] at h1
      cases h1
/-- the list is whole -/
theorem CS.done {H H1 H' : Hp} {S S1 S2 : Rg} {Dl : Addr} {l : List (D × Nat)} {vs : List V} {A : Fp} (f : Fw H H1 S S1) (hD : H1 Dl = none) (c : CS g H1 H' S1 S2 Dl l vs A) :
    ∃ S3 T, OkV g H H' S S3 (dep l + 1) (.lst (l.map (·.1))) (.ref Dl) T := by
  obtain ⟨B, C, k1, k2⟩ := OwnN.at_ (m := dep l) (dep_le l) c.own
  have k3 := k1 (fun a => S2 a ∨ a ∈ C) (fun a q => .inl q) (fun a q => .inr q)
  have hB : ∀ a ∈ B, a ∈ A := fun a q => (k2.1 a).mpr (.inl q)
  have hC : ∀ a ∈ C, a ∈ A := fun a q => (k2.1 a).mpr (.inr q)
  obtain ⟨n1, n2, n3⟩ := List.nodup_append.mp (k2.2 c.nd)
  refine ⟨fun a => S2 a ∨ a ∈ C, Dl :: B, f.ext.trans c.ext, fun a q => .inl (c.sub a (f.sub a q)), fun a q => ?_, fun a q => ?_, own_lst c.at_ k3, List.nodup_cons.mpr ⟨fun q => (c.fr Dl (hB Dl q)).2.2 rfl, n1⟩, fun a q => ?_⟩
  · rcases q with q | q
    · rcases c.new a q with z | z
      · exact f.new a z
      · exact .inr (f.ext.back z)
    · exact .inr (f.ext.back (c.fr a (hC a q)).1)
  · rcases q with q | q
    · exact c.sz a q
    · exact c.own.there a (hC a q)
  · rcases List.mem_cons.mp q with rfl | q
    · refine ⟨f.ext.back hD, fun z => ?_⟩
      rcases z with z | z
      · exact c.nS z
      · exact (c.fr a (hC a z)).2.2 rfl
    · refine ⟨f.ext.back (c.fr a (hB a q)).1, fun z => ?_⟩
      rcases z with z | z
      · exact (c.fr a (hB a q)).2.1 z
      · exact n3 a q a z rfl
abbrev W0 : WX := fun _ _ _ _ => False
theorem comp_core (hK : g.K = X.K) {k : SK} {args : List Ex} {tg : List Nat} {xelt : Ex} {cnd : Ev → RT} {tt : TT} (htt : ∀ σ H Q S δ, Rep0 g H S δ σ → RFT g xg H S (cnd δ) (fun _ _ _ => False) Q → tt σ H Q)
    {σ : L2.St} {H : Hp} {Q : VK} {S : Rg} {δ : Ev} (rep : Rep0 g H S δ σ)
    (h : RF g xg H S ((evL Γ args δ).bind fun l => match items k l with
      | none => .bad
      | some xs => (compL tg (evE Γ xelt) cnd xs (wipeE δ tg)).bindN newL) (fun c d H' => W c d σ H') Q) :
    tLc (RdI g xg Γ W k args) (gT X.K tg) tt (RdE g xg Γ W0 xelt) tg σ H Q := by
  refine ⟨S, δ, rep, ?_⟩
  cases e0 : evL Γ args δ with
  | exn x => rw [e0] at h; exact h
  | bad => rw [e0] at h; exact h
  | ok l0 =>
    rw [e0] at h
    simp only [RL.bind_ok] at h
    cases e1 : items k (l0.map (·.1)) with
    | none => rw [e1] at h; exact h.elim
    | some xs =>
      rw [e1] at h
      refine ⟨xs, e1, fun J H1 S1 f1 w0 Dl hD => ?_⟩
      obtain ⟨Gd, Y, wk, hG, hY⟩ := Wk.any w0
      rcases compL_ok (tg := tg) (elt := evE Γ xelt) (cnd := cnd) (xs := xs) (δ := wipeE δ tg) with ⟨L, eL⟩ | eL
      · dsimp only at h
        rw [eL] at h
        simp only [RL.bindN_ok, newL] at h
        split at h
        · rename_i zL
          replace zL := of_decide_eq_true zL
          have kz : ∀ {H' : Hp}, Ext H1 H' → Kz H1 H' S1 := fun {H'} e => ⟨fun a q => by
            have := f1.sz a q
            cases e2 : H1 a with
            | none => rw [e2] at this; cases this
            | some u => exact e a u e2, fun a xs q => e.rd q⟩
          refine lc_it wk (fun i H' => ∃ (acc L' : List (D × Nat)) (vs : List V) (A : Fp) (S2 : Rg), compL tg (evE Γ xelt) cnd (xs.drop i) (wipeE δ tg) = .ok L' ∧ acc ++ L' = L ∧ CS g H1 H' S1 S2 Dl acc vs A)
            ⟨[], L, [], [], S1, eL, rfl, ⟨Ext.new hD, fun _ q => q, fun _ q => .inl q, fun a q => ?_, upd_same, fun q => ?_, by unfold OwnN; exact ⟨rfl, rfl⟩, List.nodup_nil, fun a q => nomatch q⟩⟩ (fun i H' _ ⟨acc, L', vs, A, S2, _, _, c⟩ => hG H' (kz c.ext)) (fun i x Ha Hb hi ⟨acc, L', vs, A, S2, q1, q2, c⟩ hy => ?_) (fun H' ⟨acc, L', vs, A, S2, q1, q2, c⟩ => ?_)
          · have : a ≠ Dl := fun e => by have := f1.sz a q; rw [e, hD] at this; cases this
            rw [upd_ne this]
            exact f1.sz a q
          · have := f1.sz Dl q
            rw [hD] at this
            cases this
          · -- a turn
            obtain ⟨d, ed, eh, od⟩ := hY i x Ha Hb hi (kz c.ext) (fun a q => c.sz a (c.sub a q)) hy
            have fab : Fw Ha Hb S2 S2 := by
              rcases eh with e | ⟨p, o, hp, e⟩
              · rw [e]; exact Fw.refl c.sz
              · rw [e]
                refine ⟨Ext.new hp, fun _ q => q, fun _ q => .inl q, fun a q => ?_⟩
                by_cases e3 : a = p
                · rw [e3, upd_same]; rfl
                · rw [upd_ne e3]; exact c.sz a q
            have cb := c.fw fab
            have dr : xs.drop i = d :: xs.drop (i + 1) := by
              have := (List.getElem?_eq_some_iff.mp ed)
              obtain ⟨hl, he⟩ := this
              rw [← he]
              exact List.drop_eq_getElem_cons hl
            rw [dr] at q1
            unfold compL at q1
            have repb : Rep0 g Hb S2 (wipeE δ tg) (L2.wipe σ tg) := (rep.fw (⟨f1.ext.trans cb.ext, fun a q => cb.sub a (f1.sub a q), fun a q => (cb.new a q).elim (f1.new a) fun z => .inr (f1.ext.back z), cb.sz⟩ : Fw H Hb S S2)).wipe tg
            have odb : Own g Hb S2 0 d x [] := od.keep ⟨(fun a h => nomatch h), fun a q => ⟨cb.sub a q, rfl⟩, fun _ _ q => q⟩
            cases eT : takeE tg d (wipeE δ tg) with
            | none => rw [eT] at q1; cases q1
            | some δ1 =>
              rw [eT] at q1
              dsimp only at q1
              refine takeE_ok hK eT odb repb fun σ1 rep1 hw => ⟨by rw [hw]; exact wipe_wipe tg tg σ fun _ q => q, ?_⟩
              refine htt σ1 Hb _ S2 δ1 rep1 ?_
              cases eC : cnd δ1 with
              | exn x => rw [eC] at q1; cases q1
              | bad => rw [eC] at q1; cases q1
              | ok bv =>
                rw [eC] at q1
                intro H3 S3 f3
                have c3 := cb.fw f3
                cases bv with
                | false =>
                  dsimp only at q1
                  exact iteF ⟨acc, L', vs, A, S3, q1, q2, c3⟩
                | true =>
                  dsimp only at q1
                  refine iteT ⟨S3, δ1, rep1.fw f3, ?_⟩
                  cases eE : evE Γ xelt δ1 with
                  | exn x => rw [eE] at q1; cases q1
                  | bad => rw [eE] at q1; cases q1
                  | ok d2 n2 =>
                    rw [eE] at q1
                    dsimp only at q1
                    intro v H4 S4 T o
                    cases eR : compL tg (evE Γ xelt) cnd (xs.drop (i + 1)) (wipeE δ tg) with
                    | exn x => rw [eR] at q1; cases q1
                    | bad => rw [eR] at q1; cases q1
                    | ok L2 =>
                      rw [eR] at q1
                      cases q1
                      refine ⟨vs, o.ext _ _ c3.at_, ?_, acc ++ [(d2, n2)], L2, vs ++ [v], A ++ T, S4, rfl, by rw [← q2]; simp, CS.snoc hD c3 o⟩
                      have e5 := c3.own.len
                      have : acc.length < L.length := by rw [← q2]; simp
                      show vs.length < sizeLine
                      rw [e5]
                      exact Nat.lt_of_lt_of_le this zL
          · -- the end
            rw [List.drop_length] at q1
            cases q1
            rw [List.append_nil] at q2
            subst q2
            obtain ⟨S3, T, o⟩ := CS.done f1 hD c
            exact h _ _ _ _ o
        · exact h.elim
      · dsimp only at h
        rw [eL] at h
        exact h.elim
end

/-! ### a caught exception -/
section
variable {g : G} {xg : XG} {Γ : Fe} {X : Cx} {W : WX}
/-- X is an except suite that holds the exception at a -/
def SuiteOf (X : Cx) (a : Addr) (cls : Value) (dd : Option Addr) : Prop := ∃ (X0 : Cx) (oe : Obj) (pn : List (Addr × Obj)), X = X0.suite a ((a, oe) :: pn) ∧ Zc cls dd oe ∧ ∃ vs, oe.data = .fields vs
/-- a class as a value of the abstract heap -/
def clV : Value → V
  | .ref C => .ref C
  | .type n => .ty n
  | _ => .non
def isCl : Value → Bool
  | .ref _ => true
  | .type _ => true
  | _ => false
theorem clV_ok {u : Value} (h : isCl u = true) : ClsV (clV u) u := by
  unfold isCl at h
  split at h
  · exact .own _
  · exact .ty _
  · cases h
/-- an own class of exceptions -/
structure ExK (K : PySem.W.Frag) (C : Addr) : Prop where
  ex : ExcC K C
  noat : PySem.W.findIn K (.ref C) "at" = some none
theorem inst_exc {X0 : Cx} {a D : Addr} {oe : Obj} {dd : Option Addr} {pn : List (Addr × Obj)} {pins : List (Addr × Obj)} {s : Shared} {σ : L2.St} {H : Hp} (I : Inv (X0.suite a ((a, oe) :: pn)) pins σ H s) (hz : Zc (.ref D) dd oe) (hf : ∃ vs, oe.data = .fields vs)
    (hq : ∀ q, dd = some q → ∃ fs, H q = some (.xd fs)) : ∃ od, PySem.W.InstAt s.heap a oe D od := by
  obtain ⟨ha, _⟩ := I.pin (a, oe) (List.mem_append_left _ List.mem_cons_self)
  obtain ⟨vs, hd⟩ := hf
  cases dd with
  | none => exact ⟨none, ha, hz.1, by unfold PySem.W.notCls; rw [hd] <;> rfl, by rw [hz.2]; trivial⟩
  | some q =>
    obtain ⟨fs, ea⟩ := hq q rfl
    have hx : ObjOk X0.prog X0.w H s.heap q (.xd fs) := I.hok q _ ea
    obtain ⟨mA, hns, hr⟩ := hx
    obtain ⟨od, ho, hl⟩ := lookIn_ns hns
    exact ⟨some od, ha, hz.1, by unfold PySem.W.notCls; rw [hd] <;> rfl, by rw [hz.2]; exact ho⟩
theorem kit_exc {K : PySem.W.Frag} {D x : Addr} {ox : Obj} {od : Option Obj} (C : ExcC K D) : PySem.W.KitX K (.ref x) (.ref D) (fun h => PySem.W.InstAt h x ox D od) := by
  refine PySem.W.kitx_exc ?_ C.hg C.hk C.hs C.ha C.hn C.ht C.hm
  obtain ⟨cd, hc, _⟩ := PySem.W.any_some C.hd
  rw [hc]
  rfl
def rIsX (X : Cx) : List V → Hp → VK → Prop := fun xs H Q => ∃ (a D : Addr) (dd : Option Addr) (cv : V) (u : Value) (b : Bool), xs = [.ref a, cv] ∧ SuiteOf X a (.ref D) dd ∧ ExcC X.K D ∧ (∀ q, dd = some q → ∃ fs, H q = some (.xd fs)) ∧ ClsV cv u ∧ PySem.W.kitOne X.K (.ref D) u = some b ∧ Q (.bl b) H
def rIsXT (X : Cx) : List V → Hp → VK → Prop := fun xs H Q => ∃ (a D : Addr) (dd : Option Addr) (tp : Addr) (cs : List V) (us : List Value) (b : Bool), xs = [.ref a, .ref tp] ∧ H tp = some (.tup cs) ∧ SuiteOf X a (.ref D) dd ∧ ExcC X.K D ∧ (∀ q, dd = some q → ∃ fs, H q = some (.xd fs)) ∧ Paired ClsV cs us ∧ PySem.W.kitAny X.K (.ref D) us = some b ∧ Q (.bl b) H
theorem call_isX : CallR X (.builtin "isinstance") (rIsX X) := by
  intro pins s σ H xs us Q I r h
  obtain ⟨a, D, dd, cv, u, b, rfl, ⟨X0, oe, pn, rfl, hz, hf⟩, C, hq, k, e, q⟩ := h
  obtain ⟨u1, u2, rfl, r1, r2⟩ := vals2 r
  have e2 := k.eq r2
  subst e2
  cases (show u1 = Value.ref a from r1)
  obtain ⟨od, J⟩ := inst_exc I hz hf hq
  exact PySem.W.kia_one (kit_exc C) I.kIn J e (fun z => nomatch z) fun tk => ⟨.bl b, H, I.tok tk, rfl, q⟩
theorem call_isXT : CallR X (.builtin "isinstance") (rIsXT X) := by
  intro pins s σ H xs us Q I r h
  obtain ⟨a, D, dd, tp, cs, ws, b, rfl, hT, ⟨X0, oe, pn, rfl, hz, hf⟩, C, hq, k, e, q⟩ := h
  obtain ⟨u1, u2, rfl, r1, r2⟩ := vals2 r
  cases (show u2 = Value.ref tp from r2)
  cases (show u1 = Value.ref a from r1)
  obtain ⟨od, J⟩ := inst_exc I hz hf hq
  obtain ⟨_, its, rv, o, h1, h2, n, h3⟩ := (show ObjOk X0.prog X0.w H s.heap tp (.tup cs) from I.hok tp _ hT)
  have e3 := ClsV.all k rv
  subst e3
  obtain ⟨oc, od', dt, sl⟩ := o
  simp only at h2 h3
  subst h2 h3
  exact PySem.W.kia_tup (kit_exc C) I.kIn J h1 e (fun z => nomatch z) fun tk => ⟨.bl b, H, I.tok tk, rfl, q⟩
/-- what is known of the exceptions' classes, where the text stands -/
structure XOk (g : G) (xg : XG) (Γ : Fe) (X : Cx) : Prop where
  st : ∀ a c dd, g.exa = some (a, c, dd) → SuiteOf X a (xg.XV c) dd
  sb : ∀ i j b, Γ.sub i j = some b → (∃ C, xg.XV i = .ref C ∧ ExK X.K C) ∧ isCl (xg.XV j) = true ∧ PySem.W.kitOne X.K (xg.XV i) (xg.XV j) = some b
theorem own_exc_v {H : Hp} {S : Rg} {n c : Nat} {vs : List D} {v : V} {A : Fp} (h : Own g H S n (.exc c vs) v A) :
    ∃ a dd xs, v = .ref a ∧ g.exa = some (a, c, dd) ∧ A = [] ∧ ((∀ q, dd = some q → S q ∧ H q = some (.xd ([("at" : Str)].zip xs))) ∧ (dd = none → vs = [])) ∧ OwnL g H S 0 vs xs [] := by unfold Own at h; exact h
theorem isED_rule {H : Hp} {S : Rg} {d : D} {v : V} {c : Nat} {W : Value → Option Addr → Hp → Prop} {Q : VK} (x : XOk g xg Γ X) (sz : ∀ a, S a → (H a).isSome = true) (o : Own g H S 0 d v []) (h : RF g xg H S (isED Γ.sub [c] d) W Q) : rIsX X [v, clV (xg.XV c)] H Q := by
  cases d with
  | exc k vs =>
    obtain ⟨a, dd, xs, rfl, e, _, hq, _⟩ := own_exc_v o
    unfold isED at h
    dsimp only at h
    split at h
    · rename_i b eb
      have es : Γ.sub k c = some b := by
        unfold anyS at eb
        split at eb
        · rename_i z; cases eb; exact z
        · rename_i z; unfold anyS at eb; cases eb; exact z
        · cases eb
      obtain ⟨⟨C, eC, ek⟩, ic, kt⟩ := x.sb _ _ _ es
      have st := x.st _ _ _ e
      rw [eC] at st kt
      exact ⟨a, C, dd, _, _, b, rfl, st, ek.ex, fun q z => ⟨_, (hq.1 q z).2⟩, clV_ok ic, kt, h.val sz own_bl⟩
    · exact h.elim
  | _ => exact h.elim
theorem anyS_kit (x : XOk g xg Γ X) {k : Nat} : ∀ {cs : List Nat} {b : Bool}, anyS (Γ.sub k) cs = some b → PySem.W.kitAny X.K (xg.XV k) (cs.map xg.XV) = some b ∨ (cs = [] ∧ b = false)
  | [], b, h => by cases h; exact .inr ⟨rfl, rfl⟩
  | c :: cs, b, h => by
    refine .inl ?_
    unfold anyS at h
    show (match PySem.W.kitOne X.K (xg.XV k) (xg.XV c) with | some true => some true | some false => PySem.W.kitAny X.K (xg.XV k) (cs.map xg.XV) | none => none) = some b
    split at h
    · rename_i z
      cases h
      rw [(x.sb _ _ _ z).2.2]
    · rename_i z
      rw [(x.sb _ _ _ z).2.2]
      rcases anyS_kit x h with q | ⟨rfl, rfl⟩
      · exact q
      · rfl
    · cases h
end
section
variable {g : G} {xg : XG} {Γ : Fe} {X : Cx} {W : WX} {a : Expr} {xa : Ex} {pos : Pos}
theorem e_isE {x : Str} {p : Pos} {e : Expr} {c : Nat} (xo : XOk g xg Γ X) (hg : Gl X x) (hm : X.mg x = none) (hv : bootBuiltins x = some (.builtin "isinstance")) (hn : x ≠ "__name__") (hdb : (x == ("__debug__" : Str)) = false)
    (hc : PE X e (tC (clV (xg.XV c)))) (hs : noStar a = true) (hs2 : noStar e = true) (ha : PE X a (RdE g xg Γ W xa)) : PE X (.Call (.Name x p) [a, e] [] pos) (RdE g xg Γ W (.isE xa [c])) := by
  refine (pe_callB call_isX hg hm hv (pa_cons ha (pa_cons hc pa_nil (star_cons hs2)) (star_cons hs)) hn hdb (star_cons hs) (by rw [star_cons hs2]; rfl)).imp fun σ H Q ⟨S, δ, rep, h⟩ => ?_
  unfold evE at h
  exact RdE.bind rep h fun d v H1 S1 rep1 f1 o1 h1 => isED_rule xo rep1.sz o1 h1
def tCls (xg : XG) (cs : List Nat) : TA := fun _ H Q => Q (cs.map fun c => clV (xg.XV c)) H
theorem tCls_cons {c : Nat} {cs : List Nat} {e : Expr} {es : List Expr} (h : PE X e (tC (clV (xg.XV c)))) (hs : noStar e = true) (k : PA X es (tCls xg cs)) : PA X (e :: es) (tCls xg (c :: cs)) := pa_cons h k (star_cons hs)
theorem paired_cl : ∀ {cs : List Nat}, (∀ c ∈ cs, isCl (xg.XV c) = true) → Paired ClsV (cs.map fun c => clV (xg.XV c)) (cs.map xg.XV)
  | [], _ => .nil
  | c :: cs, h => .cons (clV_ok (h c List.mem_cons_self)) (paired_cl fun d hd => h d (List.mem_cons_of_mem _ hd))
theorem e_isET {x : Str} {p p2 : Pos} {es : List Expr} {k : Nat} {cs : List Nat} (xo : XOk g xg Γ X) (hg : Gl X x) (hm : X.mg x = none) (hv : bootBuiltins x = some (.builtin "isinstance")) (hn : x ≠ "__name__") (hdb : (x == ("__debug__" : Str)) = false)
    (hc : PA X es (tCls xg cs)) (hcl : ∀ c ∈ cs, isCl (xg.XV c) = true) (hs : noStar a = true) (hne : cs.isEmpty = false) (hl : cs.length ≤ 1000) (ha : PE X a (RdE g xg Γ W xa)) : PE X (.Call (.Name x p) [a, .Tuple es k p2] [] pos) (RdE g xg Γ W (.isE xa cs)) := by
  refine (pe_callB call_isXT hg hm hv (pa_cons ha (pa_cons (pe_tup hc) pa_nil) (star_cons hs)) hn hdb (star_cons hs) rfl).imp fun σ H Q ⟨S, δ, rep, h⟩ => ?_
  unfold evE at h
  refine RdE.bind rep h fun d v H1 S1 rep1 f1 o1 h1 => ?_
  refine ⟨by rw [List.length_map, sizeLine_eq]; omega, fun tp htp => ?_⟩
  cases d with
  | exc q vs =>
    obtain ⟨a, dd, xs, rfl, e, _, hq, _⟩ := own_exc_v o1
    unfold isED at h1
    dsimp only at h1
    split at h1
    · rename_i b eb
      have kt := anyS_kit xo eb
      rcases kt with kt | ⟨rfl, _⟩
      · obtain ⟨⟨C, eC, ek⟩, _, _⟩ : (∃ C, xg.XV q = .ref C ∧ ExK X.K C) ∧ True ∧ True := by
          cases cs with
          | nil => cases hne
          | cons c cs =>
            unfold anyS at eb
            split at eb
            · rename_i z; exact ⟨(xo.sb _ _ _ z).1, trivial, trivial⟩
            · rename_i z; exact ⟨(xo.sb _ _ _ z).1, trivial, trivial⟩
            · cases eb
        have st := xo.st _ _ _ e
        rw [eC] at st kt
        refine ⟨a, C, dd, tp, _, _, b, rfl, upd_same, st, ek.ex, fun z hz => ⟨[("at" : Str)].zip xs, ?_⟩, paired_cl hcl, kt, h1.new rep1.sz htp (.inr rfl) own_bl⟩
        rw [upd_ne (ne_of_none (hq.1 z hz).2 htp)]
        exact (hq.1 z hz).2
      · cases hne
    · exact h1.elim
  | _ => exact h1.elim
/-- e.at -/
theorem e_atE {pos : Pos} {nm : Str} {a0 : Addr} {c0 : Nat} {dd0 : Option Addr} (xo : XOk g xg Γ X) (hx : g.exa = some (a0, c0, dd0)) (hk : ∃ C, xg.XV c0 = .ref C ∧ ExK X.K C) (hnm : nm = "at") (hs : noSuper a = true) (ha : PE X a (RdE g xg Γ W xa)) : PE X (.Attribute a nm pos) (RdE g xg Γ W (.atE xa)) := by
  subst hnm
  obtain ⟨C, eC, ek⟩ := hk
  obtain ⟨X0, oe, pn, rfl, hz, hf⟩ := xo.st _ _ _ hx
  rw [eC] at hz
  refine (pe_xf (X := X0) (C := C) ⟨ek.ex.hg, ek.ex.hk, ek.ex.hs, ek.ex.hd⟩ ek.noat hz hf ha (attrBase hs)).imp fun σ H Q ⟨S, δ, rep, h⟩ => ?_
  unfold evE at h
  refine RdE.bind rep h fun d v H1 S1 rep1 f1 o1 h1 => ?_
  unfold atED at h1
  split at h1
  · rename_i c d'
    obtain ⟨a, dd, xs, rfl, e, _, hq, ow⟩ := own_exc_v o1
    rw [hx] at e
    cases e
    obtain ⟨w, rfl, o3⟩ := own1 ow
    refine ⟨rfl, rfl, ?_⟩
    cases dd0 with
    | none => cases hq.2 rfl
    | some q => exact ⟨q, _, w, rfl, (hq.1 q rfl).2, by simp [List.lookup], h1.val rep1.sz o3⟩
  · exact h1.elim
end
end PL
/-! PL9: statements of the small language, and what they do. -/
namespace PL
open PySem L2 PyProof.Rows

/-- a slot: its value, how deep its mutable nodes are the slot's own, whether it is locked (walked by a loop around) -/
structure Sl where
  d : D
  n : Nat
  lk : Bool
abbrev En := List (Option Sl)
/-- a step of a path to what is changed -/
inductive Pa | ix (e : Ex) | fld (f : Nat)
/-- what becomes of what a stored value is made of: imm: nothing of it hangs on slots; fz: those slots are given up -/
inductive Fz | imm | fz (l : List Nat)

inductive St where
  | asg (i : Nat) (e : Ex) (f : Fz)
  | asgs (tg : List Nat) (e : Ex) (f : Fz)
  | par (i j : Nat) (a b : Ex)
  | setp (j : Nat) (ps : List Pa) (i : Ex) (e : Ex) (f : Fz)
  | setf (j : Nat) (a : Nat) (e : Ex) (f : Fz)
  | app (j : Nat) (ps : List Pa) (e : Ex) (f : Fz)
  | ext (j : Nat) (ps : List Pa) (e : Ex)
  | aug (i : Nat) (e : Ex)
  | chi (i j : Nat) (e : Ex)
  | setg (j : Nat) (a : Nat) (e : Ex)
  | clr (j : Nat) (ps : List Pa)
  | ret (e : Ex) | retv (i : Nat) | rett (l : List Nat) | retN
  | ife (c : Ex) (a b : List St)
  | whl (c : Ex) (b : List St)
  | fo (k : SK) (args : List Ex) (tg : List Nat) (lk : List Nat) (f : Fz) (b : List St)
  | ex (e : Ex)
  | raise (c : Nat) (a : Option Ex)
  | tr (p : Nat) (e : Ex) (c : Nat) (b : List St)
  /-- .. a step ahead of it within the try -/
  | tra (pre : St) (p : Nat) (e : Ex) (c : Nat) (b : List St)
  | pass | brk | cont | dead
  deriving Inhabited

inductive OS where
  | nx (ρ : En) | rt (d : D) (n : Nat) | bk (ρ : En) | ct (ρ : En) | exn (e : Exn) | bad
  deriving Inhabited

/-- the frozen view of all slots; of those alone that are frozen or given up -/
def viewA (ρ : En) : Ev := ρ.map (Option.map Sl.d)
def viewF (l : List Nat) : Nat → En → Ev
  | _, [] => []
  | k, s :: ρ => (match s with
    | some s => if s.n = 0 ∨ l.contains k then some s.d else none
    | none => none) :: viewF l (k + 1) ρ
def frzs (l : List Nat) : Nat → En → En
  | _, [] => []
  | k, s :: ρ => (match s with
    | some s => if l.contains k then some { s with n := 0 } else some s
    | none => none) :: frzs l (k + 1) ρ
def locks (l : List Nat) (b : Bool) : Nat → En → En
  | _, [] => []
  | k, s :: ρ => (match s with
    | some s => if l.contains k then some { s with lk := b } else some s
    | none => none) :: locks l b (k + 1) ρ
def lockedAt (i : Nat) (ρ : En) : Bool := match ρ[i]? with
  | some (some s) => s.lk
  | _ => false
inductive OP where
  | ok (d : D) (n : Nat) (ρ : En) | exn (e : Exn) | bad
/-- an expression whose value is stored -/
def evP (Γ : Fe) (e : Ex) (f : Fz) (ρ : En) : OP := match f with
  | .imm => match evE Γ e (viewA ρ) with
    | .ok d n => if immB n d then .ok d n ρ else .bad
    | .exn x => .exn x
    | .bad => .bad
  | .fz l => match evE Γ e (viewF l 0 ρ) with
    | .ok d n => .ok d n (frzs l 0 ρ)
    | .exn x => .exn x
    | .bad => .bad
def OP.bind (r : OP) (f : D → Nat → En → OS) : OS := match r with
  | .ok d n ρ => f d n ρ
  | .exn x => .exn x
  | .bad => .bad
@[simp] theorem OP.bind_ok (d : D) (n : Nat) (ρ : En) (f : D → Nat → En → OS) : (OP.ok d n ρ).bind f = f d n ρ := rfl
def putS (i : Nat) (d : D) (n : Nat) (ρ : En) : OS := if lockedAt i ρ then .bad else .nx (ρ.set i (some ⟨d, n, false⟩))
def bindS : List Nat → List D → En → Option En
  | [], [], ρ => some ρ
  | i :: is, d :: ds, ρ => if lockedAt i ρ then none else bindS is ds (ρ.set i (some ⟨d, 0, false⟩))
  | _, _, _ => none
def takeS (tg : List Nat) (d : D) (ρ : En) : Option En :=
  match tg, d with
  | [i], d => if lockedAt i ρ then none else some (ρ.set i (some ⟨d, 0, false⟩))
  | tg, .tup l => bindS tg l ρ
  | _, _ => none
/-- a path's steps, evaluated -/
inductive PS1 | ix (k : Int) | fld (f : Nat)
def evPs (Γ : Fe) (δ : Ev) : List Pa → Option (List PS1)
  | [] => some []
  | .ix e :: ps => match evE Γ e δ with
    | .ok (.int k) _ => (evPs Γ δ ps).map (.ix k :: ·)
    | _ => none
  | .fld f :: ps => (evPs Γ δ ps).map (.fld f :: ·)
/-- the change: at the end of the path, at a node that is owned, f makes of the node a new one and says how deep it may be owned; the depth at the root -/
def putF1 (f : Nat) (e : D) : List Nat → List D → List D
  | k :: ks, v :: vs => if k = f then e :: vs else v :: putF1 f e ks vs
  | _, vs => vs
/-- the thing at the end of a path; how many owned nodes stand above it -/
def getP : D → List PS1 → Option (D × Nat)
  | d, [] => some (d, 0)
  | .lst l, .ix k :: ps => match ixN l.length k with
    | some j => match l[j]? with
      | some d => (getP d ps).map fun p => (p.1, p.2 + 1)
      | none => none
    | none => none
  | .tup l, .ix k :: ps => match ixN l.length k with
    | some j => match l[j]? with
      | some d => getP d ps
      | none => none
    | none => none
  | .obj c ks vs, .fld f :: ps => match fldL f ks vs with
    | some d => (getP d ps).map fun p => (p.1, p.2 + 1)
    | none => none
  | _, _ => none
/-- another thing put there -/
def putP (e : D) : D → List PS1 → D
  | _, [] => e
  | .lst l, .ix k :: ps => match ixN l.length k with
    | some j => match l[j]? with
      | some d => .lst (l.set j (putP e d ps))
      | none => .lst l
    | none => .lst l
  | .tup l, .ix k :: ps => match ixN l.length k with
    | some j => match l[j]? with
      | some d => .tup (l.set j (putP e d ps))
      | none => .tup l
    | none => .tup l
  | .obj c ks vs, .fld f :: ps => match fldL f ks vs with
    | some d => .obj c ks (putF1 f (putP e d ps) ks vs)
    | none => .obj c ks vs
  | d, _ => d
/-- the list at the end of a path of slot j becomes another one, into which a value owned to depth n (imm: with nothing mutable deeper) went -/
def mutS (j : Nat) (ps : List PS1) (v : D) (n : Nat) (f : List D → Option (List D)) (ρ : En) : OS :=
  match ρ[j]? with
  | some (some s) => if s.lk then .bad else match getP s.d ps with
    | some (.lst l, u) => match f l with
      | some l' => if u < s.n then
          .nx (ρ.set j (some ⟨putP (.lst l') s.d ps, if immB n v ∨ s.n ≤ u + 1 + n then s.n else u + 1 + n, false⟩))
        else .bad
      | none => .bad
    | _ => .bad
  | _ => .bad
/-- the path stands in the slot, its end a list of the slot's own -/
def pathOk (j : Nat) (qs : List PS1) (ρ : En) : Bool := match ρ[j]? with
  | some (some s) => (match getP s.d qs with | some (.lst _, u) => decide (u < s.n) | _ => false)
  | _ => false
/-- slots, as they stand -/
def slotsN (ρ : En) : List Nat → Option (List (D × Nat))
  | [] => some []
  | i :: is => match ρ[i]? with
    | some (some s) => (slotsN ρ is).map ((s.d, s.n) :: ·)
    | _ => none
mutual
/-- no object within, no dict -/
def nObj : D → Bool
  | .lst l => nObjL l
  | .tup l => nObjL l
  | .obj _ _ _ => false
  | .dct _ _ => false
  | .exc _ _ => false
  | _ => true
def nObjL : List D → Bool
  | [] => true
  | d :: l => nObj d && nObjL l
end
mutual
/-- no caught exception within -/
def nEx : D → Bool
  | .exc _ _ => false
  | .lst l => nExL l
  | .tup l => nExL l
  | .obj _ _ l => nExL l
  | .dct _ l => nExL l
  | _ => true
def nExL : List D → Bool
  | [] => true
  | d :: l => nEx d && nExL l
end
def nExO : Option Sl → Bool
  | none => true
  | some s => nEx s.d
/-- behind an except suite -/
def outS (p : Nat) : OS → OS
  | .nx ρ => if (ρ.set p none).all nExO && !lockedAt p ρ then .nx (ρ.set p none) else .bad
  | .rt d n => if nEx d then .rt d n else .bad
  | _ => .bad
/-- an attribute of slot j -/
def setA (fo : Nat → Nat → Bool) (j a : Nat) (v : D) (n : Nat) (ρ : En) : OS :=
  match ρ[j]? with
  | some (some s) => if s.lk then .bad else match s.d with
    | .obj c ks vs => if fo c a && decide (0 < s.n) && decide (ks.length < 1000) then
        .nx (ρ.set j (some ⟨if ks.contains a then .obj c ks (putF1 a v ks vs) else .obj c (ks ++ [a]) (vs ++ [v]), if immB n v ∨ s.n ≤ 1 + n then s.n else 1 + n, false⟩))
      else .bad
    | _ => .bad
  | _ => .bad

/-- a for: over the items, one behind another -/
def forS (tg : List Nat) (b : En → OS) : List D → En → OS
  | [], ρ => .nx ρ
  | x :: xs, ρ => match takeS tg x ρ with
    | none => .bad
    | some ρ1 => match b ρ1 with
      | .nx ρ2 => forS tg b xs ρ2
      | .ct ρ2 => forS tg b xs ρ2
      | .bk ρ2 => .nx ρ2
      | .rt d n => .rt d n
      | .exn e => .exn e
      | .bad => .bad
/-- a while, at most so many turns -/
def whlN (c : En → RT) (b : En → OS) : Nat → En → Option OS
  | 0, _ => none
  | k + 1, ρ => match c ρ with
    | .ok true => match b ρ with
      | .nx ρ2 => whlN c b k ρ2
      | .ct ρ2 => whlN c b k ρ2
      | .bk ρ2 => some (.nx ρ2)
      | .rt d n => some (.rt d n)
      | .exn e => some (.exn e)
      | .bad => some .bad
    | .ok false => some (.nx ρ)
    | .exn e => some (.exn e)
    | .bad => some .bad
open Classical in
/-- a while, to its end -/
noncomputable def whlC (c : En → RT) (b : En → OS) (ρ : En) : OS := if h : ∃ k, (whlN c b k ρ).isSome then (whlN c b (Classical.choose h) ρ).getD .bad else .bad
theorem whlN_mono {c : En → RT} {b : En → OS} : ∀ {k : Nat} {ρ : En} {o : OS}, whlN c b k ρ = some o → whlN c b (k + 1) ρ = some o
  | 0, _, _, h => by cases h
  | k + 1, ρ, o, h => by
    unfold whlN at h ⊢
    split at h
    · rename_i e
      split at h
      · exact whlN_mono h
      · exact whlN_mono h
      all_goals exact h
    all_goals exact h
theorem whlN_le {c : En → RT} {b : En → OS} {k m : Nat} {ρ : En} {o : OS} (h : whlN c b k ρ = some o) (hm : k ≤ m) : whlN c b m ρ = some o := by
  induction hm with
  | refl => exact h
  | step _ ih => exact whlN_mono ih
theorem whlC_of {c : En → RT} {b : En → OS} {k : Nat} {ρ : En} {o : OS} (h : whlN c b k ρ = some o) : whlC c b ρ = o := by
  unfold whlC
  have hx : ∃ k, (whlN c b k ρ).isSome := ⟨k, by rw [h]; rfl⟩
  rw [dif_pos hx]
  have hs := Classical.choose_spec hx
  generalize Classical.choose hx = m at hs
  cases e : whlN c b m ρ with
  | none => rw [e] at hs; cases hs
  | some o' =>
    have h1 := whlN_le h (Nat.le_max_left k m)
    have h2 := whlN_le e (Nat.le_max_right k m)
    rw [h1] at h2
    cases h2
    rfl
theorem whlC_some {c : En → RT} {b : En → OS} {ρ : En} (h : whlC c b ρ ≠ .bad) : ∃ k, whlN c b k ρ = some (whlC c b ρ) := by
  by_cases hx : ∃ k, (whlN c b k ρ).isSome
  · obtain ⟨k, hk⟩ := hx
    cases e : whlN c b k ρ with
    | none => rw [e] at hk; cases hk
    | some o => exact ⟨k, by rw [whlC_of e]; exact e⟩
  · exfalso
    apply h
    unfold whlC
    rw [dif_neg hx]
/-- one turn of a while -/
theorem whlC_eq (c : En → RT) (b : En → OS) (ρ : En) : whlC c b ρ = match c ρ with
    | .ok true => match b ρ with
      | .nx ρ2 => whlC c b ρ2
      | .ct ρ2 => whlC c b ρ2
      | .bk ρ2 => .nx ρ2
      | .rt d n => .rt d n
      | .exn e => .exn e
      | .bad => .bad
    | .ok false => .nx ρ
    | .exn e => .exn e
    | .bad => .bad := by
  have one : ∀ o, whlN c b 1 ρ = some o → whlC c b ρ = o := fun o h => whlC_of h
  have two : ∀ ρ2, (∀ k, whlN c b (k + 1) ρ = whlN c b k ρ2) → whlC c b ρ = whlC c b ρ2 := fun ρ2 h => by
    by_cases hb : whlC c b ρ2 = .bad
    · by_cases hx : ∃ k, (whlN c b k ρ2).isSome
      · obtain ⟨k, hk⟩ := hx
        cases e : whlN c b k ρ2 with
        | none => rw [e] at hk; cases hk
        | some o => rw [whlC_of e, whlC_of (k := k + 1) (by rw [h]; exact e)]
      · rw [hb]
        unfold whlC
        rw [dif_neg]
        rintro ⟨k, hk⟩
        cases k with
        | zero => cases hk
        | succ k => rw [h] at hk; exact hx ⟨k, hk⟩
    · obtain ⟨k, e⟩ := whlC_some hb
      exact whlC_of (k := k + 1) (by rw [h]; exact e)
  split
  · rename_i ec
    split
    · rename_i ρ2 eb; exact two ρ2 fun k => by show (match c ρ with | .ok true => _ | .ok false => _ | .exn e => _ | .bad => _) = _; rw [ec]; dsimp only; rw [eb]
    · rename_i ρ2 eb; exact two ρ2 fun k => by show (match c ρ with | .ok true => _ | .ok false => _ | .exn e => _ | .bad => _) = _; rw [ec]; dsimp only; rw [eb]
    · rename_i ρ2 eb; exact one _ (by show (match c ρ with | .ok true => _ | .ok false => _ | .exn e => _ | .bad => _) = _; rw [ec]; dsimp only; rw [eb])
    · rename_i d n eb; exact one _ (by show (match c ρ with | .ok true => _ | .ok false => _ | .exn e => _ | .bad => _) = _; rw [ec]; dsimp only; rw [eb])
    · rename_i x eb; exact one _ (by show (match c ρ with | .ok true => _ | .ok false => _ | .exn e => _ | .bad => _) = _; rw [ec]; dsimp only; rw [eb])
    · rename_i eb; exact one _ (by show (match c ρ with | .ok true => _ | .ok false => _ | .exn e => _ | .bad => _) = _; rw [ec]; dsimp only; rw [eb])
  · rename_i ec; exact one _ (by show (match c ρ with | .ok true => _ | .ok false => _ | .exn e => _ | .bad => _) = _; rw [ec])
  · rename_i x ec; exact one _ (by show (match c ρ with | .ok true => _ | .ok false => _ | .exn e => _ | .bad => _) = _; rw [ec])
  · rename_i ec; exact one _ (by show (match c ρ with | .ok true => _ | .ok false => _ | .exn e => _ | .bad => _) = _; rw [ec])

def OS.seq (o : OS) (f : En → OS) : OS := match o with
  | .nx ρ => f ρ
  | o => o
@[simp] theorem OS.seq_nx (ρ : En) (f : En → OS) : (OS.nx ρ).seq f = f ρ := rfl
@[simp] theorem OS.seq_rt (d : D) (n : Nat) (f : En → OS) : (OS.rt d n).seq f = .rt d n := rfl
@[simp] theorem OS.seq_bk (ρ : En) (f : En → OS) : (OS.bk ρ).seq f = .bk ρ := rfl
@[simp] theorem OS.seq_ct (ρ : En) (f : En → OS) : (OS.ct ρ).seq f = .ct ρ := rfl
@[simp] theorem OS.seq_exn (e : Exn) (f : En → OS) : (OS.exn e).seq f = .exn e := rfl
@[simp] theorem OS.seq_bad (f : En → OS) : OS.bad.seq f = .bad := rfl
/-- behind a for its locks go -/
def OS.unlock (l : List Nat) (o : OS) : OS := match o with
  | .nx ρ => .nx (locks l false 0 ρ)
  | .bk ρ => .bad
  | .ct ρ => .bad
  | o => o
def anyLocked (l : List Nat) (ρ : En) : Bool := l.any fun i => lockedAt i ρ

mutual
noncomputable def exS (Γ : Fe) : St → En → OS
  | .asg i e f, ρ => (evP Γ e f ρ).bind fun d n ρ1 => putS i d n ρ1
  | .asgs tg e f, ρ => (evP Γ e f ρ).bind fun d n ρ1 => match d with
    | .tup l => (match bindS tg l ρ1 with | some ρ2 => .nx ρ2 | none => .bad)
    | .lst l => (match bindS tg l ρ1 with | some ρ2 => .nx ρ2 | none => .bad)
    | _ => .bad
  | .par i j a b, ρ => match evL Γ [a, b] (viewA ρ) with
    | .ok [(d1, n1), (d2, n2)] => if immB n1 d1 && immB n2 d2 && decide (i ≠ j) then (putS i d1 n1 ρ).seq (putS j d2 n2) else .bad
    | .exn x => .exn x
    | _ => .bad
  | .setp j ps i e f, ρ => (evP Γ e f ρ).bind fun d n ρ1 => match evPs Γ (viewA ρ1) (ps ++ [.ix i]) with
    | some qs => match qs.getLast? with
      | some (.ix k) => mutS j qs.dropLast d n (fun l => match ixN l.length k with | some m => some (l.set m d) | none => none) ρ1
      | _ => .bad
    | none => .bad
  | .setf j a e f, ρ => (evP Γ e f ρ).bind fun d n ρ1 => setA Γ.fo j a d n ρ1
  | .app j ps e f, ρ => match evPs Γ (viewA ρ) ps with
    | some qs => if pathOk j qs ρ then (evP Γ e f ρ).bind fun d n ρ1 => mutS j qs d n (fun l => if decide (l.length < szLine) then some (l ++ [d]) else none) ρ1 else .bad
    | none => .bad
  | .ext j ps e, ρ => match evPs Γ (viewA ρ) ps with
    | some qs => if pathOk j qs ρ then (match evE Γ e (viewA ρ) with
      | .ok (.lst l2) _ => if l2.all flatD then mutS j qs .non 0 (fun l => if decide (l.length + l2.length ≤ szLine) then some (l ++ l2) else none) ρ else .bad
      | .exn x => .exn x
      | _ => .bad) else .bad
    | none => .bad
  | .clr j ps, ρ => match evPs Γ (viewA ρ) ps with
    | some qs => if pathOk j qs ρ then mutS j qs .non 0 (fun _ => some []) ρ else .bad
    | none => .bad
  | .setg j a e, ρ => match ρ[j]? with
    | some (some ⟨.obj c ks vs, n + 1, lk⟩) => (match evE Γ e (viewF [j] 0 ρ) with
      | .ok d _ => if !lk && nObj d && Γ.fo c a && decide (ks.length < 1000) then
          .nx (ρ.set j (some ⟨if ks.contains a then .obj c ks (putF1 a d ks vs) else .obj c (ks ++ [a]) (vs ++ [d]), 1, false⟩)) else .bad
      | .exn x => .exn x
      | .bad => .bad)
    | _ => .bad
  | .chi i j e, ρ => match ρ[j]? with
    | some (some ⟨.lst l, n + 1, lk⟩) => (match evE Γ e (viewA ρ) with
      | .ok (.int k) _ => (match atI l k with
        | some d => if lk || decide (i = j) then .bad else putS i d 0 (ρ.set j (some ⟨.lst l, 1, false⟩))
        | none => .bad)
      | _ => .bad)
    | _ => .bad
  | .aug i e, ρ => match ρ[i]? with
    | some (some s) => (match s.d with
      | .int a => (match evE Γ e (viewA ρ) with
        | .ok (.int b) _ => putS i (.int (a + b)) 0 ρ
        | .exn x => .exn x
        | _ => .bad)
      | _ => .bad)
    | _ => .bad
  | .ret e, ρ => match evE Γ e (viewA ρ) with
    | .ok d n => .rt d n
    | .exn x => .exn x
    | .bad => .bad
  | .retv i, ρ => match ρ[i]? with
    | some (some s) => .rt s.d s.n
    | _ => .bad
  | .rett l, ρ => if decide l.Nodup && decide (l.length ≤ szLine) then (match slotsN ρ l with
      | some ds => .rt (.tup (ds.map (·.1))) (dep ds)
      | none => .bad) else .bad
  | .retN, _ => .rt .non 0
  | .ife c a b, ρ => match evT Γ c (viewA ρ) with
    | .ok true => exB Γ a ρ
    | .ok false => exB Γ b ρ
    | .exn x => .exn x
    | .bad => .bad
  | .whl c b, ρ => whlC (fun ρ => evT Γ c (viewA ρ)) (exB Γ b) ρ
  | .fo k args tg lk f b, ρ => if k.isRng then (match evL Γ args (viewA ρ) with
      | .ok l => (match items k (l.map (·.1)) with
        | some xs => forS tg (exB Γ b) xs ρ
        | none => .bad)
      | .exn x => .exn x
      | .bad => .bad)
    else match f with
    | .imm => (match evL Γ args (viewF lk 0 ρ) with
      | .ok l => (match items k (l.map (·.1)) with
        | some xs => if immBL 0 xs && !anyLocked lk ρ then (forS tg (exB Γ b) xs (locks lk true 0 ρ)).unlock lk else .bad
        | none => .bad)
      | .exn x => .exn x
      | .bad => .bad)
    | .fz q => (match evL Γ args (viewF q 0 ρ) with
      | .ok l => (match items k (l.map (·.1)) with
        | some xs => forS tg (exB Γ b) xs (frzs q 0 ρ)
        | none => .bad)
      | .exn x => .exn x
      | .bad => .bad)
  | .ex e, ρ => match evE Γ e (viewA ρ) with
    | .ok _ _ => .nx ρ
    | .exn x => .exn x
    | .bad => .bad
  | .raise c a, ρ => match a with
    | none => if Γ.rz c then .exn ⟨c, none⟩ else .bad
    | some e => if Γ.ra c then (match evE Γ e (viewA ρ) with
      | .ok d _ => if flatD d then .exn ⟨c, some d⟩ else .bad
      | .exn x => .exn x
      | .bad => .bad) else .bad
  | .tr p e c b, ρ => match evE Γ e (viewA ρ) with
    | .ok _ _ => .nx ρ
    | .exn x => match Γ.sub x.c c with
      | some true => if lockedAt p ρ || !decide (p < ρ.length) then .bad else outS p (exB Γ b (ρ.set p (some ⟨.exc x.c x.a.toList, 0, false⟩)))
      | some false => .exn x
      | none => .bad
    | .bad => .bad
  | .tra pre p e c b, ρ0 => match exS Γ pre ρ0 with
    | .nx ρ => (match evE Γ e (viewA ρ) with
        | .ok _ _ => .nx ρ
        | .exn x => match Γ.sub x.c c with
          | some true => if lockedAt p ρ || !decide (p < ρ.length) then .bad else outS p (exB Γ b (ρ.set p (some ⟨.exc x.c x.a.toList, 0, false⟩)))
          | some false => .exn x
          | none => .bad
        | .bad => .bad)
    | _ => .bad
  | .pass, ρ => .nx ρ
  | .brk, ρ => .bk ρ
  | .cont, ρ => .ct ρ
  | .dead, ρ => .bad
noncomputable def exB (Γ : Fe) : List St → En → OS
  | [], ρ => .nx ρ
  | s :: ss, ρ => (exS Γ s ρ).seq (exB Γ ss)
end
/-- a def: its slots, its parameters first -/
noncomputable def runF (Γ : Fe) (slots np : Nat) (b : List St) (ds : List D) : Res :=
  if ds.length = np then match exB Γ b (ds.map (fun d => some ⟨d, 0, false⟩) ++ List.replicate (slots - np) none) with
    | .nx _ => .ok .non 0
    | .rt d n => .ok d n
    | .exn e => .exn e
    | _ => .bad
  else .bad
end PL
/-! PL10: the state of a body: slots, what each owns; steps. -/
namespace PL
open PySem L2 PyProof.Rows
section
variable {g : G} {xg : XG} {Γ : Fe} {X : Cx} {W : WX}

/-- the state of a body: each slot's tree stands, its own nodes are at its place in As, the rest in S -/
structure Rep (g : G) (H : Hp) (S : Rg) (As : List Fp) (ρ : En) (σ : L2.St) : Prop where
  sz : ∀ a, S a → (H a).isSome = true
  len : ρ.length = σ.length
  lenA : As.length = ρ.length
  at_ : ∀ (i : Nat) (s : Sl), ρ[i]? = some (some s) → ∃ (v : V) (A : Fp), σ[i]? = some (some v) ∧ As[i]? = some A ∧ Own g H S s.n s.d v A
  no : ∀ i : Nat, ρ[i]? = some none → As[i]? = some []
  nd : As.flatten.Nodup
  dis : ∀ a ∈ As.flatten, ¬ S a
  slf : ∀ w, g.self = some w → σ[0]? = some (some w)
/-- slot i may be stored to -/
def Fre (g : G) (i : Nat) : Prop := ∀ w, g.self = some w → i ≠ 0
theorem mem_flat {As : List Fp} {i : Nat} {A : Fp} {a : Addr} (h : As[i]? = some A) (q : a ∈ A) : a ∈ As.flatten := List.mem_flatten.mpr ⟨A, List.mem_of_getElem? h, q⟩
theorem of_flat {As : List Fp} {a : Addr} (h : a ∈ As.flatten) : ∃ (i : Nat) (A : Fp), As[i]? = some A ∧ a ∈ A := by
  obtain ⟨A, h1, h2⟩ := List.mem_flatten.mp h
  obtain ⟨i, h3⟩ := List.mem_iff_getElem?.mp h1
  exact ⟨i, A, h3, h2⟩
theorem Rep.slot {H : Hp} {S : Rg} {As : List Fp} {ρ : En} {σ : L2.St} (r : Rep g H S As ρ σ) {i : Nat} {A : Fp} {a : Addr} (h : As[i]? = some A) (q : a ∈ A) : ∃ s v, ρ[i]? = some (some s) ∧ σ[i]? = some (some v) ∧ Own g H S s.n s.d v A := by
  have hi : i < ρ.length := by rw [← r.lenA]; exact (List.getElem?_eq_some_iff.mp h).1
  cases e : ρ[i] with
  | none =>
    have := r.no i (by rw [List.getElem?_eq_getElem hi, e])
    rw [h] at this
    cases this
    cases q
  | some s =>
    have e1 : ρ[i]? = some (some s) := by rw [List.getElem?_eq_getElem hi, e]
    obtain ⟨v, A', h1, h2, h3⟩ := r.at_ i s e1
    rw [h] at h2
    cases h2
    exact ⟨s, v, e1, h1, h3⟩
theorem Rep.there {H : Hp} {S : Rg} {As : List Fp} {ρ : En} {σ : L2.St} (r : Rep g H S As ρ σ) {a : Addr} (h : a ∈ As.flatten) : (H a).isSome = true := by
  obtain ⟨i, A, h1, h2⟩ := of_flat h
  obtain ⟨s, v, _, _, o⟩ := r.slot h1 h2
  exact o.there a h2
/-- two slots own nothing together -/
theorem nd_slots {As : List Fp} (nd : As.flatten.Nodup) {i j : Nat} {A B : Fp} {a : Addr} (hi : As[i]? = some A) (hj : As[j]? = some B) (ha : a ∈ A) (hb : a ∈ B) : i = j := by
  induction As generalizing i j with
  | nil => simp at hi
  | cons C As ih =>
    rw [List.flatten_cons] at nd
    obtain ⟨n1, n2, n3⟩ := List.nodup_append.mp nd
    cases i with
    | zero =>
      cases j with
      | zero => rfl
      | succ j =>
        simp at hi hj
        subst hi
        exact absurd rfl (n3 a ha a (mem_flat hj hb))
    | succ i =>
      cases j with
      | zero =>
        simp at hi hj
        subst hj
        exact absurd rfl (n3 a hb a (mem_flat hi ha))
      | succ j =>
        simp at hi hj
        rw [ih n2 hi hj]
theorem nd_one {As : List Fp} (nd : As.flatten.Nodup) {i : Nat} {A : Fp} (hi : As[i]? = some A) : A.Nodup := by
  induction As generalizing i with
  | nil => simp at hi
  | cons C As ih =>
    rw [List.flatten_cons] at nd
    obtain ⟨n1, n2, n3⟩ := List.nodup_append.mp nd
    cases i with
    | zero => simp at hi; subst hi; exact n1
    | succ i => simp at hi; exact ih n2 hi
theorem nd_set {As : List Fp} (nd : As.flatten.Nodup) {i : Nat} {T : Fp} (nT : T.Nodup) (h : ∀ a ∈ T, ∀ j A, As[j]? = some A → j ≠ i → a ∉ A) : (As.set i T).flatten.Nodup := by
  induction As generalizing i with
  | nil => simp
  | cons C As ih =>
    rw [List.flatten_cons] at nd
    obtain ⟨n1, n2, n3⟩ := List.nodup_append.mp nd
    cases i with
    | zero =>
      show (T :: As).flatten.Nodup
      rw [List.flatten_cons]
      refine List.nodup_append.mpr ⟨nT, n2, fun a ha b hb e => ?_⟩
      subst e
      obtain ⟨j, A, h1, h2⟩ := of_flat hb
      exact h a ha (j + 1) A (by simpa using h1) (by omega) h2
    | succ i =>
      show (C :: As.set i T).flatten.Nodup
      rw [List.flatten_cons]
      refine List.nodup_append.mpr ⟨n1, ih n2 fun a ha j A hj hne => h a ha (j + 1) A (by simpa using hj) (by omega), fun a ha b hb e => ?_⟩
      subst e
      obtain ⟨j, A, h1, h2⟩ := of_flat hb
      by_cases hj : i = j
      · subst hj
        have hl : i < As.length := by have := (List.getElem?_eq_some_iff.mp h1).1; rwa [List.length_set] at this
        rw [List.getElem?_set_self hl] at h1
        cases h1
        exact h a h2 0 C (by simp) (by omega) ha
      · rw [List.getElem?_set_ne hj] at h1
        exact n3 a ha a (mem_flat h1 h2) rfl
theorem set_at {α : Type} {l : List α} {i j : Nat} {x y : α} (h : (l.set i x)[j]? = some y) : (i = j ∧ y = x) ∨ (i ≠ j ∧ l[j]? = some y) := by
  by_cases e : i = j
  · subst e
    have hl : i < l.length := by have := (List.getElem?_eq_some_iff.mp h).1; rwa [List.length_set] at this
    rw [List.getElem?_set_self hl] at h
    exact .inl ⟨rfl, (Option.some.inj h).symm⟩
  · rw [List.getElem?_set_ne e] at h
    exact .inr ⟨e, h⟩

/-- what of slot i is locked -/
def Lk (ρ : En) (As : List Fp) (i : Nat) (a : Addr) : Prop := ∃ s A, ρ[i]? = some (some s) ∧ s.lk = true ∧ As[i]? = some A ∧ a ∈ A
/-- from one state to a later one -/
structure Stp (H : Hp) (S : Rg) (As : List Fp) (ρ : En) (H' : Hp) (S' : Rg) (As' : List Fp) (ρ' : En) : Prop where
  fr : ∀ a o, H a = some o → (a ∉ As.flatten ∨ ∃ i, Lk ρ As i a) → H' a = some o
  dom : ∀ a, (H a).isSome = true → (H' a).isSome = true
  sub : ∀ a, S a → S' a
  new : ∀ a, S' a → S a ∨ a ∈ As.flatten ∨ H a = none
  ow : ∀ a, a ∈ As'.flatten → a ∈ As.flatten ∨ H a = none
  lk : ∀ i a, Lk ρ As i a → Lk ρ' As' i a ∨ S' a
theorem Stp.refl {H : Hp} {S : Rg} {As : List Fp} {ρ : En} : Stp H S As ρ H S As ρ := ⟨fun _ _ h _ => h, fun _ h => h, fun _ h => h, fun _ h => .inl h, fun _ h => .inl h, fun _ _ h => .inl h⟩
theorem Stp.trans {H H1 H2 : Hp} {S S1 S2 : Rg} {As As1 As2 : List Fp} {ρ ρ1 ρ2 : En} {σ : L2.St} (a : Stp H S As ρ H1 S1 As1 ρ1) (r : Rep g H1 S1 As1 ρ1 σ) (b : Stp H1 S1 As1 ρ1 H2 S2 As2 ρ2) : Stp H S As ρ H2 S2 As2 ρ2 := by
  have no : ∀ x, H1 x = none → H x = none := fun x q => by
    cases e : H x with
    | none => rfl
    | some o => have := a.dom x (by rw [e]; rfl); rw [q] at this; cases this
  refine ⟨fun x o e h => ?_, fun x h => b.dom x (a.dom x h), fun x h => b.sub x (a.sub x h), fun x h => ?_, fun x h => ?_, fun i x h => ?_⟩
  · refine b.fr x o (a.fr x o e h) ?_
    rcases h with h | ⟨i, h⟩
    · refine .inl fun q => ?_
      rcases a.ow x q with z | z
      · exact h z
      · rw [e] at z; cases z
    · rcases a.lk i x h with z | z
      · exact .inr ⟨i, z⟩
      · exact .inl fun q => r.dis x q z
  · rcases b.new x h with z | z | z
    · exact a.new x z
    · rcases a.ow x z with y | y
      · exact .inr (.inl y)
      · exact .inr (.inr y)
    · exact .inr (.inr (no x z))
  · rcases b.ow x h with z | z
    · exact a.ow x z
    · exact .inr (no x z)
  · rcases a.lk i x h with z | z
    · exact b.lk i x z
    · exact .inr (b.sub x z)

/-- what is wanted behind a statement -/
def RFS (g : G) (xg : XG) (H : Hp) (S : Rg) (As : List Fp) (ρ : En) (o : OS) (W : WX) (D : Ends) : Prop :=
  match o with
  | .nx ρ' => ∀ σ' H' S' As', Rep g H' S' As' ρ' σ' → Stp H S As ρ H' S' As' ρ' → D.nx σ' H'
  | .bk ρ' => ∀ σ' H' S' As', Rep g H' S' As' ρ' σ' → Stp H S As ρ H' S' As' ρ' → D.bk σ' H'
  | .ct ρ' => ∀ σ' H' S' As', Rep g H' S' As' ρ' σ' → Stp H S As ρ H' S' As' ρ' → D.ct σ' H'
  | .rt d n => ∀ v H' S' T, (∀ a o, H a = some o → (a ∉ As.flatten ∨ ∃ i, Lk ρ As i a) → H' a = some o) → (∀ a, (H a).isSome = true → (H' a).isSome = true) → (∀ a, S a → S' a) → (∀ a, S' a → S a ∨ a ∈ As.flatten ∨ H a = none) → (∀ a, S' a → (H' a).isSome = true) →
      Own g H' S' n d v T → T.Nodup → (∀ a ∈ T, ¬ S' a ∧ (a ∈ As.flatten ∨ H a = none)) → D.rt v H'
  | .exn e => ∀ cls dd σ' H', (∀ a o, H a = some o → (a ∉ As.flatten ∨ ∃ i, Lk ρ As i a) → H' a = some o) → ExnN xg e cls dd H H' → W cls dd σ' H'
  | .bad => False
theorem RFS.fw {H H1 : Hp} {S S1 : Rg} {As As1 : List Fp} {ρ ρ1 : En} {σ : L2.St} {o : OS} {D : Ends} (st : Stp H S As ρ H1 S1 As1 ρ1) (r : Rep g H1 S1 As1 ρ1 σ) (h : RFS g xg H S As ρ o W D) : RFS g xg H1 S1 As1 ρ1 o W D := by
  have no : ∀ x, H1 x = none → H x = none := fun x q => by
    cases e : H x with
    | none => rfl
    | some o => have := st.dom x (by rw [e]; rfl); rw [q] at this; cases this
  have fr : ∀ {H' : Hp}, (∀ a o, H1 a = some o → (a ∉ As1.flatten ∨ ∃ i, Lk ρ1 As1 i a) → H' a = some o) → ∀ a o, H a = some o → (a ∉ As.flatten ∨ ∃ i, Lk ρ As i a) → H' a = some o := fun {H'} k x o e q => by
    refine k x o (st.fr x o e q) ?_
    rcases q with q | ⟨i, q⟩
    · refine .inl fun z => ?_
      rcases st.ow x z with y | y
      · exact q y
      · rw [e] at y; cases y
    · rcases st.lk i x q with z | z
      · exact .inr ⟨i, z⟩
      · exact .inl fun y => r.dis x y z
  cases o with
  | nx ρ' => exact fun σ' H' S' As' r' s' => h σ' H' S' As' r' (st.trans r s')
  | bk ρ' => exact fun σ' H' S' As' r' s' => h σ' H' S' As' r' (st.trans r s')
  | ct ρ' => exact fun σ' H' S' As' r' s' => h σ' H' S' As' r' (st.trans r s')
  | rt d n =>
    refine fun v H' S' T k1 k2 k3 k4 k5 k6 k7 k8 => h v H' S' T (fr k1) (fun a q => k2 a (st.dom a q)) (fun a q => k3 a (st.sub a q)) (fun a q => ?_) k5 k6 k7 fun a q => ⟨(k8 a q).1, ?_⟩
    · rcases k4 a q with z | z | z
      · exact st.new a z
      · rcases st.ow a z with y | y
        · exact .inr (.inl y)
        · exact .inr (.inr y)
      · exact .inr (.inr (no a z))
    · rcases (k8 a q).2 with z | z
      · exact st.ow a z
      · exact .inr (no a z)
  | exn e => exact fun cls dd σ' H' k1 k2 => h cls dd σ' H' (fr k1) (k2.back no)
  | bad => exact h

/-- a statement's, a block's reading -/
def RdS (g : G) (xg : XG) (Γ : Fe) (W : WX) (s : St) : TS := fun D σ H => ∃ ρ S As, Rep g H S As ρ σ ∧ RFS g xg H S As ρ (exS Γ s ρ) W D
def RdB (g : G) (xg : XG) (Γ : Fe) (W : WX) (s : List St) : TS := fun D σ H => ∃ ρ S As, Rep g H S As ρ σ ∧ RFS g xg H S As ρ (exB Γ s ρ) W D

/-! ### views -/
theorem viewA_at {ρ : En} {i : Nat} {d : D} (h : (viewA ρ)[i]? = some (some d)) : ∃ s, ρ[i]? = some (some s) ∧ s.d = d := by
  unfold viewA at h
  rw [List.getElem?_map] at h
  cases e : ρ[i]? with
  | none => rw [e] at h; cases h
  | some o =>
    rw [e] at h
    cases o with
    | none => cases h
    | some s => cases h; exact ⟨s, rfl, rfl⟩
theorem Rep.viewA {H : Hp} {S : Rg} {As : List Fp} {ρ : En} {σ : L2.St} (r : Rep g H S As ρ σ) : Rep0 g H (fun a => S a ∨ a ∈ As.flatten) (viewA ρ) σ := by
  refine ⟨fun a q => q.elim (r.sz a) (r.there), by unfold PL.viewA; rw [List.length_map, r.len], fun i d h => ?_⟩
  obtain ⟨s, e1, rfl⟩ := viewA_at h
  obtain ⟨v, A, h1, h2, h3⟩ := r.at_ i s e1
  obtain ⟨B, C, k1, k2⟩ := Own.weak (m := 0) (Nat.zero_le _) h3
  have k3 := k1 (fun a => S a ∨ a ∈ As.flatten) (fun a q => .inl q) (fun a q => .inr (mem_flat h2 ((k2.1 a).mpr (.inr q))))
  have := k3.zero
  subst this
  exact ⟨v, h1, k3⟩
theorem viewF_at {l : List Nat} : ∀ {ρ : En} {k i : Nat} {d : D}, (viewF l k ρ)[i]? = some (some d) → ∃ s, ρ[i]? = some (some s) ∧ s.d = d ∧ (s.n = 0 ∨ l.contains (k + i) = true)
  | [], k, i, d, h => by simp [viewF] at h
  | o :: ρ, k, 0, d, h => by
    simp only [viewF, List.getElem?_cons_zero] at h
    cases o with
    | none => cases h
    | some s =>
      dsimp only at h
      split at h
      · rename_i q
        cases h
        exact ⟨s, rfl, rfl, q⟩
      · cases h
  | o :: ρ, k, i + 1, d, h => by
    simp only [viewF, List.getElem?_cons_succ] at h
    obtain ⟨s, h1, h2, h3⟩ := viewF_at h
    exact ⟨s, by simpa using h1, h2, by rw [show k + (i + 1) = k + 1 + i by omega]; exact h3⟩
theorem viewF_len {l : List Nat} : ∀ {ρ : En} {k : Nat}, (viewF l k ρ).length = ρ.length
  | [], _ => rfl
  | o :: ρ, k => by simp only [viewF, List.length_cons, viewF_len]
theorem frzs_len {l : List Nat} : ∀ {ρ : En} {k : Nat}, (frzs l k ρ).length = ρ.length
  | [], _ => rfl
  | o :: ρ, k => by simp only [frzs, List.length_cons, frzs_len]
theorem frzs_at {l : List Nat} : ∀ {ρ : En} {k i : Nat}, (frzs l k ρ)[i]? = (ρ[i]?).map fun o => o.map fun s => if l.contains (k + i) then { s with n := 0 } else s
  | [], _, _ => by simp [frzs]
  | o :: ρ, k, 0 => by
    simp only [frzs, List.getElem?_cons_zero, Option.map_some, Nat.add_zero]
    cases o with
    | none => rfl
    | some s =>
      dsimp only [Option.map_some]
      split <;> rfl
  | o :: ρ, k, i + 1 => by
    simp only [frzs, List.getElem?_cons_succ]
    rw [frzs_at, show k + 1 + i = k + (i + 1) by omega]
/-- what given up slots own -/
def AsIn (As : List Fp) (l : List Nat) (a : Addr) : Prop := ∃ i A, l.contains i = true ∧ As[i]? = some A ∧ a ∈ A
def frzA (l : List Nat) : Nat → List Fp → List Fp
  | _, [] => []
  | k, A :: As => (if l.contains k then [] else A) :: frzA l (k + 1) As
theorem frzA_len {l : List Nat} : ∀ {As : List Fp} {k : Nat}, (frzA l k As).length = As.length
  | [], _ => rfl
  | o :: ρ, k => by simp only [frzA, List.length_cons, frzA_len]
theorem frzA_at {l : List Nat} : ∀ {As : List Fp} {k i : Nat}, (frzA l k As)[i]? = (As[i]?).map fun A => if l.contains (k + i) then [] else A
  | [], _, _ => by simp [frzA]
  | A :: As, k, 0 => by simp only [frzA, List.getElem?_cons_zero, Option.map_some, Nat.add_zero]
  | A :: As, k, i + 1 => by
    simp only [frzA, List.getElem?_cons_succ]
    rw [frzA_at, show k + 1 + i = k + (i + 1) by omega]
theorem frzA_sub {l : List Nat} {As : List Fp} {a : Addr} (h : a ∈ (frzA l 0 As).flatten) : ∃ (i : Nat) (A : Fp), As[i]? = some A ∧ a ∈ A ∧ l.contains i = false := by
  obtain ⟨i, A, h1, h2⟩ := of_flat h
  rw [frzA_at] at h1
  cases e : As[i]? with
  | none => rw [e] at h1; cases h1
  | some B =>
    rw [e] at h1
    simp only [Option.map_some, Option.some.injEq, Nat.zero_add] at h1
    cases hc : l.contains i with
    | true => rw [hc] at h1; simp at h1; subst h1; cases h2
    | false => rw [hc] at h1; simp at h1; subst h1; exact ⟨i, B, e, h2, hc⟩
theorem frzA_nd {l : List Nat} : ∀ {As : List Fp} {k : Nat}, As.flatten.Nodup → (frzA l k As).flatten.Nodup ∧ ∀ a ∈ (frzA l k As).flatten, a ∈ As.flatten
  | [], _, h => ⟨h, fun _ q => q⟩
  | A :: As, k, h => by
    rw [List.flatten_cons] at h
    obtain ⟨n1, n2, n3⟩ := List.nodup_append.mp h
    obtain ⟨m1, m2⟩ := frzA_nd (l := l) (k := k + 1) n2
    simp only [frzA, List.flatten_cons]
    refine ⟨?_, fun a q => ?_⟩
    · split
      · simpa using m1
      · exact List.nodup_append.mpr ⟨n1, m1, fun a ha b hb => n3 a ha b (m2 b hb)⟩
    · rcases List.mem_append.mp q with q | q
      · split at q
        · cases q
        · exact List.mem_append_left _ q
      · exact List.mem_append_right _ (m2 a q)
theorem Rep.viewF {H : Hp} {S : Rg} {As : List Fp} {ρ : En} {σ : L2.St} (r : Rep g H S As ρ σ) (l : List Nat) : Rep0 g H (fun a => S a ∨ AsIn As l a) (viewF l 0 ρ) σ := by
  refine ⟨fun a q => q.elim (r.sz a) fun ⟨i, A, _, h1, h2⟩ => r.there (mem_flat h1 h2), by rw [viewF_len, r.len], fun i d h => ?_⟩
  obtain ⟨s, e1, rfl, e2⟩ := viewF_at h
  rw [Nat.zero_add] at e2
  obtain ⟨v, A, h1, h2, h3⟩ := r.at_ i s e1
  obtain ⟨B, C, k1, k2⟩ := Own.weak (m := 0) (Nat.zero_le _) h3
  have k3 := k1 (fun a => S a ∨ AsIn As l a) (fun a q => .inl q) (fun a q => ?_)
  · have := k3.zero
    subst this
    exact ⟨v, h1, k3⟩
  · have ha : a ∈ A := (k2.1 a).mpr (.inr q)
    rcases e2 with e2 | e2
    · rw [e2] at h3
      have := h3.zero
      rw [this] at ha
      cases ha
    · exact .inr ⟨i, A, e2, h2, ha⟩
/-- behind a pure run seen with all slots -/
theorem Rep.pure {H H' : Hp} {S S' : Rg} {As : List Fp} {ρ : En} {σ : L2.St} (r : Rep g H S As ρ σ) (f : Fw H H' (fun a => S a ∨ a ∈ As.flatten) S') :
    Rep g H' (fun a => S a ∨ (S' a ∧ H a = none)) As ρ σ ∧ Stp H S As ρ H' (fun a => S a ∨ (S' a ∧ H a = none)) As ρ := by
  have keep : ∀ a, (H a).isSome = true → H' a = H a := fun a q => by
    cases e : H a with
    | none => rw [e] at q; cases q
    | some o => exact f.ext a o e
  refine ⟨⟨fun a q => ?_, r.len, r.lenA, fun i s h => ?_, r.no, r.nd, fun a q z => ?_, r.slf⟩, ⟨fun a o e _ => f.ext a o e, fun a q => by rw [keep a q]; exact q, fun a q => .inl q, fun a q => q.imp id fun q => .inr q.2, fun a q => .inl q, fun i a q => .inl q⟩⟩
  · rcases q with q | q
    · rw [keep a (r.sz a q)]; exact r.sz a q
    · exact f.sz a q.1
  · obtain ⟨v, A, h1, h2, h3⟩ := r.at_ i s h
    exact ⟨v, A, h1, h2, h3.keep ⟨fun a q => keep a (h3.there a q), fun a q => ⟨.inl q, keep a (r.sz a q)⟩, fun a xs q => f.ext.rd q⟩⟩
  · rcases z with z | z
    · exact r.dis a q z
    · have := r.there q
      rw [z.2] at this
      cases this
/-- behind a pure run with slots given up -/
theorem Rep.given {H H' : Hp} {S S' : Rg} {As : List Fp} {ρ : En} {σ : L2.St} {l : List Nat} (r : Rep g H S As ρ σ) (f : Fw H H' (fun a => S a ∨ AsIn As l a) S') :
    Rep g H' S' (frzA l 0 As) (frzs l 0 ρ) σ ∧ Stp H S As ρ H' S' (frzA l 0 As) (frzs l 0 ρ) := by
  have keep : ∀ a, (H a).isSome = true → H' a = H a := fun a q => by
    cases e : H a with
    | none => rw [e] at q; cases q
    | some o => exact f.ext a o e
  refine ⟨⟨f.sz, by rw [frzs_len]; exact r.len, by rw [frzA_len, frzs_len]; exact r.lenA, fun i s h => ?_, fun i h => ?_, (frzA_nd r.nd).1, fun a q z => ?_, r.slf⟩, ⟨fun a o e _ => f.ext a o e, fun a q => by rw [keep a q]; exact q, fun a q => f.sub a (.inl q), fun a q => ?_, fun a q => .inl ((frzA_nd r.nd).2 a q), fun i a ⟨s, A, h1, h2, h3, h4⟩ => ?_⟩⟩
  · rw [frzs_at] at h
    cases e : ρ[i]? with
    | none => rw [e] at h; cases h
    | some o =>
      rw [e] at h
      cases o with
      | none => cases h
      | some s0 =>
        simp only [Option.map_some, Option.some.injEq, Nat.zero_add] at h
        obtain ⟨v, A, h1, h2, h3⟩ := r.at_ i s0 e
        cases hc : l.contains i with
        | true =>
          rw [hc] at h
          simp at h
          subst h
          obtain ⟨B, C, k1, k2⟩ := Own.weak (m := 0) (Nat.zero_le _) h3
          have k3 := k1 (fun a => S a ∨ AsIn As l a) (fun a q => .inl q) (fun a q => .inr ⟨i, A, hc, h2, (k2.1 a).mpr (.inr q)⟩)
          have := k3.zero
          subst this
          refine ⟨v, [], h1, by rw [frzA_at, h2]; simp only [Option.map_some, Nat.zero_add, hc, if_true], k3.keep ⟨(fun a h => nomatch h), fun a q => ⟨f.sub a q, keep a ?_⟩, fun a xs q => f.ext.rd q⟩⟩
          rcases q with q | ⟨j, B, _, h5, h6⟩
          · exact r.sz a q
          · exact r.there (mem_flat h5 h6)
        | false =>
          rw [hc] at h
          simp at h
          subst h
          refine ⟨v, A, h1, by rw [frzA_at, h2]; simp only [Option.map_some, Nat.zero_add, hc, Bool.false_eq_true, if_false], h3.keep ⟨fun a q => keep a (h3.there a q), fun a q => ⟨f.sub a (.inl q), keep a (r.sz a q)⟩, fun a xs q => f.ext.rd q⟩⟩
  · rw [frzs_at] at h
    cases e : ρ[i]? with
    | none => rw [e] at h; cases h
    | some o =>
      rw [e] at h
      cases o with
      | some s0 => cases h
      | none =>
        rw [frzA_at, r.no i e]
        simp
  · obtain ⟨i, A, h1, h2, h3⟩ := frzA_sub q
    rcases f.new a z with (y | ⟨j, B, h4, h5, h6⟩) | y
    · exact r.dis a (mem_flat h1 h2) y
    · have := nd_slots r.nd h1 h5 h2 h6
      subst this
      rw [h3] at h4
      cases h4
    · have := r.there (mem_flat h1 h2)
      rw [y] at this
      cases this
  · rcases f.new a q with (y | ⟨j, B, h4, h5, h6⟩) | y
    · exact .inl y
    · exact .inr (.inl (mem_flat h5 h6))
    · exact .inr (.inr y)
  · cases hc : l.contains i with
    | true => exact .inr (f.sub a (.inr ⟨i, A, hc, h3, h4⟩))
    | false => exact .inl ⟨s, A, by rw [frzs_at, h1]; simp only [Option.map_some, Nat.zero_add, hc, Bool.false_eq_true, if_false], h2, by rw [frzA_at, h3]; simp only [Option.map_some, Nat.zero_add, hc, Bool.false_eq_true, if_false], h4⟩
end
end PL
/-! PL11: PySem's statements, by what the small language's statements do. -/
namespace PL
open PySem L2 PyProof.Rows
theorem _root_.L2.PS.imp {X : Cx} {e : Stmt} {t t' : TS} (h : PS X e t) (k : ∀ D σ H, t' D σ H → t D σ H) : PS X e t' := ⟨fun pins s σ H D I q => h.run pins s σ H D I (k D σ H q)⟩
theorem _root_.L2.PS.pick {X : Cx} {e : Stmt} {t' : TS} (k : ∀ D σ H, t' D σ H → ∃ t, PS X e t ∧ t D σ H) : PS X e t' := ⟨fun pins s σ H D I q => let ⟨_, h, z⟩ := k D σ H q; h.run pins s σ H D I z⟩
theorem _root_.L2.PSs.imp {X : Cx} {e : List Stmt} {t t' : TS} (h : PSs X e t) (k : ∀ D σ H, t' D σ H → t D σ H) : PSs X e t' := ⟨fun pins s σ H D I q => h.run pins s σ H D I (k D σ H q)⟩
section
variable {g : G} {xg : XG} {Γ : Fe} {X : Cx} {W : WX} {H H1 : Hp} {S S1 : Rg} {As As1 : List Fp} {ρ ρ1 : En} {σ : L2.St} {D : Ends} {a b c : Expr} {xa xb xc : Ex} {pos : Pos}

theorem exn_fr (h : ∀ cls dd σ' H', (∀ a o, H a = some o → (a ∉ As.flatten ∨ ∃ i, Lk ρ As i a) → H' a = some o) → ExnN xg e cls dd H H' → W cls dd σ' H') : ∀ cls dd H', Ext H H' → ExnN xg e cls dd H H' → W cls dd σ H' :=
  fun cls dd H' q k => h cls dd σ H' (fun a o e _ => q a o e) k
/-- an expression whose value is stored -/
theorem evP_rf {f : Fz} {F : PL.D → Nat → En → OS} {Q' : VK} (rep : Rep g H S As ρ σ) (h : RFS g xg H S As ρ ((evP Γ xa f ρ).bind F) W D)
    (k : ∀ d n v ρ1 H1 S1 As1 T, evP Γ xa f ρ = .ok d n ρ1 → Rep g H1 S1 As1 ρ1 σ → Stp H S As ρ H1 S1 As1 ρ1 → Own g H1 S1 n d v T → T.Nodup → (∀ a ∈ T, H a = none ∧ ¬ S1 a ∧ a ∉ As1.flatten) → RFS g xg H S As ρ (F d n ρ1) W D → Q' v H1) : RdE g xg Γ W xa σ H Q' := by
  unfold evP at h k
  cases f with
  | imm =>
    refine ⟨_, _, rep.viewA, ?_⟩
    dsimp only at h k
    cases e : evE Γ xa (viewA ρ) with
    | ok d n =>
      rw [e] at h k
      dsimp only at h k
      intro v H' S' T o
      split at h
      · rename_i hi
        obtain ⟨r1, s1⟩ := rep.pure o.fw
        refine k d n v ρ H' _ As T (by rw [if_pos hi]) r1 s1 (o.own.imm (Nat.le_refl _) hi) o.nd (fun a q => ⟨(o.fr a q).1, fun z => ?_, fun z => ?_⟩) h
        · rcases z with z | z
          · have := rep.sz a z
            rw [(o.fr a q).1] at this
            cases this
          · exact (o.fr a q).2 z.1
        · have := rep.there z
          rw [(o.fr a q).1] at this
          cases this
      · exact h.elim
    | exn x => rw [e] at h; exact exn_fr h
    | bad => rw [e] at h; exact h.elim
  | fz l =>
    refine ⟨_, _, rep.viewF l, ?_⟩
    dsimp only at h k
    cases e : evE Γ xa (viewF l 0 ρ) with
    | ok d n =>
      rw [e] at h k
      dsimp only at h k
      intro v H' S' T o
      obtain ⟨r1, s1⟩ := rep.given (l := l) o.fw
      refine k d n v _ H' S' _ T rfl r1 s1 o.own o.nd (fun a q => ⟨(o.fr a q).1, (o.fr a q).2, fun z => ?_⟩) h
      have := rep.there ((frzA_nd rep.nd).2 a z)
      rw [(o.fr a q).1] at this
      cases this
    | exn x => rw [e] at h; exact exn_fr h
    | bad => rw [e] at h; exact h.elim
theorem not_locked {i : Nat} {a : Addr} (h : lockedAt i ρ = false) : ¬ Lk ρ As i a := fun ⟨s, A, h1, h2, _⟩ => by
  unfold lockedAt at h
  rw [h1] at h
  dsimp only at h
  rw [h2] at h
  cases h
/-- a value is stored at a slot -/
theorem put_ok {i n : Nat} {d : PL.D} {v : V} {T : Fp} (r1 : Rep g H1 S1 As1 ρ1 σ) (st : Stp H S As ρ H1 S1 As1 ρ1) (o : Own g H1 S1 n d v T) (nd : T.Nodup) (fr : ∀ a ∈ T, (a ∈ As.flatten ∨ H a = none) ∧ ¬ S1 a ∧ ∀ j A, As1[j]? = some A → j ≠ i → a ∉ A) (hl : lockedAt i ρ1 = false) (hz : ∀ w, g.self = some w → i = 0 → v = w) :
    Rep g H1 S1 (As1.set i T) (ρ1.set i (some ⟨d, n, false⟩)) (σ.set i (some v)) ∧ Stp H S As ρ H1 S1 (As1.set i T) (ρ1.set i (some ⟨d, n, false⟩)) := by
  have len1 := r1.len
  have len2 := r1.lenA
  refine ⟨⟨r1.sz, by rw [List.length_set, List.length_set, r1.len], by rw [List.length_set, List.length_set, r1.lenA], fun j s h => ?_, fun j h => ?_, nd_set r1.nd nd fun a q => (fr a q).2.2, fun a q z => ?_, fun w hw => ?_⟩, ⟨st.fr, st.dom, st.sub, st.new, fun a q => ?_, fun j a q => ?_⟩⟩
  · rcases set_at h with ⟨rfl, e⟩ | ⟨hne, e⟩
    · cases e
      have hj : i < ρ1.length := by have := (List.getElem?_eq_some_iff.mp h).1; rwa [List.length_set] at this
      exact ⟨v, T, List.getElem?_set_self (by omega), List.getElem?_set_self (by omega), o⟩
    · rw [List.getElem?_set_ne hne, List.getElem?_set_ne hne]
      exact r1.at_ j s e
  · rcases set_at h with ⟨rfl, e⟩ | ⟨hne, e⟩
    · cases e
    · rw [List.getElem?_set_ne hne]
      exact r1.no j e
  · obtain ⟨j, A, h1, h2⟩ := of_flat q
    rcases set_at h1 with ⟨rfl, e⟩ | ⟨hne, e⟩
    · subst e; exact (fr a h2).2.1 z
    · exact r1.dis a (mem_flat e h2) z
  · have h0 := r1.slf w hw
    by_cases hi : i = 0
    · subst hi
      rw [hz w hw rfl]
      exact List.getElem?_set_self (List.getElem?_eq_some_iff.mp h0).1
    · rw [List.getElem?_set_ne hi]
      exact h0
  · obtain ⟨j, A, h1, h2⟩ := of_flat q
    rcases set_at h1 with ⟨rfl, e⟩ | ⟨hne, e⟩
    · subst e; exact (fr a h2).1
    · exact st.ow a (mem_flat e h2)
  · rcases st.lk j a q with z | z
    · by_cases hj : i = j
      · subst hj; exact absurd z (not_locked hl)
      · obtain ⟨s, A, h1, h2, h3, h4⟩ := z
        exact .inl ⟨s, A, by rw [List.getElem?_set_ne hj]; exact h1, h2, by rw [List.getElem?_set_ne hj]; exact h3, h4⟩
    · exact .inr z
theorem putS_rf {i n : Nat} {d : PL.D} {v : V} {T : Fp} (r1 : Rep g H1 S1 As1 ρ1 σ) (st : Stp H S As ρ H1 S1 As1 ρ1) (o : Own g H1 S1 n d v T) (nd : T.Nodup) (fr : ∀ a ∈ T, H a = none ∧ ¬ S1 a ∧ a ∉ As1.flatten)
    (hz : Fre g i) (h : RFS g xg H S As ρ (putS i d n ρ1) W D) : D.nx (σ.set i (some v)) H1 := by
  unfold putS at h
  split at h
  · exact h.elim
  · rename_i hl
    obtain ⟨r2, s2⟩ := put_ok r1 st o nd (fun a q => ⟨.inr (fr a q).1, (fr a q).2.1, fun j A h1 _ h2 => (fr a q).2.2 (mem_flat h1 h2)⟩) (Bool.eq_false_iff.mpr hl) (fun w hw e => absurd e (hz w hw))
    exact h _ _ _ _ r2 s2
theorem s_asg {i : Nat} {x : Str} {e : Expr} {f : Fz} {p2 : Pos} (hN : X.N.Nodup) (hi : X.N[i]? = some x) (hx : Loc X.env.scope x) (he : PE X e (RdE g xg Γ W xa)) (hs : noComp e = true) (hf : X.fn x = true) (hz : Fre g i) : PS X (.Assign [.Name x p2] e pos) (RdS g xg Γ W (.asg i xa f)) :=
  (ps_set hN hi hx he (noSwap hs) (.inl hf)).imp fun D σ H ⟨ρ, S, As, rep, h⟩ => by
    unfold exS at h
    exact evP_rf rep h fun d n v ρ1 H1 S1 As1 T _ r1 st o nd fr h1 => putS_rf r1 st o nd fr hz h1
/-- frozen items into slots -/
theorem bindS_ok {Q : L2.St → Hp → Prop} : ∀ {is : List Nat} {ds : List PL.D} {xs : List V} {ρ1 ρ2 : En} {σ : L2.St} {As1 : List Fp}, (∀ i ∈ is, Fre g i) → bindS is ds ρ1 = some ρ2 → OwnL g H1 S1 0 ds xs [] → Rep g H1 S1 As1 ρ1 σ → Stp H S As ρ H1 S1 As1 ρ1 →
    (∀ σ2 As2, Rep g H1 S1 As2 ρ2 σ2 → Stp H S As ρ H1 S1 As2 ρ2 → Q σ2 H1) → xs.length = is.length ∧ gNames is xs σ H1 Q
  | [], [], xs, _, _, σ, As1, _, h, o, r1, st, k => by
    cases h
    unfold OwnL at o
    rw [o.1]
    exact ⟨rfl, rfl, k σ As1 r1 st⟩
  | i :: is, [], _, _, _, _, _, _, h, _, _, _, _ => by cases h
  | [], d :: ds, _, _, _, _, _, _, h, _, _, _, _ => by cases h
  | i :: is, d :: ds, xs, ρ1, ρ2, σ, As1, hf, h, o, r1, st, k => by
    unfold OwnL at o
    obtain ⟨x, ys, B, C, rfl, e, h1, h2⟩ := o
    have e1 := h1.zero
    have e2 := h2.zero
    subst e1
    subst e2
    unfold bindS at h
    split at h
    · cases h
    · rename_i hl
      obtain ⟨r2, s2⟩ := put_ok r1 st h1 List.nodup_nil (fun a q => nomatch q) (Bool.eq_false_iff.mpr hl) (fun w hw e => absurd e (hf i List.mem_cons_self w hw))
      obtain ⟨a1, a2⟩ := bindS_ok (Q := Q) (fun i hi => hf i (List.mem_cons_of_mem _ hi)) h h2 r2 s2 k
      exact ⟨by rw [List.length_cons, List.length_cons, a1], x, ys, rfl, a2⟩
theorem takeS_ok (hK : g.K = X.K) {tg : List Nat} {d : PL.D} {v : V} {ρ2 : En} {Q : L2.St → Hp → Prop} (hf : ∀ i ∈ tg, Fre g i) (h : takeS tg d ρ1 = some ρ2) (o : Own g H1 S1 0 d v []) (r1 : Rep g H1 S1 As1 ρ1 σ) (st : Stp H S As ρ H1 S1 As1 ρ1)
    (k : ∀ σ2 As2, Rep g H1 S1 As2 ρ2 σ2 → Stp H S As ρ H1 S1 As2 ρ2 → Q σ2 H1) : gT X.K tg v σ H1 Q := by
  unfold takeS at h
  split at h
  · rename_i i
    split at h
    · cases h
    · rename_i hl
      cases h
      obtain ⟨r2, s2⟩ := put_ok r1 st o List.nodup_nil (fun a q => nomatch q) (Bool.eq_false_iff.mpr hl) (fun w hw e => absurd e (hf i List.mem_cons_self w hw))
      exact k _ _ r2 s2
  · rename_i l hne
    obtain ⟨a, xs, rfl, t, l1⟩ := own_tup_v o
    obtain ⟨e1, e2⟩ := bindS_ok (Q := Q) hf h l1 r1 st k
    have : gT X.K tg = gTup X.K tg.length (gNames tg) := by
      unfold gT
      split
      · exact (hne _ rfl).elim
      · rfl
    rw [this]
    exact ⟨a, xs, rfl, by rw [← hK]; exact t, e1, e2⟩
  · cases h

/-! ### blocks -/
theorem b_nil : PSs X [] (RdB g xg Γ W []) := pss_nil.imp fun D σ H ⟨ρ, S, As, rep, h⟩ => by
  unfold exB at h
  exact h σ H S As rep Stp.refl
theorem b_cons {st : Stmt} {rest : List Stmt} {s : PL.St} {ss : List PL.St} (h1 : PS X st (RdS g xg Γ W s)) (h2 : PSs X rest (RdB g xg Γ W ss)) : PSs X (st :: rest) (RdB g xg Γ W (s :: ss)) :=
  (pss_cons h1 h2).imp fun D σ H ⟨ρ, S, As, rep, h⟩ => by
    refine ⟨ρ, S, As, rep, ?_⟩
    unfold exB at h
    cases e : exS Γ s ρ with
    | nx ρ' =>
      rw [e] at h
      exact fun σ' H' S' As' r' st' => ⟨ρ', S', As', r', RFS.fw st' r' h⟩
    | rt d n => rw [e] at h; exact h
    | bk ρ' => rw [e] at h; exact h
    | ct ρ' => rw [e] at h; exact h
    | exn x => rw [e] at h; exact h
    | bad => rw [e] at h; exact h
theorem s_pass : PS X (.Pass pos) (RdS g xg Γ W .pass) := ps_pass.imp fun D σ H ⟨ρ, S, As, rep, h⟩ => by unfold exS at h; exact h σ H S As rep Stp.refl
theorem s_brk : PS X (.Break pos) (RdS g xg Γ W .brk) := ps_break.imp fun D σ H ⟨ρ, S, As, rep, h⟩ => by unfold exS at h; exact h σ H S As rep Stp.refl
theorem s_cont : PS X (.Continue pos) (RdS g xg Γ W .cont) := ps_continue.imp fun D σ H ⟨ρ, S, As, rep, h⟩ => by unfold exS at h; exact h σ H S As rep Stp.refl
theorem s_doc {x : Str} {j : Nat} {p2 : Pos} : PS X (.Expr (.Constant (.str x) j pos) p2) (RdS g xg Γ W .pass) := ps_doc.imp fun D σ H ⟨ρ, S, As, rep, h⟩ => by unfold exS at h; exact h σ H S As rep Stp.refl
theorem s_retN : PS X (.Return none pos) (RdS g xg Γ W .retN) := ps_retN.imp fun D σ H ⟨ρ, S, As, rep, h⟩ => by
  unfold exS at h
  exact h .non H S [] (fun a o e _ => e) (fun a q => q) (fun a q => q) (fun a q => .inl q) rep.sz own_non List.nodup_nil (fun a q => nomatch q)
/-- a pure run, all slots seen -/
theorem evA_rf {F : PL.D → Nat → OS} {Q' : VK} (rep : Rep g H S As ρ σ) (h : RFS g xg H S As ρ (match evE Γ xa (viewA ρ) with | .ok d n => F d n | .exn x => .exn x | .bad => .bad) W D)
    (k : ∀ d n v H1 S1 T, OkV g H H1 (fun a => S a ∨ a ∈ As.flatten) S1 n d v T → RFS g xg H S As ρ (F d n) W D → Q' v H1) : RdE g xg Γ W xa σ H Q' := by
  refine ⟨_, _, rep.viewA, ?_⟩
  cases e : evE Γ xa (viewA ρ) with
  | ok d n => rw [e] at h; exact fun v H' S' T o => k d n v H' S' T o h
  | exn x => rw [e] at h; exact exn_fr h
  | bad => rw [e] at h; exact h
theorem s_ret (he : PE X a (RdE g xg Γ W xa)) : PS X (.Return (some a) pos) (RdS g xg Γ W (.ret xa)) := (ps_ret he).imp fun D σ H ⟨ρ, S, As, rep, h⟩ => by
  unfold exS at h
  refine evA_rf (F := fun d n => .rt d n) rep h fun d n v H1 S1 T o h1 => ?_
  have keep : ∀ a, (H a).isSome = true → H1 a = H a := fun a q => by
    cases e : H a with
    | none => rw [e] at q; cases q
    | some u => exact o.ext a u e
  exact h1 v H1 S1 T (fun a u e _ => o.ext a u e) (fun a q => by rw [keep a q]; exact q) (fun a q => o.sub a (.inl q)) (fun a q => (o.new a q).elim (fun q => q.elim .inl fun q => .inr (.inl q)) fun q => .inr (.inr q)) o.sz o.own o.nd fun a q => ⟨(o.fr a q).2, .inr (o.fr a q).1⟩
theorem s_retv {i : Nat} {x : Str} {p2 : Pos} (hN : X.N[i]? = some x) (hv : Vis X.env.scope x) (hd : (x == ("__debug__" : Str)) = false) (hcd : (x == ("__classdict__" : Str)) = false) : PS X (.Return (some (.Name x p2)) pos) (RdS g xg Γ W (.retv i)) :=
  (ps_ret (pe_var hN hv hd hcd)).imp fun D σ H ⟨ρ, S, As, rep, h⟩ => by
    unfold exS at h
    split at h
    · rename_i s e
      obtain ⟨v, A, h1, h2, h3⟩ := rep.at_ i s e
      refine ⟨v, h1, h v H S A (fun a o e _ => e) (fun a q => q) (fun a q => q) (fun a q => .inl q) rep.sz h3 (nd_one rep.nd h2) fun a q => ⟨rep.dis a (mem_flat h2 q), .inl (mem_flat h2 q)⟩⟩
    · exact h.elim
theorem s_ex (he : PE X a (RdE g xg Γ W xa)) (hs : noComp a = true) : PS X (.Expr a pos) (RdS g xg Γ W (.ex xa)) := (ps_expr he (noSwap hs)).imp fun D σ H ⟨ρ, S, As, rep, h⟩ => by
  unfold exS at h
  refine evA_rf (F := fun _ _ => .nx ρ) rep h fun d n v H1 S1 T o h1 => ?_
  obtain ⟨r1, s1⟩ := rep.pure o.fw
  exact h1 _ _ _ _ r1 s1
/-- a test -/
theorem evT_rf {F : Bool → OS} {Q' : Bool → Hp → Prop} (rep : Rep g H S As ρ σ) (h : RFS g xg H S As ρ (match evT Γ xa (viewA ρ) with | .ok b => F b | .exn x => .exn x | .bad => .bad) W D)
    (k : ∀ b H1 S1, evT Γ xa (viewA ρ) = .ok b → Rep g H1 S1 As ρ σ → Stp H S As ρ H1 S1 As ρ → RFS g xg H S As ρ (F b) W D → Q' b H1) : RdT g xg Γ W xa σ H Q' := by
  refine ⟨_, _, rep.viewA, ?_⟩
  cases e : evT Γ xa (viewA ρ) with
  | ok b => rw [e] at h; exact fun H' S' f => let ⟨r1, s1⟩ := rep.pure f; k b H' _ e r1 s1 h
  | exn x => rw [e] at h; exact exn_fr h
  | bad => rw [e] at h; exact h
theorem s_ife {bs cs : List Stmt} {xs ys : List PL.St} (hc : PT X c (RdT g xg Γ W xc)) (hb : PSs X bs (RdB g xg Γ W xs)) (hd : PSs X cs (RdB g xg Γ W ys)) : PS X (.If c bs cs pos) (RdS g xg Γ W (.ife xc xs ys)) :=
  (ps_if hc hb hd).imp fun D σ H ⟨ρ, S, As, rep, h⟩ => by
    unfold exS at h
    refine evT_rf (D := D) (F := fun b => if b then exB Γ xs ρ else exB Γ ys ρ) rep ?_ fun b H1 S1 _ r1 s1 h1 => ?_
    · cases e : evT Γ xc (viewA ρ) with
      | ok b => rw [e] at h; cases b <;> exact h
      | exn x => rw [e] at h; exact h
      | bad => rw [e] at h; exact h
    · cases b with
      | true => exact iteT ⟨ρ, S1, As, r1, RFS.fw s1 r1 h1⟩
      | false => exact iteF ⟨ρ, S1, As, r1, RFS.fw s1 r1 h1⟩

/-! ### loops -/
theorem s_whl {bs : List Stmt} {xs : List PL.St} (hp : PassesOwn (model X.prog X.w) X.A X.env X.xe) (hc : PT X c (RdT g xg Γ W xc)) (hb : PSs X bs (RdB g xg Γ W xs)) : PS X (.While c bs [] pos) (RdS g xg Γ W (.whl xc xs)) := by
  refine (ps_while hp hc hb).imp fun D σ H ⟨ρ, S, As, rep, h⟩ => ?_
  unfold exS at h
  generalize hcf : (fun ρ => evT Γ xc (viewA ρ)) = cf at h
  by_cases hbad : whlC cf (exB Γ xs) ρ = .bad
  · rw [hbad] at h; exact h.elim
  obtain ⟨k0, hk0⟩ := whlC_some hbad
  generalize whlC cf (exB Γ xs) ρ = o at h hk0
  refine ⟨fun k σ H => ∃ ρ S As, Rep g H S As ρ σ ∧ whlN cf (exB Γ xs) k ρ = some o ∧ RFS g xg H S As ρ o W D, ⟨k0, ρ, S, As, rep, hk0, h⟩, fun k σ1 H1 ⟨ρ1, S1, As1, r1, e1, h1⟩ => ?_⟩
  cases k with
  | zero => cases e1
  | succ k =>
    have ec : cf ρ1 = evT Γ xc (viewA ρ1) := by rw [← hcf]
    unfold whlN at e1
    rw [ec] at e1
    refine evT_rf (W := W) (D := { nx := fun _ _ => True, rt := fun _ _ => True }) (F := fun _ => .nx ρ1) r1 ?_ fun b H2 S2 e2 r2 s2 _ => ?_
    · cases e2 : evT Γ xc (viewA ρ1) with
      | ok b => exact fun _ _ _ _ _ _ => trivial
      | exn x => rw [e2] at e1; cases e1; exact h1
      | bad => rw [e2] at e1; cases e1; exact h1.elim
    · rw [e2] at e1
      have h2 := RFS.fw s2 r2 h1
      cases b with
      | false =>
        cases e1
        exact iteF (h2 σ1 H2 S2 As1 r2 Stp.refl)
      | true =>
        dsimp only at e1
        refine iteT ⟨fun σ' H' => ∃ ρ' S' As', Rep g H' S' As' ρ' σ' ∧ whlN cf (exB Γ xs) k ρ' = some o ∧ RFS g xg H' S' As' ρ' o W D, fun σ' H' q => ⟨k, Nat.lt_succ_self k, q⟩, ρ1, S2, As1, r2, ?_⟩
        cases eb : exB Γ xs ρ1 with
        | nx ρ2 => rw [eb] at e1; exact fun σ' H' S' As' r' s' => ⟨ρ2, S', As', r', e1, RFS.fw s' r' h2⟩
        | ct ρ2 => rw [eb] at e1; exact fun σ' H' S' As' r' s' => ⟨ρ2, S', As', r', e1, RFS.fw s' r' h2⟩
        | bk ρ2 => rw [eb] at e1; cases e1; exact fun σ' H' S' As' r' s' => h2 σ' H' S' As' r' s'
        | rt d n => rw [eb] at e1; cases e1; exact h2
        | exn x => rw [eb] at e1; cases e1; exact h2
        | bad => rw [eb] at e1; cases e1; exact h2.elim
/-- one turn of a for -/
theorem for_core (hK : g.K = X.K) {J : It} {xs : List PL.D} {tg : List Nat} {ys : List PL.St} {R : Rg} {H0 : Hp} (wk : Wk g J R H0 xs) (hf : ∀ i ∈ tg, Fre g i)
    (rep : Rep g H S As ρ σ) (h : RFS g xg H S As ρ (forS tg (exB Γ ys) xs ρ) W D)
    (kz : ∀ σ' H' S' As' ρ', Rep g H' S' As' ρ' σ' → Stp H S As ρ H' S' As' ρ' → Kz H0 H' R) (hR : ∀ d v H' S' As' ρ' σ', d ∈ xs → Rep g H' S' As' ρ' σ' → Stp H S As ρ H' S' As' ρ' → Own g H' R 0 d v [] → Own g H' S' 0 d v [])
    (szR : ∀ a, R a → (H a).isSome = true) :
    ∃ Wv : Nat → Nat → L2.St → Hp → Prop, (∃ m, Wv 0 m σ H) ∧ ∀ i m σ H, Wv i m σ H →
      (J.stop i H ∧ D.nx σ H) ∨ (J.go i H ∧ ∃ N : L2.St → Hp → Prop, (∀ σ' H', N σ' H' → ∃ m', m' < m ∧ Wv (i + 1) m' σ' H') ∧ ∀ x H', J.yld i H x H' → gT X.K tg x σ H' fun σ2 H2 => RdB g xg Γ W ys { D with nx := N, ct := N, bk := D.nx } σ2 H2) := by
  obtain ⟨Gd, Y, walk, hG, hY⟩ := wk
  refine for_it walk (fun i σ' H' => ∃ ρ' S' As', Rep g H' S' As' ρ' σ' ∧ Stp H S As ρ H' S' As' ρ' ∧ RFS g xg H' S' As' ρ' (forS tg (exB Γ ys) (xs.drop i) ρ') W D)
    ⟨ρ, S, As, rep, Stp.refl, h⟩ (fun i σ' H' _ ⟨ρ', S', As', r', s', _⟩ => hG H' (kz _ _ _ _ _ r' s')) (fun i x σ' Ha Hb hi ⟨ρ', S', As', r', s', h'⟩ hy => ?_) (fun σ' H' ⟨ρ', S', As', r', s', h'⟩ => ?_)
  · obtain ⟨d, ed, eh, od⟩ := hY i x Ha Hb hi (kz _ _ _ _ _ r' s') (fun a q => s'.dom a (szR a q)) hy
    -- the heap has perhaps a new pair
    have fab : Fw Ha Hb (fun a => S' a ∨ a ∈ As'.flatten) (fun a => S' a ∨ a ∈ As'.flatten) := by
      have szA : ∀ a, (S' a ∨ a ∈ As'.flatten) → (Ha a).isSome = true := fun a q => q.elim (r'.sz a) r'.there
      rcases eh with e | ⟨p, ob, hp, e⟩
      · rw [e]; exact Fw.refl szA
      · rw [e]
        refine ⟨Ext.new hp, fun _ q => q, fun _ q => .inl q, fun a q => ?_⟩
        by_cases e3 : a = p
        · rw [e3, upd_same]; rfl
        · rw [upd_ne e3]; exact szA a q
    obtain ⟨r2, s2⟩ := r'.pure fab
    have dr : xs.drop i = d :: xs.drop (i + 1) := by
      obtain ⟨hl, he⟩ := List.getElem?_eq_some_iff.mp ed
      rw [← he]
      exact List.drop_eq_getElem_cons hl
    rw [dr] at h'
    unfold forS at h'
    have h2 := RFS.fw s2 r2 h'
    have od2 := hR d x Hb _ _ _ _ (List.mem_of_getElem? ed) r2 (s'.trans r' s2) od
    cases et : takeS tg d ρ' with
    | none => rw [et] at h2; exact h2.elim
    | some ρ1 =>
      rw [et] at h2
      dsimp only at h2
      refine takeS_ok hK hf et od2 r2 Stp.refl fun σ2 As2 r3 s3 => ⟨ρ1, _, As2, r3, ?_⟩
      have s03 := (s'.trans r' s2).trans r2 s3
      have h3 := RFS.fw s3 r3 h2
      cases eb : exB Γ ys ρ1 with
      | nx ρ2 => rw [eb] at h3; exact fun σ4 H4 S4 As4 r4 s4 => ⟨ρ2, S4, As4, r4, s03.trans r3 s4, RFS.fw s4 r4 h3⟩
      | ct ρ2 => rw [eb] at h3; exact fun σ4 H4 S4 As4 r4 s4 => ⟨ρ2, S4, As4, r4, s03.trans r3 s4, RFS.fw s4 r4 h3⟩
      | bk ρ2 => rw [eb] at h3; exact h3
      | rt d n => rw [eb] at h3; exact h3
      | exn x => rw [eb] at h3; exact h3
      | bad => rw [eb] at h3; exact h3.elim
  · rw [List.drop_length] at h'
    unfold forS at h'
    exact h' σ' H' S' As' r' Stp.refl

theorem locks_len {l : List Nat} {b : Bool} : ∀ {ρ : En} {k : Nat}, (locks l b k ρ).length = ρ.length
  | [], _ => rfl
  | o :: ρ, k => by simp only [locks, List.length_cons, locks_len]
theorem locks_at {l : List Nat} {b : Bool} : ∀ {ρ : En} {k i : Nat}, (locks l b k ρ)[i]? = (ρ[i]?).map fun o => o.map fun s => if l.contains (k + i) then { s with lk := b } else s
  | [], _, _ => by simp [locks]
  | o :: ρ, k, 0 => by
    simp only [locks, List.getElem?_cons_zero, Option.map_some, Nat.add_zero]
    cases o with
    | none => rfl
    | some s => dsimp only [Option.map_some]; split <;> rfl
  | o :: ρ, k, i + 1 => by
    simp only [locks, List.getElem?_cons_succ]
    rw [locks_at, show k + 1 + i = k + (i + 1) by omega]
theorem Rep.locks {l : List Nat} {b : Bool} (r : Rep g H S As ρ σ) : Rep g H S As (locks l b 0 ρ) σ := by
  refine ⟨r.sz, by rw [locks_len]; exact r.len, by rw [locks_len]; exact r.lenA, fun i s h => ?_, fun i h => ?_, r.nd, r.dis, r.slf⟩
  · rw [locks_at] at h
    cases e : ρ[i]? with
    | none => rw [e] at h; cases h
    | some o =>
      rw [e] at h
      cases o with
      | none => cases h
      | some s0 =>
        obtain ⟨v, A, h1, h2, h3⟩ := r.at_ i s0 e
        simp only [Option.map_some, Option.some.injEq] at h
        subst h
        refine ⟨v, A, h1, h2, ?_⟩
        split <;> exact h3
  · rw [locks_at] at h
    cases e : ρ[i]? with
    | none => rw [e] at h; cases h
    | some o =>
      rw [e] at h
      cases o with
      | none => exact r.no i e
      | some s0 => cases h
theorem lk_locks {l : List Nat} {i : Nat} {a : Addr} (h : Lk ρ As i a) : Lk (locks l true 0 ρ) As i a := by
  obtain ⟨s, A, h1, h2, h3, h4⟩ := h
  refine ⟨if l.contains i then { s with lk := true } else s, A, by rw [locks_at, h1]; simp only [Option.map_some, Nat.zero_add], ?_, h3, h4⟩
  split
  · rfl
  · exact h2
theorem lk_unlocks {l : List Nat} {i : Nat} {a : Addr} (hn : l.contains i = false) (h : Lk ρ As i a) : Lk (locks l false 0 ρ) As i a := by
  obtain ⟨s, A, h1, h2, h3, h4⟩ := h
  refine ⟨s, A, by rw [locks_at, h1]; simp only [Option.map_some, Nat.zero_add, hn, Bool.false_eq_true, if_false], h2, h3, h4⟩
theorem any_not {l : List Nat} {i : Nat} (h : anyLocked l ρ = false) (hc : l.contains i = true) : lockedAt i ρ = false := by
  unfold anyLocked at h
  rw [List.any_eq_false] at h
  have := h i (by simpa using hc)
  simpa using this
/-- in and out of locks -/
theorem RFS.unlock {l : List Nat} {o : OS} (hl : anyLocked l ρ = false) (h : RFS g xg H S As ρ (o.unlock l) W D) : RFS g xg H S As (locks l true 0 ρ) o W { D with bk := fun _ _ => False, ct := fun _ _ => False } := by
  have frs : ∀ {H' : Hp}, (∀ a o, H a = some o → (a ∉ As.flatten ∨ ∃ i, Lk (locks l true 0 ρ) As i a) → H' a = some o) → ∀ a o, H a = some o → (a ∉ As.flatten ∨ ∃ i, Lk ρ As i a) → H' a = some o :=
    fun {H'} k a o e q => k a o e (q.imp id fun ⟨i, z⟩ => ⟨i, lk_locks z⟩)
  cases o with
  | nx ρ' =>
    intro σ' H' S' As' r' s'
    refine h σ' H' S' As' r'.locks ⟨frs s'.fr, s'.dom, s'.sub, s'.new, s'.ow, fun i a q => ?_⟩
    rcases s'.lk i a (lk_locks q) with z | z
    · refine .inl (lk_unlocks ?_ z)
      cases hc : l.contains i with
      | false => rfl
      | true => exact absurd q (not_locked (any_not hl hc))
    · exact .inr z
  | bk ρ' => exact h.elim
  | ct ρ' => exact h.elim
  | rt d n => exact fun v H' S' T k1 => h v H' S' T (frs k1)
  | exn e => exact fun cls dd σ' H' k1 => h cls dd σ' H' (frs k1)
  | bad => exact h
theorem imm_own {R R' : Rg} {d : PL.D} {v : V} {xs : List PL.D} (hi : immBL 0 xs = true) (hd : d ∈ xs) (o : Own g H R 0 d v []) : Own g H R' 0 d v [] := by
  refine Own.imm (Nat.le_refl 0) ?_ o
  induction xs with
  | nil => cases hd
  | cons x xs ih =>
    simp only [immBL, Bool.and_eq_true] at hi
    rcases List.mem_cons.mp hd with rfl | hd
    · exact hi.1
    · exact ih hi.2 hd
theorem s_fo {tgE iter : Expr} {body : List Stmt} {k : SK} {args : List Ex} {tg lk : List Nat} {f : Fz} {ys : List PL.St} (hK : g.K = X.K) (hp : PassesOwn (model X.prog X.w) X.A X.env X.xe) (hc : X.calm = true) (hi : PI X tgE iter (RdI g xg Γ W k args)) (hg : PG X tgE (gT X.K tg)) (hb : PSs X body (RdB g xg Γ W ys))
    (hs : noSet iter = true) (htg : ∀ i ∈ tg, Fre g i) : PS X (.For tgE iter body [] pos) (RdS g xg Γ W (.fo k args tg lk f ys)) := by
  refine (ps_for hp hc hi hg hb (noFold hs)).imp fun D σ H ⟨ρ, S, As, rep, h⟩ => ?_
  unfold exS at h
  cases hr : k.isRng with
  | true =>
    rw [hr] at h
    simp only [if_true] at h
    refine ⟨_, _, rep.viewA, ?_⟩
    cases e : evL Γ args (viewA ρ) with
    | exn x => rw [e] at h; exact exn_fr h
    | bad => rw [e] at h; exact h.elim
    | ok l =>
      rw [e] at h
      dsimp only at h
      cases e2 : items k (l.map (·.1)) with
      | none => rw [e2] at h; exact h.elim
      | some xs =>
        rw [e2] at h
        refine ⟨xs, e2, fun J H1 S1 f1 w0 => ?_⟩
        rw [hr] at w0
        obtain ⟨r1, s1⟩ := rep.pure f1
        exact for_core hK w0 htg r1 (RFS.fw s1 r1 h) (fun σ' H' S' As' ρ' r' s' => ⟨fun a q => q.elim, fun a xs q => by
          have hq : a ∉ As.flatten := fun z => by
            obtain ⟨i, A, z1, z2⟩ := of_flat z
            obtain ⟨sl, v, _, _, o⟩ := r1.slot z1 z2
            exact Own.notup o a z2 xs q
          rcases q with q | ⟨ob, q⟩
          · exact .inl (s'.fr a _ q (.inl hq))
          · exact .inr ⟨ob, s'.fr a _ q (.inl hq)⟩⟩) (fun d v H' S' As' ρ' σ' _ _ _ o => o.keep ⟨(fun a h => nomatch h), fun a q => q.elim, fun _ _ q => q⟩) (fun a q => q.elim)
  | false =>
    rw [hr] at h
    simp only [Bool.false_eq_true, if_false] at h
    cases f with
    | fz q =>
      dsimp only at h
      refine ⟨_, _, rep.viewF q, ?_⟩
      cases e : evL Γ args (viewF q 0 ρ) with
      | exn x => rw [e] at h; exact exn_fr h
      | bad => rw [e] at h; exact h.elim
      | ok l =>
        rw [e] at h
        dsimp only at h
        cases e2 : items k (l.map (·.1)) with
        | none => rw [e2] at h; exact h.elim
        | some xs =>
          rw [e2] at h
          refine ⟨xs, e2, fun J H1 S1 f1 w0 => ?_⟩
          rw [hr] at w0
          obtain ⟨r1, s1⟩ := rep.given (l := q) f1
          refine for_core hK w0 htg r1 (RFS.fw s1 r1 h) (fun σ' H' S' As' ρ' r' s' => ⟨fun a q => ?_, fun a xs q => ?_⟩) (fun d v H' S' As' ρ' σ' _ _ s' o => o.keep ⟨(fun a h => nomatch h), fun a q => ⟨s'.sub a q, rfl⟩, fun _ _ q => q⟩) r1.sz
          · have hs := r1.sz a q
            cases e3 : H1 a with
            | none => rw [e3] at hs; cases hs
            | some o => exact s'.fr a o e3 (.inl fun z => r1.dis a z q)
          · have hq : a ∉ (frzA _ 0 As).flatten := fun z => by
              obtain ⟨i, A, z1, z2⟩ := of_flat z
              obtain ⟨sl, v, _, _, o⟩ := r1.slot z1 z2
              exact Own.notup o a z2 xs q
            rcases q with q | ⟨ob, q⟩
            · exact .inl (s'.fr a _ q (.inl hq))
            · exact .inr ⟨ob, s'.fr a _ q (.inl hq)⟩
    | imm =>
      dsimp only at h
      refine ⟨_, _, rep.viewF lk, ?_⟩
      cases e : evL Γ args (viewF lk 0 ρ) with
      | exn x => rw [e] at h; exact exn_fr h
      | bad => rw [e] at h; exact h.elim
      | ok l =>
        rw [e] at h
        dsimp only at h
        cases e2 : items k (l.map (·.1)) with
        | none => rw [e2] at h; exact h.elim
        | some xs =>
          rw [e2] at h
          refine ⟨xs, e2, fun J H1 S1 f1 w0 => ?_⟩
          rw [hr] at w0
          dsimp only at h
          split at h
          · rename_i hz
            simp only [Bool.and_eq_true, Bool.not_eq_true'] at hz
            obtain ⟨hi0, hl0⟩ := hz
            have f2 : Fw H H1 (fun a => S a ∨ a ∈ As.flatten) (fun a => S1 a ∨ a ∈ As.flatten) := by
              refine ⟨f1.ext, fun a q => q.elim (fun q => .inl (f1.sub a (.inl q))) .inr, fun a q => ?_, fun a q => ?_⟩
              · rcases q with q | q
                · rcases f1.new a q with (z | ⟨i, A, _, z1, z2⟩) | z
                  · exact .inl (.inl z)
                  · exact .inl (.inr (mem_flat z1 z2))
                  · exact .inr z
                · exact .inl (.inr q)
              · rcases q with q | q
                · exact f1.sz a q
                · have := rep.there q
                  cases e3 : H a with
                  | none => rw [e3] at this; cases this
                  | some o => rw [f1.ext a o e3]; rfl
            obtain ⟨r1, s1⟩ := rep.pure f2
            have h1 := RFS.unlock (l := lk) hl0 (RFS.fw s1 r1 h)
            have key := for_core (D := { D with bk := fun _ _ => False, ct := fun _ _ => False }) (W := W) (xg := xg) hK w0 htg (r1.locks (l := lk) (b := true)) h1 (fun σ' H' S' As' ρ' r' s' => ⟨fun a q => ?_, fun a xs q => ?_⟩) (fun d v H' S' As' ρ' σ' hd _ s' o => imm_own hi0 hd o) (fun a q => f1.sz a q)
            · exact key
            · have hs := f1.sz a q
              cases e3 : H1 a with
              | none => rw [e3] at hs; cases hs
              | some o =>
                refine s'.fr a o e3 ?_
                rcases f1.new a q with (z | ⟨i, A, z0, z1, z2⟩) | z
                · exact .inl fun y => rep.dis a y z
                · obtain ⟨sl, v, y1, y2, y3⟩ := rep.slot z1 z2
                  exact .inr ⟨i, { sl with lk := true }, A, by rw [locks_at, y1]; simp only [Option.map_some, Nat.zero_add, z0, if_true], rfl, z1, z2⟩
                · refine .inl fun y => ?_
                  have := rep.there y
                  rw [z] at this
                  cases this
            · have hq : a ∉ As.flatten := fun z => by
                obtain ⟨i, A, z1, z2⟩ := of_flat z
                obtain ⟨sl, v, _, _, o⟩ := r1.slot z1 z2
                exact Own.notup o a z2 xs q
              rcases q with q | ⟨ob, q⟩
              · exact .inl (s'.fr a _ q (.inl hq))
              · exact .inr ⟨ob, s'.fr a _ q (.inl hq)⟩
          · exact h.elim
end
end PL
/-! PL12: comprehensions as values, stored ones; pairs of stores; unpacking. -/
namespace PL
open PySem L2 PyProof.Rows
section
variable {g : G} {xg : XG} {Γ : Fe} {X : Cx} {W : WX} {H H1 : Hp} {S S1 : Rg} {As As1 : List Fp} {ρ ρ1 : En} {σ : L2.St} {D : Ends} {a b c : Expr} {xa xb xc : Ex} {pos : Pos}

theorem tYes_of (σ : L2.St) (H : Hp) (Q : Bool → Hp → Prop) (S : Rg) (δ : Ev) (rep : Rep0 g H S δ σ) (h : RFT g xg H S (.ok true) (fun _ _ _ => False) Q) : tYes σ H Q := h H S (Fw.refl rep.sz)
theorem e_comp {elt tgE iter : Expr} {scope : Scope} {own : List (Str × Nat)} {k : SK} {args : List Ex} {tg : List Nat} {xelt : Ex} (hK : g.K = X.K) (hc : X.calm = true) (hN : X.N.Nodup) (hi : PI X tgE iter (RdI g xg Γ W k args)) (ok : BlkOk X.N X.env.scope scope own) (ho : own.map (·.2) = tg)
    (hg : ∀ (s : Shared) (H : Hp) (C : Addr) (cl : List (Str × Addr)) (fp : List Addr), PG (X.blk s H scope (compEnvC scope cl C X.env) fp) tgE (gT X.K tg))
    (he : ∀ (s : Shared) (H : Hp) (C : Addr) (cl : List (Str × Addr)) (fp : List Addr), PE (X.blk s H scope (compEnvC scope cl C X.env) fp) elt (RdE g xg Γ W0 xelt)) (hs : noSet iter = true) :
    PE X (.ListComp elt [⟨tgE, iter, [], 0⟩] scope pos) (RdE g xg Γ W (.comp k args tg xelt)) := by
  refine (pe_lc hc hN hi ok hg (fun _ _ _ _ _ => pts_nil) he (noFold hs)).imp fun σ H Q ⟨S, δ, rep, h⟩ => ?_
  rw [ho]
  unfold evE at h
  exact comp_core hK (tYes_of (g := g) (xg := xg)) rep h
theorem e_compIf {elt tgE iter cnd : Expr} {scope : Scope} {own : List (Str × Nat)} {k : SK} {args : List Ex} {tg : List Nat} {xelt xcnd : Ex} (hK : g.K = X.K) (hc : X.calm = true) (hN : X.N.Nodup) (hi : PI X tgE iter (RdI g xg Γ W k args)) (ok : BlkOk X.N X.env.scope scope own) (ho : own.map (·.2) = tg)
    (hg : ∀ (s : Shared) (H : Hp) (C : Addr) (cl : List (Str × Addr)) (fp : List Addr), PG (X.blk s H scope (compEnvC scope cl C X.env) fp) tgE (gT X.K tg))
    (ht : ∀ (s : Shared) (H : Hp) (C : Addr) (cl : List (Str × Addr)) (fp : List Addr), PT (X.blk s H scope (compEnvC scope cl C X.env) fp) cnd (RdT g xg Γ W0 xcnd))
    (he : ∀ (s : Shared) (H : Hp) (C : Addr) (cl : List (Str × Addr)) (fp : List Addr), PE (X.blk s H scope (compEnvC scope cl C X.env) fp) elt (RdE g xg Γ W0 xelt)) (hs : noSet iter = true) :
    PE X (.ListComp elt [⟨tgE, iter, [cnd], 0⟩] scope pos) (RdE g xg Γ W (.compIf k args tg xelt xcnd)) := by
  refine (pe_lc hc hN hi ok hg (fun s H C cl fp => pts_one (ht s H C cl fp)) he (noFold hs)).imp fun σ H Q ⟨S, δ, rep, h⟩ => ?_
  rw [ho]
  unfold evE at h
  exact comp_core hK (cnd := fun δ => evT Γ xcnd δ) (fun σ H Q S δ rep h => ⟨S, δ, rep, h⟩) rep h
/-- what is stored at a slot, whatever its rule -/
theorem asg_of {i : Nat} {f : Fz} {te : TE} {t : TS} (ht : ∀ D σ H, RdS g xg Γ W (.asg i xa f) D σ H → t D σ H) {st : Stmt} (h : PS X st t) : PS X st (RdS g xg Γ W (.asg i xa f)) := h.imp ht
theorem s_asgSw {i : Nat} {x : Str} {e : Expr} {f : Fz} {p2 : Pos} (hN : X.N.Nodup) (hi : X.N[i]? = some x) (hx : Loc X.env.scope x) (he : PE X e (RdE g xg Γ W xa)) (hs : swapsWith e (some (.Name x p2)) pos.line X.env = pure false) (hf : X.fn x = true ∨ X.env.scope.names.lookup x = some .local) (hz : Fre g i) : PS X (.Assign [.Name x p2] e pos) (RdS g xg Γ W (.asg i xa f)) :=
  (ps_set hN hi hx he hs hf).imp fun D σ H ⟨ρ, S, As, rep, h⟩ => by
    unfold exS at h
    exact evP_rf rep h fun d n v ρ1 H1 S1 As1 T _ r1 st o nd fr h1 => putS_rf r1 st o nd fr hz h1
theorem s_asgLc {i : Nat} {x : Str} {f : Fz} {p2 spos : Pos} {elt tgE iter : Expr} {scope : Scope} {own : List (Str × Nat)} {k : SK} {args : List Ex} {tg : List Nat} {xelt : Ex} (hK : g.K = X.K) (hc : X.calm = true) (hN : X.N.Nodup) (hy : X.N[i]? = some x) (hyl : X.env.scope.names.lookup x = some .local)
    (hsw : swapsWith (.ListComp elt [⟨tgE, iter, [], 0⟩] scope pos) (some (.Name x p2)) spos.line X.env = pure true) (hi : PI X tgE iter (RdI g xg Γ W k args)) (ok : BlkOk X.N X.env.scope scope own) (ho : own.map (·.2) = tg)
    (hg : ∀ (s : Shared) (H : Hp) (C : Addr) (cl : List (Str × Addr)) (fp : List Addr), PG (X.blk s H scope (compEnvC scope cl C X.env) fp) tgE (gT X.K tg))
    (he : ∀ (s : Shared) (H : Hp) (C : Addr) (cl : List (Str × Addr)) (fp : List Addr), PE (X.blk s H scope (compEnvC scope cl C X.env) fp) elt (RdE g xg Γ W0 xelt)) (hs : noSet iter = true) (hz : Fre g i) :
    PS X (.Assign [.Name x p2] (.ListComp elt [⟨tgE, iter, [], 0⟩] scope pos) spos) (RdS g xg Γ W (.asg i (.comp k args tg xelt) f)) :=
  (ps_setLc hc hN hy hyl hsw hi ok hg (fun _ _ _ _ _ => pts_nil) he (noFold hs)).imp fun D σ H ⟨ρ, S, As, rep, h⟩ => by
    unfold exS at h
    rw [ho]
    obtain ⟨S0, δ, rep0, h0⟩ := evP_rf (Q' := fun v H1 => D.nx (σ.set i (some v)) H1) rep h fun d n v ρ1 H1 S1 As1 T _ r1 st o nd fr h1 => putS_rf r1 st o nd fr hz h1
    unfold evE at h0
    exact comp_core hK (tYes_of (g := g) (xg := xg)) rep0 h0
theorem s_asgLcIf {i : Nat} {x : Str} {f : Fz} {p2 spos : Pos} {elt tgE iter cnd : Expr} {scope : Scope} {own : List (Str × Nat)} {k : SK} {args : List Ex} {tg : List Nat} {xelt xcnd : Ex} (hK : g.K = X.K) (hc : X.calm = true) (hN : X.N.Nodup) (hy : X.N[i]? = some x) (hyl : X.env.scope.names.lookup x = some .local)
    (hsw : swapsWith (.ListComp elt [⟨tgE, iter, [cnd], 0⟩] scope pos) (some (.Name x p2)) spos.line X.env = pure true) (hi : PI X tgE iter (RdI g xg Γ W k args)) (ok : BlkOk X.N X.env.scope scope own) (ho : own.map (·.2) = tg)
    (hg : ∀ (s : Shared) (H : Hp) (C : Addr) (cl : List (Str × Addr)) (fp : List Addr), PG (X.blk s H scope (compEnvC scope cl C X.env) fp) tgE (gT X.K tg))
    (ht : ∀ (s : Shared) (H : Hp) (C : Addr) (cl : List (Str × Addr)) (fp : List Addr), PT (X.blk s H scope (compEnvC scope cl C X.env) fp) cnd (RdT g xg Γ W0 xcnd))
    (he : ∀ (s : Shared) (H : Hp) (C : Addr) (cl : List (Str × Addr)) (fp : List Addr), PE (X.blk s H scope (compEnvC scope cl C X.env) fp) elt (RdE g xg Γ W0 xelt)) (hs : noSet iter = true) (hz : Fre g i) :
    PS X (.Assign [.Name x p2] (.ListComp elt [⟨tgE, iter, [cnd], 0⟩] scope pos) spos) (RdS g xg Γ W (.asg i (.compIf k args tg xelt xcnd) f)) :=
  (ps_setLc hc hN hy hyl hsw hi ok hg (fun s H C cl fp => pts_one (ht s H C cl fp)) he (noFold hs)).imp fun D σ H ⟨ρ, S, As, rep, h⟩ => by
    unfold exS at h
    rw [ho]
    obtain ⟨S0, δ, rep0, h0⟩ := evP_rf (Q' := fun v H1 => D.nx (σ.set i (some v)) H1) rep h fun d n v ρ1 H1 S1 As1 T _ r1 st o nd fr h1 => putS_rf r1 st o nd fr hz h1
    unfold evE at h0
    exact comp_core hK (cnd := fun δ => evT Γ xcnd δ) (fun σ H Q S δ rep h => ⟨S, δ, rep, h⟩) rep0 h0

/-! ### a, b = x, y -/
theorem s_par {i j : Nat} {x y : Str} {px py pt pt2 : Pos} {kt k2 : Nat} (hc : X.calm = true) (hN : X.N.Nodup) (hi : X.N[i]? = some x) (hj : X.N[j]? = some y)
    (hx : X.env.scope.names.lookup x = some .local) (hy : X.env.scope.names.lookup y = some .local) (ha : PA X [a, b] (RdA g xg Γ W [xa, xb])) (hij : i ≠ j)
    (hw : swappedStores [.Tuple [.Name x px, .Name y py] kt pt] (.Tuple [a, b] k2 pt2) X.env = pure (some [x, y])) (hz : Fre g i) (hz2 : Fre g j) :
    PS X (.Assign [.Tuple [.Name x px, .Name y py] kt pt] (.Tuple [a, b] k2 pt2) pos) (RdS g xg Γ W (.par i j xa xb)) := by
  refine (ps_par hc hN hi hj hij hx hy ha hw rfl).imp fun D σ H ⟨ρ, S, As, rep, h⟩ => ?_
  unfold exS at h
  refine ⟨_, _, rep.viewA, ?_⟩
  cases e : evL Γ [xa, xb] (viewA ρ) with
  | exn x => rw [e] at h; exact exn_fr h
  | bad => rw [e] at h; exact h.elim
  | ok l =>
    rw [e] at h
    split at h
    · rename_i d1 n1 d2 n2 eq
      cases eq
      split at h
      · rename_i hh
        simp only [Bool.and_eq_true] at hh
        obtain ⟨⟨i1, i2⟩, _⟩ := hh
        intro vs H' S' A f ow nd fr
        have f2 : Fw H H' (fun a => S a ∨ a ∈ As.flatten) (fun a => S' a ∨ a ∈ A) := ⟨f.ext, fun a q => .inl (f.sub a q), fun a q => q.elim (f.new a) fun q => .inr (fr a q).1, fun a q => q.elim (f.sz a) fun q => ow.there a q⟩
        unfold OwnN at ow
        obtain ⟨v, ys, B, C, rfl, rfl, o1, ow2⟩ := ow
        unfold OwnN at ow2
        obtain ⟨w, zs, B2, C2, rfl, rfl, o2, ow3⟩ := ow2
        unfold OwnN at ow3
        obtain ⟨rfl, rfl⟩ := ow3
        refine ⟨v, w, rfl, ?_⟩
        obtain ⟨r1, s1⟩ := rep.pure f
        have n1' := List.nodup_append.mp nd
        have n2' := List.nodup_append.mp n1'.2.1
        have frs : ∀ a ∈ B ++ (B2 ++ []), a ∉ As.flatten ∧ ¬ S a := fun a q => by
          refine ⟨fun z => ?_, fun z => ?_⟩
          · have := rep.there z
            rw [(fr a q).1] at this
            cases this
          · have := rep.sz a z
            rw [(fr a q).1] at this
            cases this
        unfold putS at h
        split at h
        · exact h.elim
        · rename_i hl1
          simp only [OS.seq_nx] at h
          have o1' : Own g H' (fun a => S a ∨ S' a ∧ H a = none) n1 d1 v B := o1.imm (Nat.le_refl _) i1
          have o2' : Own g H' (fun a => S a ∨ S' a ∧ H a = none) n2 d2 w B2 := o2.imm (Nat.le_refl _) i2
          have nS : ∀ a ∈ B ++ (B2 ++ []), ¬ (S a ∨ S' a ∧ H a = none) := fun a q z => z.elim (frs a q).2 fun z => (fr a q).2 z.1
          obtain ⟨r2, s2⟩ := put_ok r1 s1 o1' n1'.1 (fun a q => ⟨.inr (fr a (List.mem_append_left _ q)).1, nS a (List.mem_append_left _ q), fun j A h1 _ h2 => (frs a (List.mem_append_left _ q)).1 (mem_flat h1 h2)⟩) (Bool.eq_false_iff.mpr hl1) (fun w hw e => absurd e (hz w hw))
          split at h
          · exact h.elim
          · rename_i hl2
            obtain ⟨r3, s3⟩ := put_ok (i := j) r2 s2 o2' n2'.1 (fun a q => by
              have qa : a ∈ B ++ (B2 ++ []) := List.mem_append_right _ (List.mem_append_left _ q)
              refine ⟨.inr (fr a qa).1, nS a qa, fun j' A h1 _ h2 => ?_⟩
              rcases set_at h1 with ⟨rfl, e⟩ | ⟨hne, e⟩
              · subst e
                exact n1'.2.2 a h2 a (List.mem_append_left _ q) rfl
              · exact (frs a qa).1 (mem_flat e h2)) (Bool.eq_false_iff.mpr hl2) (fun w hw e => absurd e (hz2 w hw))
            exact h _ _ _ _ r3 s3
      · exact h.elim
    · rename_i hx
      cases hx
    · exact h.elim

/-! ### a, b, .. = e -/
/-- what is owned is given up -/
theorem give {n : Nat} {d : PL.D} {v : V} {T : Fp} (r1 : Rep g H1 S1 As1 ρ1 σ) (st : Stp H S As ρ H1 S1 As1 ρ1) (o : Own g H1 S1 n d v T) (fr : ∀ a ∈ T, H a = none ∧ ¬ S1 a ∧ a ∉ As1.flatten) :
    ∃ S2, Rep g H1 S2 As1 ρ1 σ ∧ Stp H S As ρ H1 S2 As1 ρ1 ∧ Own g H1 S2 0 d v [] := by
  obtain ⟨B, C, k1, k2⟩ := Own.weak (m := 0) (Nat.zero_le _) o
  have k3 := k1 (fun a => S1 a ∨ a ∈ T) (fun a q => .inl q) (fun a q => .inr ((k2.1 a).mpr (.inr q)))
  have e := k3.zero
  subst e
  refine ⟨_, ⟨fun a q => q.elim (r1.sz a) fun q => o.there a q, r1.len, r1.lenA, fun i s h => ?_, r1.no, r1.nd, fun a q z => z.elim (r1.dis a q) fun z => (fr a z).2.2 q, r1.slf⟩,
    ⟨st.fr, st.dom, fun a q => .inl (st.sub a q), fun a q => q.elim (st.new a) fun q => .inr (.inr (fr a q).1), st.ow, fun i a q => (st.lk i a q).elim .inl fun q => .inr (.inl q)⟩, k3⟩
  obtain ⟨v, A, h1, h2, h3⟩ := r1.at_ i s h
  exact ⟨v, A, h1, h2, h3.keep ⟨fun _ _ => rfl, fun a q => ⟨.inl q, rfl⟩, fun _ _ q => q⟩⟩
theorem s_asgs {es : List Expr} {kt : Nat} {pt : Pos} {e : Expr} {f : Fz} {tg : List Nat} (hK : g.K = X.K) (hc : X.calm = true) (hgs : PGs X es (gNames tg)) (hn : (assignEach es X.env).length = tg.length) (hst : (assignEach es X.env).findIdx? (·.1) = none)
    (he : PE X e (RdE g xg Γ W xa)) (hs : swapsWithSole [.Tuple es kt pt] e pos.line X.env = pure false) (hw : swappedStores [.Tuple es kt pt] e X.env = pure none) (hz : ∀ i ∈ tg, Fre g i) : PS X (.Assign [.Tuple es kt pt] e pos) (RdS g xg Γ W (.asgs tg xa f)) := by
  refine PS.pick fun D σ H ⟨ρ, S, As, rep, h⟩ => ?_
  unfold exS at h
  have key : ∀ (gt : TG), PG X (.Tuple es kt pt) gt → (∀ d n v ρ1 H1 S1 As1, evP Γ xa f ρ = .ok d n ρ1 → Rep g H1 S1 As1 ρ1 σ → Stp H S As ρ H1 S1 As1 ρ1 → Own g H1 S1 0 d v [] →
      RFS g xg H S As ρ (match d with
        | .tup l => (match bindS tg l ρ1 with | some ρ2 => .nx ρ2 | none => .bad)
        | .lst l => (match bindS tg l ρ1 with | some ρ2 => .nx ρ2 | none => .bad)
        | _ => .bad) W D → gt v σ H1 D.nx) → ∃ t, PS X (.Assign [.Tuple es kt pt] e pos) t ∧ t D σ H := fun gt hg k =>
    ⟨_, ps_asg he hg hs hw rfl, evP_rf rep h fun d n v ρ1 H1 S1 As1 T e1 r1 st o nd fr h1 => by
      obtain ⟨S2, r2, s2, o2⟩ := give r1 st o fr
      exact k d n v ρ1 H1 S2 As1 e1 r2 s2 o2 h1⟩
  cases e1 : evP Γ xa f ρ with
  | ok d n ρ1 =>
    cases d with
    | lst l =>
      refine key _ (pg_lst hc hgs hn hst) fun d' n' v ρ1' H1 S1 As1 e2 r1 st o h1 => ?_
      rw [e1] at e2
      cases e2
      cases eb : bindS tg l ρ1 with
      | some ρ2 =>
        simp only [eb] at h1
        obtain ⟨a, xs, rfl, _, t, l1⟩ := own_lst_v o
        obtain ⟨e3, h3⟩ := bindS_ok (Q := D.nx) hz eb l1 r1 st fun σ2 As2 r2 s2 => h1 _ _ _ _ r2 s2
        exact ⟨a, xs, rfl, rdL t, e3, h3⟩
      | none => simp only [eb] at h1; exact h1.elim
    | tup l =>
      refine key _ (pg_tup hc hgs hn hst) fun d' n' v ρ1' H1 S1 As1 e2 r1 st o h1 => ?_
      rw [e1] at e2
      cases e2
      cases eb : bindS tg l ρ1 with
      | some ρ2 =>
        simp only [eb] at h1
        obtain ⟨a, xs, rfl, t, l1⟩ := own_tup_v o
        obtain ⟨e3, h3⟩ := bindS_ok (Q := D.nx) hz eb l1 r1 st fun σ2 As2 r2 s2 => h1 _ _ _ _ r2 s2
        exact ⟨a, xs, rfl, by rw [← hK]; exact t, e3, h3⟩
      | none => simp only [eb] at h1; exact h1.elim
    | _ => rw [e1] at h; exact h.elim
  | exn x =>
    refine key _ (pg_tup hc hgs hn hst) fun d' n' v ρ1' H1 S1 As1 e2 r1 st o h1 => ?_
    rw [e1] at e2
    cases e2
  | bad => rw [e1] at h; exact h.elim
end
end PL
namespace PL
open PySem L2 PyProof.Rows
/-- from v along the path stands r -/
inductive VP (g : G) (H : Hp) : V → List PS1 → V → Prop where
  | nil {v : V} : VP g H v [] v
  | ixl {a : Addr} {xs : List V} {k : Int} {x r : V} {ps : List PS1} (t : Rd H a (.lst xs)) (e : atI xs k = some x) (h : VP g H x ps r) : VP g H (.ref a) (.ix k :: ps) r
  | ixt {a : Addr} {xs : List V} {k : Int} {x r : V} {ps : List PS1} (t : Rd H a (.tup xs)) (e : atI xs k = some x) (h : VP g H x ps r) : VP g H (.ref a) (.ix k :: ps) r
  | fld {a C dx : Addr} {fs : List (Str × V)} {f : Nat} {x r : V} {ps : List PS1} (t : H a = some (.ins C dx fs)) (e : fs.lookup (g.AN f) = some x) (h : VP g H x ps r) : VP g H (.ref a) (.fld f :: ps) r
theorem rd_fun {H : Hp} {a : Addr} {u w : HO} (h1 : Rd H a u) (h2 : Rd H a w) (hu : ∀ o x, u ≠ .frz o x) (hw : ∀ o x, w ≠ .frz o x) : u = w := by
  rcases h1 with h1 | ⟨o, h1⟩ <;> rcases h2 with h2 | ⟨o', h2⟩ <;> rw [h1] at h2 <;> cases h2 <;> first | rfl | exact absurd rfl (hu _ _) | exact absurd rfl (hw _ _)
theorem rd_ll {H : Hp} {a : Addr} {xs ys : List V} (h1 : Rd H a (.lst xs)) (h2 : Rd H a (.lst ys)) : xs = ys := by
  have := rd_fun h1 h2 (fun _ _ q => by cases q) (fun _ _ q => by cases q)
  cases this
  rfl
theorem rd_tt {H : Hp} {a : Addr} {xs ys : List V} (h1 : Rd H a (.tup xs)) (h2 : Rd H a (.tup ys)) : xs = ys := by
  have := rd_fun h1 h2 (fun _ _ q => by cases q) (fun _ _ q => by cases q)
  cases this
  rfl
theorem rd_lt {H : Hp} {a : Addr} {xs ys : List V} (h1 : Rd H a (.lst xs)) (h2 : Rd H a (.tup ys)) : False := by
  have := rd_fun h1 h2 (fun _ _ q => by cases q) (fun _ _ q => by cases q)
  cases this
theorem VP.ext {g : G} {H H' : Hp} (e : Ext H H') {v r : V} {ps : List PS1} (h : VP g H v ps r) : VP g H' v ps r := by
  induction h with
  | nil => exact .nil
  | ixl t e1 _ ih => exact .ixl (e.rd t) e1 ih
  | ixt t e1 _ ih => exact .ixt (e.rd t) e1 ih
  | fld t e1 _ ih => exact .fld (e _ _ t) e1 ih
theorem VP.det {g : G} {H : Hp} {v r : V} {ps : List PS1} (h : VP g H v ps r) : ∀ {r' : V}, VP g H v ps r' → r = r' := by
  induction h with
  | nil => intro r' h'; cases h'; rfl
  | ixl t e1 _ ih =>
    intro r' h'
    cases h' with
    | ixl t' e2 h2 => have := rd_ll t t'; subst this; rw [e1] at e2; cases e2; exact ih h2
    | ixt t' e2 h2 => exact (rd_lt t t').elim
  | ixt t e1 _ ih =>
    intro r' h'
    cases h' with
    | ixl t' e2 h2 => exact (rd_lt t' t).elim
    | ixt t' e2 h2 => have := rd_tt t t'; subst this; rw [e1] at e2; cases e2; exact ih h2
  | fld t e1 _ ih =>
    intro r' h'
    cases h' with
    | fld t' e2 h2 => rw [t] at t'; cases t'; rw [e1] at e2; cases e2; exact ih h2
theorem VP.app {g : G} {H : Hp} {v r w : V} {ps qs : List PS1} (h : VP g H v ps r) (k : VP g H r qs w) : VP g H v (ps ++ qs) w := by
  induction h with
  | nil => exact k
  | ixl t e1 _ ih => exact .ixl t e1 (ih k)
  | ixt t e1 _ ih => exact .ixt t e1 (ih k)
  | fld t e1 _ ih => exact .fld t e1 (ih k)
theorem VP.split {g : G} {H : Hp} {qs : List PS1} {w : V} : ∀ {ps : List PS1} {v : V}, VP g H v (ps ++ qs) w → ∃ r, VP g H v ps r ∧ VP g H r qs w
  | [], v, h => ⟨v, .nil, h⟩
  | p :: ps, v, h => by
    have h' : VP g H v (p :: (ps ++ qs)) w := h
    cases h' with
    | ixl t e h => obtain ⟨r, h1, h2⟩ := VP.split h; exact ⟨r, .ixl t e h1, h2⟩
    | ixt t e h => obtain ⟨r, h1, h2⟩ := VP.split h; exact ⟨r, .ixt t e h1, h2⟩
    | fld t e h => obtain ⟨r, h1, h2⟩ := VP.split h; exact ⟨r, .fld t e h1, h2⟩
section
variable {g : G} {H : Hp} {S : Rg}
/-- one of the items, and how it is put back -/
theorem OwnL.split {n : Nat} : ∀ {ds : List PL.D} {xs : List V} {A : Fp} {j : Nat} {d : PL.D}, OwnL g H S n ds xs A → ds[j]? = some d →
    ∃ x B1 B B2, xs[j]? = some x ∧ A = B1 ++ B ++ B2 ∧ Own g H S n d x B ∧ ∀ (H' : Hp) (S' : Rg) (d' : PL.D) (x' : V) (B' : Fp), Kp H H' S S' (B1 ++ B2) → Own g H' S' n d' x' B' → OwnL g H' S' n (ds.set j d') (xs.set j x') (B1 ++ B' ++ B2)
  | [], _, _, j, d, _, h => by simp at h
  | e :: ds, _, _, 0, d, o, h => by
    unfold OwnL at o
    obtain ⟨x, ys, B, C, rfl, rfl, h1, h2⟩ := o
    cases h
    refine ⟨x, [], B, C, rfl, by simp, h1, fun H' S' d' x' B' k o' => ?_⟩
    show OwnL g H' S' n (d' :: ds) (x' :: ys) _
    rw [List.nil_append]
    exact OwnL.cons o' (h2.keep (by simpa using k))
  | e :: ds, _, _, j + 1, d, o, h => by
    unfold OwnL at o
    obtain ⟨x, ys, B, C, rfl, rfl, h1, h2⟩ := o
    obtain ⟨z, B1, B0, B2, e1, rfl, o1, k1⟩ := OwnL.split h2 (by simpa using h)
    refine ⟨z, B ++ B1, B0, B2, by simpa using e1, by simp [List.append_assoc], o1, fun H' S' d' x' B' k o' => ?_⟩
    show OwnL g H' S' n (e :: ds.set j d') (x :: ys.set j x') _
    have := OwnL.cons (h1.keep (k.sub fun a q => by simp [q])) (k1 H' S' d' x' B' (k.sub fun a q => by
      rcases List.mem_append.mp q with q | q <;> simp [q]) o')
    simpa [List.append_assoc] using this
theorem set_same {α : Type} : ∀ {l : List α} {i : Nat} {x : α}, l[i]? = some x → l.set i x = l
  | [], _, _, h => by simp at h
  | y :: l, 0, x, h => by cases h; rfl
  | y :: l, i + 1, x, h => by
    show y :: l.set i x = y :: l
    rw [set_same (by simpa using h)]
/-- an attribute's place -/
theorem fld_at (inj : ∀ i j, g.AN i = g.AN j → i = j) {f : Nat} {d : PL.D} : ∀ {ks : List Nat} {vs : List PL.D} {xs : List V}, fldL f ks vs = some d → ks.length = vs.length → xs.length = vs.length →
    ∃ j, vs[j]? = some d ∧ (∀ y, putF1 f y ks vs = vs.set j y) ∧ ∀ x, xs[j]? = some x → ((ks.map g.AN).zip xs).lookup (g.AN f) = some x
  | [], _, _, h, _, _ => by cases h
  | k :: ks, [], _, h, _, _ => by cases h
  | k :: ks, v :: vs, [], h, _, e => by cases e
  | k :: ks, v :: vs, x :: xs, h, e1, e2 => by
    unfold fldL at h
    by_cases hk : k = f
    · subst hk
      rw [if_pos rfl] at h
      cases h
      refine ⟨0, rfl, fun y => by unfold putF1; rw [if_pos rfl]; rfl, fun z hz => ?_⟩
      cases hz
      show List.lookup (g.AN k) ((g.AN k, x) :: ((ks.map g.AN).zip xs)) = some x
      rw [List.lookup_cons]
      simp
    · rw [if_neg hk] at h
      obtain ⟨j, h1, h2, h3⟩ := fld_at inj h (by simpa using e1) (by simpa using e2)
      refine ⟨j + 1, h1, fun y => by unfold putF1; rw [if_neg hk, h2]; rfl, fun z hz => ?_⟩
      show List.lookup (g.AN f) ((g.AN k, x) :: ((ks.map g.AN).zip xs)) = some z
      rw [List.lookup_cons]
      have : (g.AN f == g.AN k) = false := by
        rw [beq_eq_false_iff_ne]
        exact fun e => hk (inj _ _ e.symm)
      rw [this]
      exact h3 z hz
/-- the node at the end of a path, and how it is put back -/
theorem focus (inj : ∀ i j, g.AN i = g.AN j → i = j) : ∀ {qs : List PS1} {d x : PL.D} {u n : Nat} {v : V} {A : Fp}, Own g H S n d v A → getP d qs = some (x, u) → u < n → (∀ (r : V) (k : Nat) (B : Fp), Own g H S (k + 1) x r B → B ≠ []) →
    ∃ r A1 A0 A2, VP g H v qs r ∧ A = A1 ++ A0 ++ A2 ∧ Own g H S (n - u) x r A0 ∧ ∀ (H' : Hp) (S' : Rg) (y : PL.D) (B : Fp), Kp H H' S S' (A1 ++ A2) → Own g H' S' (n - u) y r B → Own g H' S' n (putP y d qs) v (A1 ++ B ++ A2)
  | [], d, x, u, n, v, A, o, h, hu, ne => by
    cases h
    exact ⟨v, [], A, [], .nil, by simp, o, fun H' S' y B _ o' => by
      rw [List.nil_append, List.append_nil]
      cases d <;> exact o'⟩
  | .ix k :: qs, d, x, u, n, v, A, o, h, hu, ne => by
    cases d with
    | lst l =>
      unfold getP at h
      cases e1 : ixN l.length k with
      | none => rw [e1] at h; cases h
      | some j =>
        rw [e1] at h
        dsimp only at h
        cases e2 : l[j]? with
        | none => rw [e2] at h; cases h
        | some dj =>
          rw [e2] at h
          dsimp only at h
          cases e3 : getP dj qs with
          | none => rw [e3] at h; cases h
          | some p =>
            rw [e3] at h
            simp only [Option.map_some, Option.some.injEq, Prod.mk.injEq] at h
            obtain ⟨hx, rfl⟩ := h
            obtain ⟨m, rfl⟩ : ∃ m, n = m + 1 := ⟨n - 1, by omega⟩
            unfold Own at o
            obtain ⟨a, xs, B, rfl, t, rfl, ol⟩ := o
            obtain ⟨z, B1, B0, B2, f1, rfl, f2, f3⟩ := ol.split e2
            obtain ⟨r, C1, C0, C2, v1, rfl, o1, k1⟩ := focus inj f2 (x := x) (u := p.2) (by rw [e3, ← hx]) (by omega) ne
            refine ⟨r, a :: (B1 ++ C1), C0, C2 ++ B2, .ixl (.inl t) (by unfold atI; rw [ol.length, e1]; exact f1) v1, by simp [List.append_assoc], by rw [Nat.add_sub_add_right]; exact o1, fun H' S' y B kp o' => ?_⟩
            rw [Nat.add_sub_add_right] at o'
            have q := k1 H' S' y B (kp.sub fun b hb => by rcases List.mem_append.mp hb with hb | hb <;> simp [hb]) o'
            have q2 := f3 H' S' _ z _ (kp.sub fun b hb => by rcases List.mem_append.mp hb with hb | hb <;> simp [hb]) q
            rw [set_same f1] at q2
            show Own g H' S' (m + 1) (putP y (.lst l) (.ix k :: qs)) _ _
            unfold putP
            rw [e1]
            dsimp only
            rw [e2]
            dsimp only
            unfold Own
            exact ⟨a, xs, _, rfl, by rw [kp.own a (by simp)]; exact t, by simp [List.append_assoc], q2⟩
    | tup l =>
      unfold getP at h
      cases e1 : ixN l.length k with
      | none => rw [e1] at h; cases h
      | some j =>
        rw [e1] at h
        dsimp only at h
        cases e2 : l[j]? with
        | none => rw [e2] at h; cases h
        | some dj =>
          rw [e2] at h
          dsimp only at h
          unfold Own at o
          obtain ⟨a, xs, rfl, t, tr, ol⟩ := o
          obtain ⟨z, B1, B0, B2, f1, rfl, f2, f3⟩ := ol.split e2
          obtain ⟨r, C1, C0, C2, v1, rfl, o1, k1⟩ := focus inj f2 h hu ne
          have tr' : Rd H a (.tup xs) := by
            rcases tr with e | e
            · exfalso
              have h0 : C0 = [] := by
                have := List.append_eq_nil_iff.mp e
                have := List.append_eq_nil_iff.mp this.1
                have := List.append_eq_nil_iff.mp this.2
                exact (List.append_eq_nil_iff.mp this.1).2
              obtain ⟨m, hm⟩ : ∃ m, n - u = m + 1 := ⟨n - u - 1, by omega⟩
              rw [hm] at o1
              exact ne r m C0 o1 h0
            · exact e
          refine ⟨r, B1 ++ C1, C0, C2 ++ B2, .ixt tr' (by unfold atI; rw [ol.length, e1]; exact f1) v1, by simp [List.append_assoc], o1, fun H' S' y B kp o' => ?_⟩
          have q := k1 H' S' y B (kp.sub fun b hb => by rcases List.mem_append.mp hb with hb | hb <;> simp [hb]) o'
          have q2 := f3 H' S' _ z _ (kp.sub fun b hb => by rcases List.mem_append.mp hb with hb | hb <;> simp [hb]) q
          rw [set_same f1] at q2
          show Own g H' S' n (putP y (.tup l) (.ix k :: qs)) _ _
          unfold putP
          rw [e1]
          dsimp only
          rw [e2]
          dsimp only
          unfold Own
          exact ⟨a, xs, rfl, .inl (kp.tup _ _ tr'), .inr (kp.tup _ _ tr'), by simpa [List.append_assoc] using q2⟩
    | _ => cases h
  | .fld f :: qs, d, x, u, n, v, A, o, h, hu, ne => by
    cases d with
    | obj c ks vs =>
      unfold getP at h
      cases e2 : fldL f ks vs with
      | none => rw [e2] at h; cases h
      | some dj =>
        rw [e2] at h
        dsimp only at h
        cases e3 : getP dj qs with
        | none => rw [e3] at h; cases h
        | some p =>
          rw [e3] at h
          simp only [Option.map_some, Option.some.injEq, Prod.mk.injEq] at h
          obtain ⟨hx, rfl⟩ := h
          obtain ⟨m, rfl⟩ : ∃ m, n = m + 1 := ⟨n - 1, by omega⟩
          unfold Own at o
          obtain ⟨a, dx, xs, B, rfl, t, el, rfl, ol⟩ := o
          obtain ⟨j, g1, g2, g3⟩ := fld_at inj e2 el ol.length
          obtain ⟨z, B1, B0, B2, f1, rfl, f2, f3⟩ := ol.split g1
          obtain ⟨r, C1, C0, C2, v1, rfl, o1, k1⟩ := focus inj f2 (x := x) (u := p.2) (by rw [e3, ← hx]) (by omega) ne
          refine ⟨r, a :: (B1 ++ C1), C0, C2 ++ B2, .fld t (g3 z f1) v1, by simp [List.append_assoc], by rw [Nat.add_sub_add_right]; exact o1, fun H' S' y B kp o' => ?_⟩
          rw [Nat.add_sub_add_right] at o'
          have q := k1 H' S' y B (kp.sub fun b hb => by rcases List.mem_append.mp hb with hb | hb <;> simp [hb]) o'
          have q2 := f3 H' S' _ z _ (kp.sub fun b hb => by rcases List.mem_append.mp hb with hb | hb <;> simp [hb]) q
          rw [set_same f1] at q2
          show Own g H' S' (m + 1) (putP y (.obj c ks vs) (.fld f :: qs)) _ _
          unfold putP
          rw [e2]
          dsimp only
          rw [g2]
          unfold Own
          exact ⟨a, dx, xs, _, rfl, by rw [kp.own a (by simp)]; exact t, by rw [List.length_set]; exact el, by simp [List.append_assoc], q2⟩
    | _ => cases h
end
section
variable {g : G} {xg : XG} {Γ : Fe} {X : Cx} {W : WX} {H H1 : Hp} {S S1 : Rg} {As As1 : List Fp} {ρ ρ1 : En} {σ : L2.St} {D : Ends} {a b c : Expr} {xa xb xc : Ex} {pos : Pos}
theorem Rep.drop (r : Rep g H S As ρ σ) (j : Nat) : Rep g H S (As.set j []) (ρ.set j none) σ := by
  refine ⟨r.sz, by rw [List.length_set]; exact r.len, by rw [List.length_set, List.length_set]; exact r.lenA, fun i s h => ?_, fun i h => ?_, nd_set r.nd List.nodup_nil (fun a q => nomatch q), fun a q z => ?_, r.slf⟩
  · rcases set_at h with ⟨rfl, e⟩ | ⟨hne, e⟩
    · cases e
    · rw [List.getElem?_set_ne hne]
      exact r.at_ i s e
  · rcases set_at h with ⟨rfl, e⟩ | ⟨hne, e⟩
    · have hj : j < ρ.length := by have := (List.getElem?_eq_some_iff.mp h).1; rwa [List.length_set] at this
      exact List.getElem?_set_self (by rw [r.lenA]; exact hj)
    · rw [List.getElem?_set_ne hne]
      exact r.no i e
  · obtain ⟨i, A, h1, h2⟩ := of_flat q
    rcases set_at h1 with ⟨rfl, e⟩ | ⟨hne, e⟩
    · subst e; cases h2
    · exact r.dis a (mem_flat e h2) z
theorem Rep.more {C : Rg} (r : Rep g H S As ρ σ) (hC : ∀ a, C a → (H a).isSome = true) (hd : ∀ a ∈ As.flatten, ¬ C a) : Rep g H (fun a => S a ∨ C a) As ρ σ := by
  refine ⟨fun a q => q.elim (r.sz a) (hC a), r.len, r.lenA, fun i s h => ?_, r.no, r.nd, fun a q z => z.elim (r.dis a q) (hd a q), r.slf⟩
  obtain ⟨v, A, h1, h2, h3⟩ := r.at_ i s h
  exact ⟨v, A, h1, h2, h3.keep ⟨fun _ _ => rfl, fun a q => ⟨.inl q, rfl⟩, fun _ _ q => q⟩⟩
theorem kp_poke {p : Addr} {o u : HO} {F : Fp} (hp : H p = some u) (hu : ∀ xs, u ≠ .tup xs) (hf : ∀ ob x, u ≠ .frz ob x) (nS : ¬ S p) (nF : p ∉ F) : Kp H (upd H p o) S S F :=
  ⟨fun a q => upd_ne fun e => nF (e ▸ q), fun a q => ⟨q, upd_ne fun e => nS (e ▸ q)⟩, fun a xs q => by
    have : a ≠ p := fun e => by
      subst e
      rcases q with q | ⟨ob, q⟩ <;> rw [hp] at q <;> cases q
      · exact hu _ rfl
      · exact hf _ _ rfl
    unfold Rd
    rw [upd_ne this]
    exact q⟩
theorem Rep.poke {p : Addr} {o u : HO} (r : Rep g H S As ρ σ) (hp : H p = some u) (hu : ∀ xs, u ≠ .tup xs) (hf : ∀ ob x, u ≠ .frz ob x) (nS : ¬ S p) (nA : p ∉ As.flatten) : Rep g (upd H p o) S As ρ σ := by
  refine ⟨fun a q => ?_, r.len, r.lenA, fun i s h => ?_, r.no, r.nd, r.dis, r.slf⟩
  · have : a ≠ p := fun e => nS (by rw [← e]; exact q)
    rw [upd_ne this]
    exact r.sz a q
  · obtain ⟨v, A, h1, h2, h3⟩ := r.at_ i s h
    exact ⟨v, A, h1, h2, h3.keep (kp_poke hp hu hf nS fun q => nA (mem_flat h2 q))⟩
theorem nd_swap {A1 A0 A2 B : Fp} (h : (A1 ++ A0 ++ A2).Nodup) (hB : B.Nodup) (hs : ∀ b ∈ B, b ∈ A0 ∨ (b ∉ A1 ∧ b ∉ A2)) : (A1 ++ B ++ A2).Nodup := by
  obtain ⟨h1, h2, h3⟩ := List.nodup_append.mp h
  obtain ⟨h4, h5, h6⟩ := List.nodup_append.mp h1
  refine List.nodup_append.mpr ⟨List.nodup_append.mpr ⟨h4, hB, fun x hx y hy e => ?_⟩, h2, fun x hx y hy e => ?_⟩
  · subst e
    rcases hs x hy with z | z
    · exact h6 x hx x z rfl
    · exact z.1 hx
  · subst e
    rcases List.mem_append.mp hx with hx | hx
    · exact h3 x (List.mem_append_left _ hx) x hy rfl
    · rcases hs x hx with z | z
      · exact h3 x (List.mem_append_right _ z) x hy rfl
      · exact z.2 hy
/-- a list at the end of a path of a slot becomes another one -/
theorem mut_core (inj : ∀ i j, g.AN i = g.AN j → i = j) (r1 : Rep g H1 S1 As1 ρ1 σ) (st : Stp H S As ρ H1 S1 As1 ρ1) {j : Nat} {s : Sl} (es : ρ1[j]? = some (some s)) (hlk : s.lk = false) {qs : List PS1} {l : List PL.D} {u : Nat} (hp : getP s.d qs = some (.lst l, u)) (hu : u < s.n)
    {d : PL.D} {n : Nat} {v : V} {T : Fp} (o : Own g H1 S1 n d v T) (nd : T.Nodup) (fr : ∀ a ∈ T, H a = none ∧ ¬ S1 a ∧ a ∉ As1.flatten) {v0 r0 : V} (hv : σ[j]? = some (some v0)) (hr : VP g H1 v0 qs r0) :
    ∃ a xs, r0 = .ref a ∧ H1 a = some (.lst xs) ∧ xs.length = l.length ∧ ∀ (nl : List PL.D) (nx : List V), (∀ (R : Rg) (k : Nat) (B T' : Fp), OwnL g H1 R k l xs B → Own g H1 R k d v T' → (B ++ T').Nodup → ∃ B', OwnL g H1 R k nl nx B' ∧ B'.Nodup ∧ ∀ b ∈ B', b ∈ B ++ T') →
      RFS g xg H S As ρ (.nx (ρ1.set j (some ⟨putP (.lst nl) s.d qs, if immB n d = true ∨ s.n ≤ u + 1 + n then s.n else u + 1 + n, false⟩))) W D → D.nx σ (upd H1 a (.lst nx)) := by
  obtain ⟨v', A, hv', hA, oA⟩ := r1.at_ j s es
  rw [hv] at hv'
  cases hv'
  generalize hmd : (if immB n d = true ∨ s.n ≤ u + 1 + n then s.n else u + 1 + n) = m
  have hm : m ≤ s.n := by rw [← hmd]; split <;> omega
  have hum : u < m := by rw [← hmd]; split <;> omega
  have hkn : m - u - 1 ≤ n ∨ immB n d = true := by
    rw [← hmd]
    split
    · rename_i z
      rcases z with z | z
      · exact .inr z
      · exact .inl (by omega)
    · exact .inl (by omega)
  obtain ⟨B0, C0, k1, sp0⟩ := Own.weak hm oA
  obtain ⟨T', C', k2, sp1⟩ : ∃ T' C', (∀ R : Rg, (∀ a, S1 a → R a) → (∀ a ∈ C', R a) → Own g H1 R (m - u - 1) d v T') ∧ Spl T T' C' := by
    by_cases hk : m - u - 1 ≤ n
    · exact Own.weak hk o
    · exact ⟨T, [], fun R _ _ => o.imm (by omega) (hkn.resolve_left hk), ⟨fun a => by simp, fun h => by simpa using h⟩⟩
  have ndA := nd_one r1.nd hA
  obtain ⟨ndB0, ndC0, dBC⟩ := List.nodup_append.mp (sp0.2 ndA)
  obtain ⟨ndT', ndC', dTC⟩ := List.nodup_append.mp (sp1.2 nd)
  have hB0 : ∀ b ∈ B0, b ∈ A := fun b q => (sp0.1 b).mpr (.inl q)
  have hC0 : ∀ b ∈ C0, b ∈ A := fun b q => (sp0.1 b).mpr (.inr q)
  have hT' : ∀ b ∈ T', b ∈ T := fun b q => (sp1.1 b).mpr (.inl q)
  have hC' : ∀ b ∈ C', b ∈ T := fun b q => (sp1.1 b).mpr (.inr q)
  have oR := k1 (fun b => S1 b ∨ (b ∈ C0 ∨ b ∈ C')) (fun b q => .inl q) (fun b q => .inr (.inl q))
  have oV := k2 (fun b => S1 b ∨ (b ∈ C0 ∨ b ∈ C')) (fun b q => .inl q) (fun b q => .inr (.inr q))
  obtain ⟨r, A1, A0, A2, vp, eB0, oL, reb⟩ := focus inj oR hp hum fun r k B q => by
    unfold Own at q
    obtain ⟨_, _, _, _, _, e, _⟩ := q
    rw [e]
    exact List.cons_ne_nil _ _
  obtain rfl := vp.det hr
  obtain ⟨k, hk⟩ : ∃ k, m - u = k + 1 := ⟨m - u - 1, by omega⟩
  rw [hk] at oL
  rw [show m - u - 1 = k by omega] at oV
  unfold Own at oL
  obtain ⟨a, xs, B, rfl, ha, rfl, ol⟩ := oL
  have aB0 : a ∈ B0 := by rw [eB0]; simp
  have aA := hB0 a aB0
  have hBB : ∀ b ∈ B, b ∈ B0 := fun b q => by rw [eB0]; simp [q]
  refine ⟨a, xs, rfl, ha, ol.length, fun nl nx hop h => ?_⟩
  rw [eB0] at ndB0
  have ndaB : (a :: B).Nodup := (List.nodup_append.mp (List.nodup_append.mp ndB0).1).2.1
  obtain ⟨naB, ndB⟩ := List.nodup_cons.mp ndaB
  have naT : ∀ b ∈ T, b ∉ A := fun b q z => (fr b q).2.2 (mem_flat hA z)
  obtain ⟨Bn, on, ndn, sub⟩ := hop _ k B T' ol oV (List.nodup_append.mpr ⟨ndB, ndT', fun x hx y hy e => by
    subst e
    exact naT x (hT' x hy) (hB0 x (hBB x hx))⟩)
  have nR : ¬ (S1 a ∨ (a ∈ C0 ∨ a ∈ C')) := fun q => by
    rcases q with q | q | q
    · exact r1.dis a (mem_flat hA aA) q
    · exact dBC a aB0 a q rfl
    · exact naT a (hC' a q) aA
  have naBn : a ∉ Bn := fun q => by
    rcases List.mem_append.mp (sub a q) with z | z
    · exact naB z
    · exact naT a (hT' a z) aA
  have kp : ∀ F : Fp, a ∉ F → Kp H1 (upd H1 a (.lst nx)) (fun b => S1 b ∨ (b ∈ C0 ∨ b ∈ C')) (fun b => S1 b ∨ (b ∈ C0 ∨ b ∈ C')) F := fun F hF => kp_poke ha (fun _ q => by cases q) (fun _ _ q => by cases q) nR hF
  have na12 : a ∉ A1 ++ A2 := fun q => by
    obtain ⟨n1, n2, n3⟩ := List.nodup_append.mp ndB0
    rcases List.mem_append.mp q with q | q
    · exact (List.nodup_append.mp n1).2.2 a q a List.mem_cons_self rfl
    · exact n3 a (List.mem_append_right _ List.mem_cons_self) a q rfl
  have oN := reb (upd H1 a (.lst nx)) _ (.lst nl) (a :: Bn) (kp _ na12) (by rw [hk]; exact own_lst upd_same (on.keep (kp Bn naBn)))
  have ndT2 : (A1 ++ (a :: Bn) ++ A2).Nodup := nd_swap ndB0 (List.nodup_cons.mpr ⟨naBn, ndn⟩) fun b hb => by
    rcases List.mem_cons.mp hb with rfl | hb
    · exact .inl List.mem_cons_self
    · rcases List.mem_append.mp (sub b hb) with z | z
      · exact .inl (List.mem_cons_of_mem _ z)
      · refine .inr ⟨fun y => ?_, fun y => ?_⟩
        · exact naT b (hT' b z) (hB0 b (by rw [eB0]; simp [y]))
        · exact naT b (hT' b z) (hB0 b (by rw [eB0]; simp [y]))
  have inT2 : ∀ b ∈ A1 ++ (a :: Bn) ++ A2, b ∈ A ∨ b ∈ T := fun b hb => by
    have : b ∈ A1 ∨ b = a ∨ b ∈ Bn ∨ b ∈ A2 := by simpa [or_assoc] using hb
    rcases this with z | rfl | z | z
    · exact .inl (hB0 b (by rw [eB0]; simp [z]))
    · exact .inl aA
    · rcases List.mem_append.mp (sub b z) with y | y
      · exact .inl (hB0 b (hBB b y))
      · exact .inr (hT' b y)
    · exact .inl (hB0 b (by rw [eB0]; simp [z]))
  have notC : ∀ b ∈ A1 ++ (a :: Bn) ++ A2, ¬ (S1 b ∨ (b ∈ C0 ∨ b ∈ C')) := fun b hb q => by
    have mB : b ∈ A1 ∨ b = a ∨ b ∈ Bn ∨ b ∈ A2 := by simpa [or_assoc] using hb
    have key : b ∈ B0 ∨ b ∈ T' := by
      rcases mB with z | rfl | z | z
      · exact .inl (by rw [eB0]; simp [z])
      · exact .inl aB0
      · rcases List.mem_append.mp (sub b z) with y | y
        · exact .inl (hBB b y)
        · exact .inr y
      · exact .inl (by rw [eB0]; simp [z])
    rcases key with z | z
    · rcases q with q | q | q
      · exact r1.dis b (mem_flat hA (hB0 b z)) q
      · exact dBC b z b q rfl
      · exact naT b (hC' b q) (hB0 b z)
    · rcases q with q | q | q
      · exact (fr b (hT' b z)).2.1 q
      · exact naT b (hT' b z) (hC0 b q)
      · exact dTC b z b q rfl
  have other : ∀ {b : Addr}, b ∈ (As1.set j []).flatten → b ∈ As1.flatten ∧ b ∉ A := fun {b} q => by
    obtain ⟨i, F, h1, h2⟩ := of_flat q
    rcases set_at h1 with ⟨rfl, e⟩ | ⟨hne, e⟩
    · subst e; cases h2
    · exact ⟨mem_flat e h2, fun z => hne (nd_slots r1.nd hA e z h2)⟩
  have r2 := ((r1.drop j).more (C := fun b => b ∈ C0 ∨ b ∈ C') (fun b q => q.elim (fun q => oA.there b (hC0 b q)) fun q => o.there b (hC' b q)) fun b q z => by
      rcases z with z | z
      · exact (other q).2 (hC0 b z)
      · exact (fr b (hC' b z)).2.2 (other q).1).poke (o := .lst nx) ha (fun _ q => by cases q) (fun _ _ q => by cases q) nR fun q => (other q).2 aA
  have fromA : ∀ b ∈ A, b ∈ As.flatten ∨ H b = none := fun b q => st.ow b (mem_flat hA q)
  have nlk : ∀ b i, b ∈ A → ¬ Lk ρ1 As1 i b := fun b i q ⟨s', F, h1, h2, h3, h4⟩ => by
    have := nd_slots r1.nd hA h3 q h4
    subst this
    rw [es] at h1
    cases h1
    rw [hlk] at h2
    cases h2
  have st2 : Stp H S As ρ (upd H1 a (.lst nx)) (fun b => S1 b ∨ (b ∈ C0 ∨ b ∈ C')) (As1.set j []) (ρ1.set j none) := by
    refine ⟨fun b w e q => ?_, fun b q => ?_, fun b q => .inl (st.sub b q), fun b q => ?_, fun b q => ?_, fun i b q => ?_⟩
    · have hb := st.fr b w e q
      have : b ≠ a := fun z => by
        subst z
        rcases fromA b aA with y | y
        · rcases q with q | ⟨i, q⟩
          · exact q y
          · rcases st.lk i b q with x | x
            · exact nlk b i aA x
            · exact r1.dis b (mem_flat hA aA) x
        · rw [e] at y; cases y
      rw [upd_ne this]
      exact hb
    · by_cases e : b = a
      · rw [e, upd_same]; rfl
      · rw [upd_ne e]; exact st.dom b q
    · rcases q with q | q | q
      · exact st.new b q
      · exact .inr (fromA b (hC0 b q))
      · exact .inr (.inr (fr b (hC' b q)).1)
    · exact st.ow b (other q).1
    · rcases st.lk i b q with z | z
      · obtain ⟨s', F, h1, h2, h3, h4⟩ := z
        have hne : j ≠ i := fun e => by
          subst e
          rw [es] at h1
          cases h1
          rw [hlk] at h2
          cases h2
        exact .inl ⟨s', F, by rw [List.getElem?_set_ne hne]; exact h1, h2, by rw [List.getElem?_set_ne hne]; exact h3, h4⟩
      · exact .inr (.inl z)
  have hj : j < ρ1.length := (List.getElem?_eq_some_iff.mp es).1
  obtain ⟨r3, s3⟩ := put_ok (i := j) r2 st2 oN ndT2 (fun b q => ⟨(inT2 b q).elim (fromA b) fun z => .inr (fr b z).1, notC b q, fun i F h1 hne h2 => by
    rcases set_at h1 with ⟨rfl, e⟩ | ⟨_, e⟩
    · exact hne rfl
    · rcases inT2 b q with z | z
      · exact hne (nd_slots r1.nd e hA h2 z)
      · exact (fr b z).2.2 (mem_flat e h2)⟩) (by unfold lockedAt; rw [List.getElem?_set_self hj]) (fun w hw e => by
    have h0 := r1.slf w hw
    rw [← e, hv] at h0
    cases h0
    rfl)
  rw [set_same hv, List.set_set, List.set_set] at r3
  rw [List.set_set, List.set_set] at s3
  exact h _ _ _ _ r3 s3
end
end PL
namespace PL
open PySem L2 PyProof.Rows
section
variable {g : G} {xg : XG} {Γ : Fe} {X : Cx} {W : WX} {H H1 : Hp} {S S1 : Rg} {As As1 : List Fp} {ρ ρ1 : En} {σ : L2.St} {D : Ends} {a b c : Expr} {xa xb xc : Ex} {pos : Pos}
/-- as evP_rf, the heap's growth told -/
theorem evP_rfE {f : Fz} {F : PL.D → Nat → En → OS} {Q' : VK} (rep : Rep g H S As ρ σ) (h : RFS g xg H S As ρ ((evP Γ xa f ρ).bind F) W D)
    (k : ∀ d n v ρ1 H1 S1 As1 T, evP Γ xa f ρ = .ok d n ρ1 → Ext H H1 → Rep g H1 S1 As1 ρ1 σ → Stp H S As ρ H1 S1 As1 ρ1 → Own g H1 S1 n d v T → T.Nodup → (∀ a ∈ T, H a = none ∧ ¬ S1 a ∧ a ∉ As1.flatten) → RFS g xg H S As ρ (F d n ρ1) W D → Q' v H1) : RdE g xg Γ W xa σ H Q' := by
  unfold evP at h k
  cases f with
  | imm =>
    refine ⟨_, _, rep.viewA, ?_⟩
    dsimp only at h k
    cases e : evE Γ xa (viewA ρ) with
    | ok d n =>
      rw [e] at h k
      dsimp only at h k
      intro v H' S' T o
      split at h
      · rename_i hi
        obtain ⟨r1, s1⟩ := rep.pure o.fw
        refine k d n v ρ H' _ As T (by rw [if_pos hi]) o.ext r1 s1 (o.own.imm (Nat.le_refl _) hi) o.nd (fun a q => ⟨(o.fr a q).1, fun z => ?_, fun z => ?_⟩) h
        · rcases z with z | z
          · have := rep.sz a z
            rw [(o.fr a q).1] at this
            cases this
          · exact (o.fr a q).2 z.1
        · have := rep.there z
          rw [(o.fr a q).1] at this
          cases this
      · exact h.elim
    | exn x => rw [e] at h; exact exn_fr h
    | bad => rw [e] at h; exact h.elim
  | fz l =>
    refine ⟨_, _, rep.viewF l, ?_⟩
    dsimp only at h k
    cases e : evE Γ xa (viewF l 0 ρ) with
    | ok d n =>
      rw [e] at h k
      dsimp only at h k
      intro v H' S' T o
      obtain ⟨r1, s1⟩ := rep.given (l := l) o.fw
      refine k d n v _ H' S' _ T rfl o.ext r1 s1 o.own o.nd (fun a q => ⟨(o.fr a q).1, (o.fr a q).2, fun z => ?_⟩) h
      have := rep.there ((frzA_nd rep.nd).2 a z)
      rw [(o.fr a q).1] at this
      cases this
    | exn x => rw [e] at h; exact exn_fr h
    | bad => rw [e] at h; exact h.elim
/-- a path's reading -/
def RdP (g : G) (Γ : Fe) (j : Nat) (ps : List Pa) : TE := fun σ H Q => ∃ S δ qs v0 r, Rep0 g H S δ σ ∧ evPs Γ δ ps = some qs ∧ σ[j]? = some (some v0) ∧ VP g H v0 qs r ∧ ∀ H' S', Fw H H' S S' → Q r H'
theorem evPs_snoc {δ : Ev} {p : Pa} : ∀ {ps : List Pa} {qs : List PS1}, evPs Γ δ (ps ++ [p]) = some qs → ∃ q1 q2, qs = q1 ++ q2 ∧ evPs Γ δ ps = some q1 ∧ evPs Γ δ [p] = some q2
  | [], qs, h => ⟨[], qs, rfl, rfl, h⟩
  | .ix e :: ps, qs, h => by
    have h' : evPs Γ δ (.ix e :: (ps ++ [p])) = some qs := h
    unfold evPs at h'
    split at h'
    · rename_i k n e1
      cases e2 : evPs Γ δ (ps ++ [p]) with
      | none => rw [e2] at h'; cases h'
      | some q =>
        rw [e2] at h'
        cases h'
        obtain ⟨q1, q2, rfl, h1, h2⟩ := evPs_snoc e2
        exact ⟨.ix k :: q1, q2, rfl, by unfold evPs; rw [e1]; dsimp only; rw [h1]; rfl, h2⟩
    · cases h'
  | .fld f :: ps, qs, h => by
    have h' : evPs Γ δ (.fld f :: (ps ++ [p])) = some qs := h
    unfold evPs at h'
    cases e2 : evPs Γ δ (ps ++ [p]) with
    | none => rw [e2] at h'; cases h'
    | some q =>
      rw [e2] at h'
      cases h'
      obtain ⟨q1, q2, rfl, h1, h2⟩ := evPs_snoc e2
      exact ⟨.fld f :: q1, q2, rfl, by unfold evPs; rw [h1]; rfl, h2⟩
theorem p_var {i : Nat} {x : Str} (hN : X.N[i]? = some x) (hv : Vis X.env.scope x) (hd : (x == ("__debug__" : Str)) = false) (hcd : (x == ("__classdict__" : Str)) = false) : PE X (.Name x pos) (RdP g Γ i []) :=
  (pe_var hN hv hd hcd).imp fun σ H Q ⟨S, δ, qs, v0, r, rep, e, h1, h2, h3⟩ => by
    unfold evPs at e
    cases e
    cases h2
    exact ⟨v0, h1, h3 H S (Fw.refl rep.sz)⟩
theorem p_ix {j : Nat} {ps : List Pa} (hK : g.K = X.K) (hs : noSlice b = true) (ha : PE X a (RdP g Γ j ps)) (hb : PE X b (RdE g xg Γ W xb)) : PE X (.Subscript a b pos) (RdP g Γ j (ps ++ [.ix xb])) := by
  refine PE.pick fun σ H Q ⟨S, δ, qs, v0, r, rep, e, h1, h2, h3⟩ => ?_
  obtain ⟨q1, q2, rfl, e1, e2⟩ := evPs_snoc e
  obtain ⟨r1, v1, v2⟩ := VP.split h2
  unfold evPs at e2
  split at e2
  · rename_i k n e3
    unfold evPs at e2
    cases e2
    have key : ∀ (r' : R2), IxR X r' → (∀ H2 S2, Fw H H2 S S2 → r' r1 (.int k) H2 Q) → ∃ t, PE X (.Subscript a b pos) t ∧ t σ H Q := fun r' hr hq =>
      ⟨_, pe_ix hr ha hb (plainIx hs), ⟨S, δ, q1, v0, r1, rep, e1, h1, v1, fun H1 S1 f1 => ⟨S1, δ, rep.fw f1, by
        rw [e3]
        intro v H2 S2 T o
        rw [own_int_v o.own]
        exact hq H2 S2 (f1.trans o.fw)⟩⟩⟩
    cases v2 with
    | ixl t ex hh =>
      cases hh
      exact key _ ix_list fun H2 S2 f => ⟨_, _, k, _, rfl, rfl, rdL (f.ext.rd t), ex, h3 H2 S2 f⟩
    | ixt t ex hh =>
      cases hh
      exact key _ ix_tup fun H2 S2 f => ⟨_, _, k, _, rfl, rfl, .inl (f.ext.rd t), ex, h3 H2 S2 f⟩
  · cases e2
theorem lst_own {l : List PL.D} {k : Nat} {r : V} {B : Fp} (h : Own g H S (k + 1) (.lst l) r B) : ∃ a xs B', r = .ref a ∧ H a = some (.lst xs) ∧ B = a :: B' := by
  unfold Own at h
  obtain ⟨a, xs, B', e1, e2, e3, _⟩ := h
  exact ⟨a, xs, B', e1, e2, e3⟩
theorem pathOk_vp (inj : ∀ i j, g.AN i = g.AN j → i = j) (rep : Rep g H S As ρ σ) {j : Nat} {qs : List PS1} (h : pathOk j qs ρ = true) : ∃ v0 a xs, σ[j]? = some (some v0) ∧ VP g H v0 qs (.ref a) ∧ H a = some (.lst xs) := by
  unfold pathOk at h
  split at h
  · rename_i s es
    split at h
    · rename_i l u hp
      have hu := of_decide_eq_true h
      obtain ⟨v, A, h1, h2, o⟩ := rep.at_ j s es
      obtain ⟨r, A1, A0, A2, vp, _, oL, _⟩ := focus inj o hp hu fun r k B q => by
        obtain ⟨_, _, _, _, _, e⟩ := lst_own q
        rw [e]
        exact List.cons_ne_nil _ _
      obtain ⟨k, hk⟩ : ∃ k, s.n - u = k + 1 := ⟨s.n - u - 1, by omega⟩
      rw [hk] at oL
      obtain ⟨a, xs, _, rfl, e, _⟩ := lst_own oL
      exact ⟨v, a, xs, h1, vp, e⟩
    · cases h
  · cases h
/-- path.append(e) -/
theorem app_rf (inj : ∀ i j, g.AN i = g.AN j → i = j) {j : Nat} {ps : List Pa} {qs : List PS1} {f : Fz} {Q : VK} (rep : Rep g H S As ρ σ) (eq : evPs Γ (viewA ρ) ps = some qs) (hok : pathOk j qs ρ = true) (hQ : ∀ v H', D.nx σ H' → Q v H')
    (h : RFS g xg H S As ρ ((evP Γ xa f ρ).bind fun d n ρ1 => mutS j qs d n (fun l => if decide (l.length < szLine) then some (l ++ [d]) else none) ρ1) W D) :
    RdP g Γ j ps σ H fun x H1 => tyV X.K "list" x H1 ∧ RdE g xg Γ W xa σ H1 fun v H2 => rAppend x [v] H2 Q := by
  obtain ⟨v0, p, xs0, hv, vp, hp⟩ := pathOk_vp inj rep hok
  refine ⟨_, _, qs, v0, _, rep.viewA, eq, hv, vp, fun H1 S1 f1 => ⟨.inl ⟨rfl, _, rdL (.inl (f1.ext _ _ hp))⟩, ?_⟩⟩
  obtain ⟨r1, s1⟩ := rep.pure f1
  refine evP_rfE r1 (RFS.fw s1 r1 h) fun d n v ρ1 H2 S2 As2 T _ ex r2 s2 o nd fr h2 => ?_
  have vp2 := (vp.ext f1.ext).ext ex
  unfold mutS at h2
  split at h2
  · rename_i s es
    split at h2
    · exact h2.elim
    · rename_i hlk
      split at h2
      · rename_i l u hg
        split at h2
        · rename_i l' hl
          split at h2
          · rename_i hu
            dsimp only at hl
            split at hl
            · rename_i hz
              cases hl
              obtain ⟨q, xs, e1, e2, e3, kk⟩ := mut_core (xg := xg) (W := W) (D := D) inj r2 s2 es (by simpa using hlk) hg hu o nd fr hv vp2
              refine ⟨q, xs, v, e1, rfl, e2, by rw [e3]; exact Nat.lt_of_lt_of_le (of_decide_eq_true hz) sizeLine_le, hQ _ _ (kk _ _ (fun R k B T' ol oV ndd => ⟨B ++ T', OwnL.append ol (OwnL.one oV), ndd, fun b q => q⟩) h2)⟩
            · cases hl
          · exact h2.elim
        · exact h2.elim
      · exact h2.elim
  · exact h2.elim
theorem s_app {o : Expr} {e : Expr} {apos cpos : Pos} {j : Nat} {ps : List Pa} {f : Fz} {nm : Str} (inj : ∀ i j, g.AN i = g.AN j → i = j) (hnm : nm = "append") (h1 : noSuper o = true) (hs : noStar e = true) (hl : (apos.endLine == cpos.line) = true)
    (ho : PE X o (RdP g Γ j ps)) (he : PE X e (RdE g xg Γ W xa)) : PS X (.Expr (.Call (.Attribute o nm apos) [e] [] cpos) pos) (RdS g xg Γ W (.app j ps xa f)) := by
  subst hnm
  refine (ps_expr (pe_bm PySem.F.plainAttrs_list PySem.F.slot_list_append PySem.F.type_list_append mt_append ho (pa_cons he pa_nil (star_cons hs)) (attrBase h1) (plain_form (es := [e]) (by simp [hs]) (by show (1 : Nat) < 30; decide)) hl (star_cons hs) rfl) rfl).imp fun D σ H ⟨ρ, S, As, rep, h⟩ => ?_
  unfold exS at h
  split at h
  · rename_i qs eq
    split at h
    · rename_i hok
      exact app_rf (D := D) inj rep eq hok (fun v H' q => q) h
    · exact h.elim
  · exact h.elim
/-- names, one behind another -/
inductive NmsAt (N : List Str) (env : PySem.Env) : List Expr → List Nat → Prop
  | nil : NmsAt N env [] []
  | cons {x : Str} {p : Pos} {i : Nat} {es : List Expr} {is : List Nat} (h : N[i]? = some x) (v : Vis env.scope x) (h1 : (x == ("__debug__" : Str)) = false) (h2 : (x == ("__classdict__" : Str)) = false) (t : NmsAt N env es is) : NmsAt N env (.Name x p :: es) (i :: is)
def tNms (is : List Nat) : TA := fun σ H Q => ∃ vs : List V, vs.length = is.length ∧ (∀ k i : Nat, is[k]? = some i → ∃ v, vs[k]? = some v ∧ σ[i]? = some (some v)) ∧ Q vs H
theorem pa_nms {es : List Expr} {is : List Nat} (h : NmsAt X.N X.env es is) : PA X es (tNms is) := by
  induction h with
  | nil =>
    refine ⟨fun l pins s σ H Q I ⟨vs, h1, _, q⟩ => ?_⟩
    obtain rfl := List.length_eq_zero_iff.mp h1
    exact pa_nil.run l pins s σ H Q I q
  | cons h v h1 h2 t ih =>
    refine ⟨fun l pins s σ H Q I ⟨vs, hl, hs, q⟩ => (pa_cons (pe_var h v h1 h2) ih rfl).run l pins s σ H Q I ?_⟩
    obtain ⟨w, hw, hσ⟩ := hs 0 _ rfl
    cases vs with
    | nil => cases hw
    | cons w' vs =>
      cases hw
      exact ⟨w, hσ, vs, Nat.succ.inj hl, fun k i hk => hs (k + 1) i hk, q⟩
/-- what slots own together -/
theorem slots_own (rep : Rep g H S As ρ σ) : ∀ {is : List Nat} {ds : List (PL.D × Nat)} {vs : List V}, is.Nodup → slotsN ρ is = some ds → vs.length = is.length → (∀ k i : Nat, is[k]? = some i → ∃ v, vs[k]? = some v ∧ σ[i]? = some (some v)) →
    ∃ A, OwnN g H S ds vs A ∧ A.Nodup ∧ ∀ a ∈ A, ∃ i B, i ∈ is ∧ As[i]? = some B ∧ a ∈ B
  | [], ds, vs, _, h, hl, _ => by
    cases h
    obtain rfl := List.length_eq_zero_iff.mp hl
    exact ⟨[], by unfold OwnN; exact ⟨rfl, rfl⟩, List.nodup_nil, fun a q => nomatch q⟩
  | i :: is, ds, vs, nd, h, hl, hv => by
    unfold slotsN at h
    split at h
    · rename_i s es
      cases e : slotsN ρ is with
      | none => rw [e] at h; cases h
      | some ds' =>
        rw [e] at h
        cases h
        obtain ⟨w, hw, hσ⟩ := hv 0 i rfl
        cases vs with
        | nil => cases hw
        | cons w' vs =>
          cases hw
          obtain ⟨v, B, h1, h2, o⟩ := rep.at_ i s es
          rw [hσ] at h1
          cases h1
          obtain ⟨n1, n2⟩ := List.nodup_cons.mp nd
          obtain ⟨A, ow, na, hA⟩ := slots_own rep n2 e (Nat.succ.inj hl) fun k j hk => hv (k + 1) j hk
          refine ⟨B ++ A, by unfold OwnN; exact ⟨w, vs, B, A, rfl, rfl, o, ow⟩, List.nodup_append.mpr ⟨nd_one rep.nd h2, na, fun x hx y hy e => ?_⟩, fun a q => ?_⟩
          · subst e
            obtain ⟨j, C, hj, h3, h4⟩ := hA x hy
            have := nd_slots rep.nd h2 h3 hx h4
            subst this
            exact n1 hj
          · rcases List.mem_append.mp q with q | q
            · exact ⟨i, B, List.mem_cons_self, h2, q⟩
            · obtain ⟨j, C, hj, h3, h4⟩ := hA a q
              exact ⟨j, C, List.mem_cons_of_mem _ hj, h3, h4⟩
    · cases h
theorem s_rett {es : List Expr} {is : List Nat} {k : Nat} {p2 : Pos} (h : NmsAt X.N X.env es is) : PS X (.Return (some (.Tuple es k p2)) pos) (RdS g xg Γ W (.rett is)) :=
  (ps_ret (pe_tup (pa_nms h))).imp fun D σ H ⟨ρ, S, As, rep, h⟩ => by
    unfold exS at h
    split at h
    · rename_i hh
      simp only [Bool.and_eq_true, decide_eq_true_eq] at hh
      split at h
      · rename_i ds eds
        have hlen : ∀ {is : List Nat} {ds : List (PL.D × Nat)}, slotsN ρ is = some ds → ds.length = is.length := by
          intro is
          induction is with
          | nil => intro ds h; cases h; rfl
          | cons i is ih =>
            intro ds h
            unfold slotsN at h
            split at h
            · cases e : slotsN ρ is with
              | none => rw [e] at h; cases h
              | some d => rw [e] at h; cases h; rw [List.length_cons, List.length_cons, ih e]
            · cases h
        have hx : ∃ vs : List V, vs.length = is.length ∧ ∀ k i : Nat, is[k]? = some i → ∃ v, vs[k]? = some v ∧ σ[i]? = some (some v) := by
          have key : ∀ {is : List Nat} {ds : List (PL.D × Nat)}, slotsN ρ is = some ds → ∃ vs : List V, vs.length = is.length ∧ ∀ k i : Nat, is[k]? = some i → ∃ v, vs[k]? = some v ∧ σ[i]? = some (some v) := by
            intro is
            induction is with
            | nil => intro ds _; exact ⟨[], rfl, fun k i hk => by simp at hk⟩
            | cons i is ih =>
              intro ds h
              unfold slotsN at h
              split at h
              · rename_i s es
                cases e : slotsN ρ is with
                | none => rw [e] at h; cases h
                | some d =>
                  obtain ⟨vs, h1, h2⟩ := ih e
                  obtain ⟨v, B, h3, _, _⟩ := rep.at_ i s es
                  refine ⟨v :: vs, by rw [List.length_cons, List.length_cons, h1], fun k j hk => ?_⟩
                  cases k with
                  | zero => cases hk; exact ⟨v, rfl, h3⟩
                  | succ k => exact h2 k j hk
              · cases h
          exact key eds
        obtain ⟨vs, hl, hv⟩ := hx
        obtain ⟨A, ow, na, hA⟩ := slots_own rep hh.1 eds hl hv
        obtain ⟨B, C, k1, k2⟩ := OwnN.at_ (m := dep ds) (dep_le ds) ow
        have k3 := k1 (fun a => S a ∨ a ∈ C) (fun a q => .inl q) (fun a q => .inr q)
        have hB : ∀ a ∈ B, a ∈ A := fun a q => (k2.1 a).mpr (.inl q)
        have hC : ∀ a ∈ C, a ∈ A := fun a q => (k2.1 a).mpr (.inr q)
        obtain ⟨n1, n2, n3⟩ := List.nodup_append.mp (k2.2 na)
        have inF : ∀ a ∈ A, a ∈ As.flatten := fun a q => let ⟨i, C, _, h3, h4⟩ := hA a q; mem_flat h3 h4
        refine ⟨vs, hl, hv, by rw [hl]; exact hh.2, fun p hp => ?_⟩
        have ne : ∀ {a : Addr}, (H a).isSome = true → a ≠ p := fun q e => by rw [e, hp] at q; cases q
        refine h _ _ (fun a => S a ∨ a ∈ C) B (fun a o e _ => by rw [upd_ne (ne (by rw [e]; rfl))]; exact e) (fun a q => by rw [upd_ne (ne q)]; exact q) (fun a q => .inl q) (fun a q => q.elim .inl fun q => .inr (.inl (inF a (hC a q)))) (fun a q => ?_) (own_tup (xs := vs) (.inl (.inl upd_same)) (k3.keep ⟨fun a q => upd_ne (ne (ow.there a (hB a q))), fun a q => ⟨q, upd_ne (ne ?_)⟩, fun a xs q => ?_⟩)) n1 fun a q => ⟨fun z => ?_, .inl (inF a (hB a q))⟩
        · have : (H a).isSome = true := q.elim (rep.sz a) fun q => ow.there a (hC a q)
          rw [upd_ne (ne this)]
          exact this
        · exact q.elim (rep.sz a) fun q => ow.there a (hC a q)
        · have : a ≠ p := ne (by rcases q with q | ⟨_, q⟩ <;> (rw [q]; rfl))
          unfold Rd
          rw [upd_ne this]
          exact q
        · rcases z with z | z
          · exact rep.dis a (inF a (hB a q)) z
          · exact n3 a q a z rfl
      · exact h.elim
    · exact h.elim
/-- list.extend by a list however it stands -/
def rExt : V → List V → Hp → VK → Prop := fun x vs H Q => ∃ (l b : Addr) (xs zs : List V), x = .ref l ∧ vs = [.ref b] ∧ H l = some (.lst xs) ∧ Rd H b (.lst zs) ∧ xs.length + zs.length ≤ sizeLine ∧ Q .non (upd H l (.lst (xs ++ zs)))
theorem mt_ext : MtM X "list.extend" rExt := by
  intro pins s σ H x vs v us Q I rx rv ⟨l, b, xs, zs, ex, ev, hl, hb, hz, q⟩
  subst ex
  subst ev
  cases rx
  obtain ⟨u, eu, ru⟩ := rv.one
  subst eu
  cases ru
  obtain ⟨_, ts, n, r1, len1, e1⟩ := I.lstM hl
  obtain ⟨_, ts2, n2, r2, e2⟩ := hb.ok I.hok
  have len2 := r2.length
  have small : ts.toArray.size + ts2.toArray.size ≤ sizeLine := by simp only [List.size_toArray]; omega
  have nl : ¬ (!ts.toArray.isEmpty && Builtin.List.listTooLong (ts.toArray.size + ts2.toArray.size)) = true := by rw [notLongL small, Bool.and_false]; decide
  have sz1 : ts.toArray.size ≤ sizeLine := Nat.le_trans (Nat.le_add_right _ _) small
  refine call_meets PySem.F.slot_list_extend ⟨_, e1, rfl⟩ PySem.F.entry_list_extend (PySem.F.args_list_extend_2 _ _) (AutoSeq1.list_extend_list_list_0 l ts.toArray n b ts2.toArray n2 nl sz1 (Nat.le_succ_of_le small)) ⟨e1, e2, .non, _, I.lset (its' := ts ++ ts2) hl e1 (by simp) (r1.append r2) (by rw [List.length_append]; omega), rfl, q⟩
theorem flat_own {n : Nat} {d : PL.D} {v : V} {A : Fp} (hf : flatD d = true) (o : Own g H S n d v A) : ∀ (H' : Hp) (R : Rg) (k : Nat), Own g H' R k d v [] := by
  cases d <;> first | (cases hf; done) | skip
  all_goals (intro H' R k; unfold Own at o ⊢; exact ⟨o.1, rfl⟩)
theorem flat_ownL {n : Nat} : ∀ {l : List PL.D} {vs : List V} {A : Fp}, l.all flatD = true → OwnL g H S n l vs A → ∀ (H' : Hp) (R : Rg) (k : Nat), OwnL g H' R k l vs []
  | [], vs, A, _, o, H', R, k => by unfold OwnL at o ⊢; exact ⟨o.1, rfl⟩
  | d :: l, vs, A, hf, o, H', R, k => by
    unfold OwnL at o
    obtain ⟨x, ys, B, C, rfl, rfl, h1, h2⟩ := o
    simp only [List.all_cons, Bool.and_eq_true] at hf
    exact OwnL.cons (A := []) (B := []) (flat_own hf.1 h1 H' R k) (flat_ownL hf.2 h2 H' R k)
/-- the list at a path's end becomes another one, no owned value goes in -/
theorem mut_flat (inj : ∀ i j, g.AN i = g.AN j → i = j) {j : Nat} {qs : List PS1} {F : List PL.D → Option (List PL.D)} (r1 : Rep g H1 S1 As1 ρ1 σ) (st : Stp H S As ρ H1 S1 As1 ρ1) (h : RFS g xg H S As ρ (mutS j qs .non 0 F ρ1) W D) {v0 : V} (hv : σ[j]? = some (some v0)) {r : V} (hr : VP g H1 v0 qs r) :
    ∃ l l' a xs, F l = some l' ∧ r = .ref a ∧ H1 a = some (.lst xs) ∧ xs.length = l.length ∧
      ∀ nx, (∀ (R : Rg) k B, OwnL g H1 R k l xs B → ∃ Bn, OwnL g H1 R k l' nx Bn ∧ (B.Nodup → Bn.Nodup) ∧ ∀ b ∈ Bn, b ∈ B) → D.nx σ (upd H1 a (.lst nx)) := by
  unfold mutS at h
  split at h
  · rename_i s es
    split at h
    · exact h.elim
    · rename_i hlk
      split at h
      · rename_i l u hg
        split at h
        · rename_i l' hl
          split at h
          · rename_i hu
            obtain ⟨q, xs, e1, e2, e3, kk⟩ := mut_core (xg := xg) (W := W) (D := D) (v := .non) inj r1 st es (by simpa using hlk) hg hu own_non List.nodup_nil (fun a q => nomatch q) hv hr
            refine ⟨l, l', q, xs, hl, e1, e2, e3, fun nx hn => kk _ nx (fun R k B T' ol oV ndd => ?_) h⟩
            obtain ⟨Bn, k1, k2, k3⟩ := hn R k B ol
            exact ⟨Bn, k1, k2 (List.nodup_append.mp ndd).1, fun b q => List.mem_append_left _ (k3 b q)⟩
          · exact h.elim
        · exact h.elim
      · exact h.elim
  · exact h.elim
theorem s_ext {o : Expr} {e : Expr} {apos cpos : Pos} {j : Nat} {ps : List Pa} {nm : Str} (inj : ∀ i j, g.AN i = g.AN j → i = j) (hnm : nm = "extend") (h1 : noSuper o = true) (hs : noStar e = true) (hl : (apos.endLine == cpos.line) = true)
    (ho : PE X o (RdP g Γ j ps)) (he : PE X e (RdE g xg Γ W xa)) : PS X (.Expr (.Call (.Attribute o nm apos) [e] [] cpos) pos) (RdS g xg Γ W (.ext j ps xa)) := by
  subst hnm
  refine (ps_expr (pe_bm PySem.F.plainAttrs_list PySem.F.slot_list_extend PySem.F.type_list_extend mt_ext ho (pa_cons he pa_nil (star_cons hs)) (attrBase h1) (plain_form (es := [e]) (by simp [hs]) (by show (1 : Nat) < 30; decide)) hl (star_cons hs) rfl) rfl).imp fun D σ H ⟨ρ, S, As, rep, h⟩ => ?_
  unfold exS at h
  split at h
  · rename_i qs eq
    split at h
    · rename_i hok
      obtain ⟨v0, p, xs0, hv, vp, hp⟩ := pathOk_vp inj rep hok
      refine ⟨_, _, qs, v0, _, rep.viewA, eq, hv, vp, fun H1 S1 f1 => ⟨.inl ⟨rfl, _, rdL (.inl (f1.ext _ _ hp))⟩, ?_⟩⟩
      obtain ⟨r1, s1⟩ := rep.pure f1
      have h' := RFS.fw s1 r1 h
      refine ⟨_, _, r1.viewA, ?_⟩
      cases ee : evE Γ xa (viewA ρ) with
      | ok d n =>
        rw [ee] at h'
        cases d with
        | lst l2 =>
          dsimp only at h'
          split at h'
          · rename_i hf
            intro w H2 S2 T o
            obtain ⟨r2, s2⟩ := r1.pure o.fw
            obtain ⟨l, l', a, xs, e1, e2, e3, e4, kk⟩ := mut_flat inj r2 s2 h' hv ((vp.ext f1.ext).ext o.ext)
            split at e1
            · rename_i hz
              cases e1
              obtain ⟨S3, f3, o3⟩ := o.frz r1.viewA.sz
              obtain ⟨b, zs, rfl, _, t, ol⟩ := own_lst_v o3
              have len := ol.length
              refine ⟨a, b, xs, zs, e2, rfl, e3, t, Nat.le_trans (by rw [e4, len]; exact of_decide_eq_true hz) sizeLine_le, kk _ fun R k B oB => ⟨B ++ [], OwnL.append oB (flat_ownL hf ol _ _ _), fun nd => by simpa using nd, fun b q => by simpa using q⟩⟩
            · cases e1
          · exact h'.elim
        | _ => exact h'.elim
      | exn x => rw [ee] at h'; exact exn_fr h'
      | bad => rw [ee] at h'; exact h'.elim
    · exact h.elim
  · exact h.elim
theorem s_clr {o : Expr} {apos cpos : Pos} {j : Nat} {ps : List Pa} {nm : Str} (inj : ∀ i j, g.AN i = g.AN j → i = j) (hnm : nm = "clear") (h1 : noSuper o = true) (hl : (apos.endLine == cpos.line) = true)
    (ho : PE X o (RdP g Γ j ps)) : PS X (.Expr (.Call (.Attribute o nm apos) [] [] cpos) pos) (RdS g xg Γ W (.clr j ps)) := by
  subst hnm
  refine (ps_expr (pe_bm0 PySem.F.plainAttrs_list PySem.F.slot_list_clear PySem.F.type_list_clear mt_clear ho (attrBase h1) hl) rfl).imp fun D σ H ⟨ρ, S, As, rep, h⟩ => ?_
  unfold exS at h
  split at h
  · rename_i qs eq
    split at h
    · rename_i hok
      obtain ⟨v0, p, xs0, hv, vp, hp⟩ := pathOk_vp inj rep hok
      refine ⟨_, _, qs, v0, _, rep.viewA, eq, hv, vp, fun H1 S1 f1 => ⟨.inl ⟨rfl, _, rdL (.inl (f1.ext _ _ hp))⟩, ?_⟩⟩
      obtain ⟨r1, s1⟩ := rep.pure f1
      obtain ⟨l, l', a, xs, e1, e2, e3, e4, kk⟩ := mut_flat inj r1 s1 h hv (vp.ext f1.ext)
      cases e1
      exact ⟨a, xs, e2, rfl, e3, kk [] fun R k B _ => ⟨[], by unfold OwnL; exact ⟨rfl, rfl⟩, fun _ => List.nodup_nil, fun b q => nomatch q⟩⟩
    · exact h.elim
  · exact h.elim
theorem s_aug {i : Nat} {x : Str} {e : Expr} {p2 : Pos} (hN : X.N.Nodup) (hi : X.N[i]? = some x) (hx : Loc X.env.scope x) (he : PE X e (RdE g xg Γ W xa)) (hf : X.fn x = true ∨ X.env.scope.names.lookup x = some .local) (hz : Fre g i) : PS X (.AugAssign (.Name x p2) .Add e pos) (RdS g xg Γ W (.aug i xa)) := by
  refine (ps_aug hN hi hx he ip_add hf).imp fun D σ H ⟨ρ, S, As, rep, h⟩ => ?_
  unfold exS at h
  split at h
  · rename_i s es
    obtain ⟨v, A, h1, h2, o1⟩ := rep.at_ i s es
    split at h
    · rename_i k ek
      rw [ek] at o1
      rw [own_int_v o1] at h1
      refine ⟨_, h1, _, _, rep.viewA, ?_⟩
      cases ee : evE Γ xa (viewA ρ) with
      | ok d n =>
        rw [ee] at h
        cases d with
        | int m =>
          dsimp only at h
          intro w H2 S2 T o
          obtain ⟨r1, s1⟩ := rep.pure o.fw
          rw [own_int_v o.own]
          exact ⟨k, m, rfl, rfl, putS_rf (T := []) r1 s1 own_int List.nodup_nil (fun a q => nomatch q) hz h⟩
        | _ => exact h.elim
      | exn x => rw [ee] at h; exact exn_fr h
      | bad => rw [ee] at h; exact h.elim
    · exact h.elim
  · exact h.elim
theorem kp_refl {F : Fp} : Kp H H S S F := ⟨fun _ _ => rfl, fun _ q => ⟨q, rfl⟩, fun _ _ q => q⟩
theorem s_setp {o i : Expr} {e : Expr} {tpos : Pos} {j : Nat} {ps : List Pa} {f : Fz} (inj : ∀ i j, g.AN i = g.AN j → i = j) (hc : noComp e = true) (hni : noSlice i = true)
    (ho : PE X o (RdP g Γ j ps)) (hi : PE X i (RdE g xg Γ W xb)) (he : PE X e (RdE g xg Γ W xa)) : PS X (.Assign [.Subscript o i tpos] e pos) (RdS g xg Γ W (.setp j ps xb xa f)) := by
  refine (ps_asg he (pg_sub ho hi set_list fun _ => by cases i <;> first | rfl | exact absurd hni Bool.false_ne_true) (show swapsWith e (some (.Subscript o i tpos)) pos.line X.env = pure false from noSwap hc) (by cases e <;> rfl) rfl).imp fun D σ H ⟨ρ, S, As, rep, h⟩ => ?_
  unfold exS at h
  refine evP_rfE rep h fun d n v ρ1 H1 S1 As1 T _ _ r1 s1 o nd fr h1 => ?_
  cases eq : evPs Γ (viewA ρ1) (ps ++ [.ix xb]) with
  | none => rw [eq] at h1; exact h1.elim
  | some qs =>
    rw [eq] at h1
    obtain ⟨q1, q2, rfl, e1, e2⟩ := evPs_snoc eq
    unfold evPs at e2
    split at e2
    · rename_i k m e3
      unfold evPs at e2
      cases e2
      dsimp only [Option.map_some] at h1
      rw [List.getLast?_append] at h1
      simp only [List.getLast?_singleton, Option.some_or, List.dropLast_concat] at h1
      unfold mutS at h1
      split at h1
      · rename_i s es
        split at h1
        · exact h1.elim
        · rename_i hlk
          split at h1
          · rename_i l u hg
            split at h1
            · rename_i l' hl
              split at h1
              · rename_i hu
                have hok : pathOk j q1 ρ1 = true := by
                  unfold pathOk
                  rw [es]
                  dsimp only
                  rw [hg]
                  exact decide_eq_true hu
                obtain ⟨v0, p, xs0, hv, vp, hp⟩ := pathOk_vp inj r1 hok
                refine ⟨_, _, q1, v0, _, r1.viewA, e1, hv, vp, fun H2 S2 f2 => ⟨S2, viewA ρ1, r1.viewA.fw f2, ?_⟩⟩
                rw [e3]
                intro w H3 S3 T3 o3
                rw [own_int_v o3.own]
                have f3 := f2.trans o3.fw
                obtain ⟨r3, s3⟩ := r1.pure f3
                have keep : ∀ b, (H1 b).isSome = true → H3 b = H1 b := fun b q => by
                  cases z : H1 b with
                  | none => rw [z] at q; cases q
                  | some u => exact f3.ext b u z
                have o' : Own g H3 (fun a => S1 a ∨ S3 a ∧ H1 a = none) n d v T := o.keep ⟨fun b q => keep b (o.there b q), fun b q => ⟨.inl q, keep b (r1.sz b q)⟩, fun b xs q => f3.ext.rd q⟩
                have hm : ∃ m, ixN l.length k = some m ∧ l' = l.set m d := by
                  dsimp only at hl
                  split at hl
                  · rename_i m hm
                    cases hl
                    exact ⟨m, hm, rfl⟩
                  · cases hl
                obtain ⟨m, hm, rfl⟩ := hm
                obtain ⟨a, xs, ea, ha, hlen, kk⟩ := mut_core (xg := xg) (W := W) (D := D) inj r3 (s1.trans r1 s3) es (by simpa using hlk) hg hu o' nd (fun b q => ⟨(fr b q).1, (fun z => by
                  rcases z with z | z
                  · exact (fr b q).2.1 z
                  · have := o.there b q
                    rw [z.2] at this
                    cases this), (fr b q).2.2⟩) hv (vp.ext f3.ext)
                refine ⟨a, xs, k, m, ea, rfl, ha, by rw [hlen]; exact hm, kk (l.set m d) (xs.set m v) (fun R k' B T' ol oV ndd => ?_) h1⟩
                have hml : m < l.length := (ixN_seq hm).2.1
                obtain ⟨x, B1, B0, B2, f4, rfl, f5, f6⟩ := ol.split (List.getElem?_eq_getElem hml)
                refine ⟨B1 ++ T' ++ B2, f6 _ _ d v T' kp_refl oV, ?_, fun b q => ?_⟩
                · obtain ⟨n1, n2, n3⟩ := List.nodup_append.mp ndd
                  refine nd_swap n1 n2 fun b hb => .inr ⟨fun z => ?_, fun z => ?_⟩
                  · exact n3 b (by simp [z]) b hb rfl
                  · exact n3 b (by simp [z]) b hb rfl
                · have : b ∈ B1 ∨ b ∈ T' ∨ b ∈ B2 := by simpa [or_assoc] using q
                  rcases this with z | z | z <;> simp [z]
              · exact h1.elim
            · exact h1.elim
          · exact h1.elim
      · exact h1.elim
    · cases e2
end
end PL
namespace PL
open PySem L2 PyProof.Rows
section
variable {g : G} {xg : XG} {Γ : Fe} {X : Cx} {W : WX} {H H1 : Hp} {S S1 : Rg} {As As1 : List Fp} {ρ ρ1 : En} {σ : L2.St} {D : Ends} {a b c : Expr} {xa xb xc : Ex} {pos : Pos}
/-- a node of a slot becomes another one, and the slot stands anew -/
theorem poke_core (r1 : Rep g H1 S1 As1 ρ1 σ) (st : Stp H S As ρ H1 S1 As1 ρ1) {j : Nat} {s : Sl} (es : ρ1[j]? = some (some s)) (hlk : s.lk = false) {A : Fp} (hA : As1[j]? = some A)
    {T : Fp} (there : ∀ b ∈ T, (H1 b).isSome = true) (fr : ∀ a ∈ T, H a = none ∧ ¬ S1 a ∧ a ∉ As1.flatten) {v0 : V} (hv : σ[j]? = some (some v0)) {B0 C0 T' C' : Fp} (dBC : ∀ x ∈ B0, x ∉ C0) (dTC : ∀ x ∈ T', x ∉ C')
    (hB0 : ∀ b ∈ B0, b ∈ A) (hC0 : ∀ b ∈ C0, b ∈ A) (hT' : ∀ b ∈ T', b ∈ T) (hC' : ∀ b ∈ C', b ∈ T) {p : Addr} {o u : HO} (pB0 : p ∈ B0) (hp : H1 p = some u) (hu : ∀ xs, u ≠ .tup xs) (hf : ∀ ob x, u ≠ .frz ob x) {m : Nat} {d' : PL.D} {T2 : Fp}
    (oN : Own g (upd H1 p o) (fun b => S1 b ∨ (b ∈ C0 ∨ b ∈ C')) m d' v0 T2) (ndT2 : T2.Nodup) (inT2 : ∀ b ∈ T2, b ∈ B0 ∨ b ∈ T') (h : RFS g xg H S As ρ (.nx (ρ1.set j (some ⟨d', m, false⟩))) W D) : D.nx σ (upd H1 p o) := by
  have pA := hB0 p pB0
  have naT : ∀ b ∈ T, b ∉ A := fun b q z => (fr b q).2.2 (mem_flat hA z)
  have nR : ¬ (S1 p ∨ (p ∈ C0 ∨ p ∈ C')) := fun q => by
    rcases q with q | q | q
    · exact r1.dis p (mem_flat hA pA) q
    · exact dBC p pB0 q
    · exact naT p (hC' p q) pA
  have notC : ∀ b ∈ T2, ¬ (S1 b ∨ (b ∈ C0 ∨ b ∈ C')) := fun b hb q => by
    rcases inT2 b hb with z | z
    · rcases q with q | q | q
      · exact r1.dis b (mem_flat hA (hB0 b z)) q
      · exact dBC b z q
      · exact naT b (hC' b q) (hB0 b z)
    · rcases q with q | q | q
      · exact (fr b (hT' b z)).2.1 q
      · exact naT b (hT' b z) (hC0 b q)
      · exact dTC b z q
  have other : ∀ {b : Addr}, b ∈ (As1.set j []).flatten → b ∈ As1.flatten ∧ b ∉ A := fun {b} q => by
    obtain ⟨i, F, h1, h2⟩ := of_flat q
    rcases set_at h1 with ⟨rfl, e⟩ | ⟨hne, e⟩
    · subst e; cases h2
    · exact ⟨mem_flat e h2, fun z => hne (nd_slots r1.nd hA e z h2)⟩
  have r2 := ((r1.drop j).more (C := fun b => b ∈ C0 ∨ b ∈ C') (fun b q => q.elim (fun q => r1.there (mem_flat hA (hC0 b q))) fun q => there b (hC' b q)) fun b q z => by
      rcases z with z | z
      · exact (other q).2 (hC0 b z)
      · exact (fr b (hC' b z)).2.2 (other q).1).poke (o := o) hp hu hf nR fun q => (other q).2 pA
  have fromA : ∀ b ∈ A, b ∈ As.flatten ∨ H b = none := fun b q => st.ow b (mem_flat hA q)
  have nlk : ∀ b i, b ∈ A → ¬ Lk ρ1 As1 i b := fun b i q ⟨s', F, h1, h2, h3, h4⟩ => by
    have := nd_slots r1.nd hA h3 q h4
    subst this
    rw [es] at h1
    cases h1
    rw [hlk] at h2
    cases h2
  have st2 : Stp H S As ρ (upd H1 p o) (fun b => S1 b ∨ (b ∈ C0 ∨ b ∈ C')) (As1.set j []) (ρ1.set j none) := by
    refine ⟨fun b w e q => ?_, fun b q => ?_, fun b q => .inl (st.sub b q), fun b q => ?_, fun b q => ?_, fun i b q => ?_⟩
    · have hb := st.fr b w e q
      have : b ≠ p := fun z => by
        subst z
        rcases fromA b pA with y | y
        · rcases q with q | ⟨i, q⟩
          · exact q y
          · rcases st.lk i b q with x | x
            · exact nlk b i pA x
            · exact r1.dis b (mem_flat hA pA) x
        · rw [e] at y; cases y
      rw [upd_ne this]
      exact hb
    · by_cases e : b = p
      · rw [e, upd_same]; rfl
      · rw [upd_ne e]; exact st.dom b q
    · rcases q with q | q | q
      · exact st.new b q
      · exact .inr (fromA b (hC0 b q))
      · exact .inr (.inr (fr b (hC' b q)).1)
    · exact st.ow b (other q).1
    · rcases st.lk i b q with z | z
      · obtain ⟨s', F, h1, h2, h3, h4⟩ := z
        have hne : j ≠ i := fun e => by
          subst e
          rw [es] at h1
          cases h1
          rw [hlk] at h2
          cases h2
        exact .inl ⟨s', F, by rw [List.getElem?_set_ne hne]; exact h1, h2, by rw [List.getElem?_set_ne hne]; exact h3, h4⟩
      · exact .inr (.inl z)
  have hj : j < ρ1.length := (List.getElem?_eq_some_iff.mp es).1
  obtain ⟨r3, s3⟩ := put_ok (i := j) r2 st2 oN ndT2 (fun b q => ⟨(inT2 b q).elim (fun z => fromA b (hB0 b z)) fun z => .inr (fr b (hT' b z)).1, notC b q, fun i F h1 hne h2 => by
    rcases set_at h1 with ⟨rfl, e⟩ | ⟨_, e⟩
    · exact hne rfl
    · rcases inT2 b q with z | z
      · exact hne (nd_slots r1.nd e hA h2 (hB0 b z))
      · exact (fr b (hT' b z)).2.2 (mem_flat e h2)⟩) (by unfold lockedAt; rw [List.getElem?_set_self hj]) (fun w hw e => by
    have h0 := r1.slf w hw
    rw [← e, hv] at h0
    cases h0
    rfl)
  rw [set_same hv, List.set_set, List.set_set] at r3
  rw [List.set_set, List.set_set] at s3
  exact h _ _ _ _ r3 s3
/-- an attribute that is there -/
theorem putF_in (inj : ∀ i j, g.AN i = g.AN j → i = j) {f : Nat} {d : PL.D} {v : V} : ∀ {ks : List Nat} {vs : List PL.D} {xs : List V}, ks.contains f = true → ks.length = vs.length → vs.length = xs.length →
    ∃ i, i < vs.length ∧ putF1 f d ks vs = vs.set i d ∧ L2.putF (g.AN f) v ((ks.map g.AN).zip xs) = (ks.map g.AN).zip (xs.set i v)
  | [], vs, xs, h, _, _ => by simp at h
  | k :: ks, [], xs, h, e, _ => by simp at e
  | k :: ks, w :: vs, [], h, _, e => by simp at e
  | k :: ks, w :: vs, x :: xs, h, e1, e2 => by
    by_cases q : k = f
    · subst q
      refine ⟨0, Nat.succ_pos _, ?_, ?_⟩
      · show (if k = k then d :: vs else _) = _
        rw [if_pos rfl]
        rfl
      · show (if g.AN k = g.AN k then (g.AN k, v) :: _ else _) = _
        rw [if_pos rfl]
        rfl
    · have h' : ks.contains f = true := by
        simp only [List.contains_cons, Bool.or_eq_true, beq_iff_eq] at h
        rcases h with h | h
        · exact absurd h.symm q
        · exact h
      obtain ⟨i, h1, h2, h3⟩ := putF_in inj (d := d) (v := v) h' (Nat.succ.inj e1) (Nat.succ.inj e2)
      refine ⟨i + 1, Nat.succ_lt_succ h1, ?_, ?_⟩
      · show (if k = f then d :: vs else w :: putF1 f d ks vs) = _
        rw [if_neg q, h2]
        rfl
      · show (if g.AN k = g.AN f then (g.AN k, v) :: _ else (g.AN k, x) :: L2.putF (g.AN f) v ((ks.map g.AN).zip xs)) = _
        rw [if_neg fun e => q (inj _ _ e), h3]
        rfl
/-- an attribute that isn't there -/
theorem putF_out (inj : ∀ i j, g.AN i = g.AN j → i = j) {f : Nat} {v : V} : ∀ {ks : List Nat} {xs : List V}, ¬ ks.contains f = true → ks.length = xs.length → L2.putF (g.AN f) v ((ks.map g.AN).zip xs) = ((ks ++ [f]).map g.AN).zip (xs ++ [v])
  | [], [], _, _ => rfl
  | [], x :: xs, _, e => by simp at e
  | k :: ks, [], _, e => by simp at e
  | k :: ks, x :: xs, h, e => by
    have q : k ≠ f := fun z => h (by subst z; simp)
    have h' : ¬ ks.contains f = true := fun z => h (by simp only [List.contains_cons, Bool.or_eq_true]; exact .inr z)
    show (if g.AN k = g.AN f then (g.AN k, v) :: _ else (g.AN k, x) :: L2.putF (g.AN f) v ((ks.map g.AN).zip xs)) = _
    rw [if_neg fun e => q (inj _ _ e), putF_out inj h' (Nat.succ.inj e)]
    rfl
theorem s_setf {j f : Nat} {x nm : Str} {e : Expr} {fz : Fz} {tpos p2 : Pos} (hf : g.AN f = nm) (inj : ∀ i j, g.AN i = g.AN j → i = j) (C : ∀ c, Γ.fo c f = true → Cls X.K (g.CA c) ∧ NoAttr X.K (g.CA c) nm) (hN : X.N[j]? = some x) (hv : Vis X.env.scope x) (hd : (x == ("__debug__" : Str)) = false) (hcd : (x == ("__classdict__" : Str)) = false)
    (he : PE X e (RdE g xg Γ W xa)) : PS X (.Assign [.Attribute (.Name x p2) nm tpos] e pos) (RdS g xg Γ W (.setf j f xa fz)) := by
  subst hf
  refine (ps_fld (pe_var hN hv hd hcd) he (by cases e <;> rfl)).imp fun D σ H ⟨ρ, S, As, rep, h⟩ => ?_
  unfold exS at h
  refine evP_rf rep h fun d n v ρ1 H1 S1 As1 T _ r1 st o nd fr h1 => ?_
  unfold setA at h1
  split at h1
  · rename_i s es
    split at h1
    · exact h1.elim
    · rename_i hlk
      split at h1
      · rename_i c ks vs ed
        split at h1
        · rename_i hh
          simp only [Bool.and_eq_true, decide_eq_true_eq] at hh
          obtain ⟨⟨hfo, hn0⟩, hks⟩ := hh
          obtain ⟨v0, A, hv0, hA, oA⟩ := r1.at_ j s es
          generalize hmd : (if immB n d = true ∨ s.n ≤ 1 + n then s.n else 1 + n) = m at h1
          have hm : m ≤ s.n := by rw [← hmd]; split <;> omega
          have hm0 : 0 < m := by rw [← hmd]; split <;> omega
          have hkn : m - 1 ≤ n ∨ immB n d = true := by
            rw [← hmd]
            split
            · rename_i z
              rcases z with z | z
              · exact .inr z
              · exact .inl (by omega)
            · exact .inl (by omega)
          obtain ⟨B0, C0, k1, sp0⟩ := Own.weak hm oA
          obtain ⟨T', C', k2, sp1⟩ : ∃ T' C', (∀ R : Rg, (∀ a, S1 a → R a) → (∀ a ∈ C', R a) → Own g H1 R (m - 1) d v T') ∧ Spl T T' C' := by
            by_cases hk : m - 1 ≤ n
            · exact Own.weak hk o
            · exact ⟨T, [], fun R _ _ => o.imm (by omega) (hkn.resolve_left hk), ⟨fun a => by simp, fun h => by simpa using h⟩⟩
          have ndA := nd_one r1.nd hA
          obtain ⟨ndB0, ndC0, dBC⟩ := List.nodup_append.mp (sp0.2 ndA)
          obtain ⟨ndT', ndC', dTC⟩ := List.nodup_append.mp (sp1.2 nd)
          have hB0 : ∀ b ∈ B0, b ∈ A := fun b q => (sp0.1 b).mpr (.inl q)
          have hC0 : ∀ b ∈ C0, b ∈ A := fun b q => (sp0.1 b).mpr (.inr q)
          have hT' : ∀ b ∈ T', b ∈ T := fun b q => (sp1.1 b).mpr (.inl q)
          have hC' : ∀ b ∈ C', b ∈ T := fun b q => (sp1.1 b).mpr (.inr q)
          have oR := k1 (fun b => S1 b ∨ (b ∈ C0 ∨ b ∈ C')) (fun b q => .inl q) (fun b q => .inr (.inl q))
          have oV := k2 (fun b => S1 b ∨ (b ∈ C0 ∨ b ∈ C')) (fun b q => .inl q) (fun b q => .inr (.inr q))
          obtain ⟨k, rfl⟩ : ∃ k, m = k + 1 := ⟨m - 1, by omega⟩
          rw [Nat.add_sub_cancel] at oV
          rw [ed] at oR
          unfold Own at oR
          obtain ⟨a, dx, xs, B, rfl, ha, hlen, eB, ol⟩ := oR
          have aB0 : a ∈ B0 := by rw [eB]; exact List.mem_cons_self
          have aA := hB0 a aB0
          have lx := ol.length
          have naT : ∀ b ∈ T, b ∉ A := fun b q z => (fr b q).2.2 (mem_flat hA z)
          have nR : ¬ (S1 a ∨ (a ∈ C0 ∨ a ∈ C')) := fun q => by
            rcases q with q | q | q
            · exact r1.dis a (mem_flat hA aA) q
            · exact dBC a aB0 a q rfl
            · exact naT a (hC' a q) aA
          rw [eB] at ndB0
          obtain ⟨naB, ndB⟩ := List.nodup_cons.mp ndB0
          have hBB : ∀ b ∈ B, b ∈ B0 := fun b q => by rw [eB]; exact List.mem_cons_of_mem _ q
          have sep : ∀ x ∈ B, ∀ y ∈ T', x ≠ y := fun x hx y hy e => by
            subst e
            exact naT x (hT' x hy) (hB0 x (hBB x hx))
          have goal : ∀ (ks2 : List Nat) (vs2 : List PL.D) (xs2 : List V) (Bn : Fp), OwnL g H1 (fun b => S1 b ∨ (b ∈ C0 ∨ b ∈ C')) k vs2 xs2 Bn → Bn.Nodup → (∀ b ∈ Bn, b ∈ B ++ T') → ks2.length = vs2.length → L2.putF (g.AN f) v ((ks.map g.AN).zip xs) = (ks2.map g.AN).zip xs2 →
              RFS g xg H S As ρ (.nx (ρ1.set j (some ⟨.obj c ks2 vs2, k + 1, false⟩))) W D → D.nx σ (upd H1 a (.ins (g.CA c) dx (L2.putF (g.AN f) v ((ks.map g.AN).zip xs)))) := fun ks2 vs2 xs2 Bn on ndn sub hl2 ep h2 => by
            rw [ep]
            have naBn : a ∉ Bn := fun q => by
              rcases List.mem_append.mp (sub a q) with z | z
              · exact naB z
              · exact naT a (hT' a z) aA
            refine poke_core r1 st es (by simpa using hlk) hA (fun b q => o.there b q) fr hv0 (fun x hx hy => dBC x hx x hy rfl) (fun x hx hy => dTC x hx x hy rfl) hB0 hC0 hT' hC' aB0 ha (fun _ q => by cases q) (fun _ _ q => by cases q) (T2 := a :: Bn) (d' := .obj c ks2 vs2) (m := k + 1) ?_ (List.nodup_cons.mpr ⟨naBn, ndn⟩) (fun b hb => ?_) h2
            · unfold Own
              refine ⟨a, dx, xs2, Bn, rfl, upd_same, hl2, rfl, on.keep (kp_poke ha (fun _ q => by cases q) (fun _ _ q => by cases q) nR naBn)⟩
            · rcases List.mem_cons.mp hb with rfl | hb
              · exact .inl aB0
              · rcases List.mem_append.mp (sub b hb) with z | z
                · exact .inl (hBB b z)
                · exact .inr z
          refine ⟨_, hv0, a, _, dx, _, rfl, ha, (C c hfo).1, (C c hfo).2, by rw [List.length_zip, List.length_map]; omega, ?_⟩
          by_cases hin : ks.contains f = true
          · rw [if_pos hin] at h1
            obtain ⟨i, i1, i2, i3⟩ := putF_in inj (d := d) (v := v) hin hlen (by rw [lx])
            obtain ⟨y, B1, Bi, B2, f4, rfl, f5, f6⟩ := ol.split (List.getElem?_eq_getElem i1)
            rw [i2] at h1
            refine goal ks (vs.set i d) (xs.set i v) (B1 ++ T' ++ B2) (f6 _ _ d v T' kp_refl oV) ?_ (fun b q => ?_) (by rw [List.length_set]; exact hlen) i3 h1
            · refine nd_swap ndB ndT' fun b hb => .inr ⟨fun z => ?_, fun z => ?_⟩
              · exact sep b (by simp [z]) b hb rfl
              · exact sep b (by simp [z]) b hb rfl
            · have : b ∈ B1 ∨ b ∈ T' ∨ b ∈ B2 := by simpa [or_assoc] using q
              rcases this with z | z | z <;> simp [z]
          · rw [if_neg hin] at h1
            refine goal (ks ++ [f]) (vs ++ [d]) (xs ++ [v]) (B ++ T') (OwnL.append ol (OwnL.one oV)) (List.nodup_append.mpr ⟨ndB, ndT', sep⟩) (fun b q => q) (by simp [hlen]) (putF_out inj hin (by omega)) h1
        · exact h1.elim
      · exact h1.elim
  · exact h1.elim
end
end PL

namespace PL
open PySem L2 PyProof.Rows
section
variable {g : G} {xg : XG} {Γ : Fe} {X : Cx} {W : WX} {H H1 : Hp} {S S1 : Rg} {As As1 : List Fp} {ρ ρ1 : En} {σ : L2.St} {D : Ends} {a b c : Expr} {xa xb xc : Ex} {pos : Pos}
/-- a slot's nodes below a depth are given up -/
theorem slot_weak (r1 : Rep g H1 S1 As1 ρ1 σ) (st : Stp H S As ρ H1 S1 As1 ρ1) {j : Nat} {s : Sl} (es : ρ1[j]? = some (some s)) (hlk : s.lk = false) {m : Nat} (hm : m ≤ s.n) :
    ∃ S2 As2, Rep g H1 S2 As2 (ρ1.set j (some ⟨s.d, m, false⟩)) σ ∧ Stp H S As ρ H1 S2 As2 (ρ1.set j (some ⟨s.d, m, false⟩)) := by
  obtain ⟨v0, A, hv, hA, oA⟩ := r1.at_ j s es
  obtain ⟨B0, C0, k1, sp0⟩ := Own.weak hm oA
  have ndA := nd_one r1.nd hA
  obtain ⟨ndB0, ndC0, dBC⟩ := List.nodup_append.mp (sp0.2 ndA)
  have hB0 : ∀ b ∈ B0, b ∈ A := fun b q => (sp0.1 b).mpr (.inl q)
  have hC0 : ∀ b ∈ C0, b ∈ A := fun b q => (sp0.1 b).mpr (.inr q)
  have oR := k1 (fun b => S1 b ∨ b ∈ C0) (fun b q => .inl q) (fun b q => .inr q)
  have other : ∀ {b : Addr}, b ∈ (As1.set j []).flatten → b ∈ As1.flatten ∧ b ∉ A := fun {b} q => by
    obtain ⟨i, F, h1, h2⟩ := of_flat q
    rcases set_at h1 with ⟨rfl, e⟩ | ⟨hne, e⟩
    · subst e; cases h2
    · exact ⟨mem_flat e h2, fun z => hne (nd_slots r1.nd hA e z h2)⟩
  have r2 := (r1.drop j).more (C := fun b => b ∈ C0) (fun b q => r1.there (mem_flat hA (hC0 b q))) fun b q z => (other q).2 (hC0 b z)
  have fromA : ∀ b ∈ A, b ∈ As.flatten ∨ H b = none := fun b q => st.ow b (mem_flat hA q)
  have st2 : Stp H S As ρ H1 (fun b => S1 b ∨ b ∈ C0) (As1.set j []) (ρ1.set j none) := by
    refine ⟨st.fr, st.dom, fun b q => .inl (st.sub b q), fun b q => ?_, fun b q => st.ow b (other q).1, fun i b q => ?_⟩
    · rcases q with q | q
      · exact st.new b q
      · exact .inr (fromA b (hC0 b q))
    · rcases st.lk i b q with z | z
      · obtain ⟨s', F, h1, h2, h3, h4⟩ := z
        have hne : j ≠ i := fun e => by
          subst e
          rw [es] at h1
          cases h1
          rw [hlk] at h2
          cases h2
        exact .inl ⟨s', F, by rw [List.getElem?_set_ne hne]; exact h1, h2, by rw [List.getElem?_set_ne hne]; exact h3, h4⟩
      · exact .inr (.inl z)
  have hj : j < ρ1.length := (List.getElem?_eq_some_iff.mp es).1
  obtain ⟨r3, s3⟩ := put_ok (i := j) r2 st2 oR ndB0 (fun b q => ⟨fromA b (hB0 b q), (fun z => z.elim (r1.dis b (mem_flat hA (hB0 b q))) fun z => dBC b q b z rfl), fun i F h1 hne h2 => by
    rcases set_at h1 with ⟨rfl, e⟩ | ⟨_, e⟩
    · exact hne rfl
    · exact hne (nd_slots r1.nd e hA h2 (hB0 b q))⟩) (by unfold lockedAt; rw [List.getElem?_set_self hj]) (fun w hw e => by
    have h0 := r1.slf w hw
    rw [← e, hv] at h0
    cases h0
    rfl)
  rw [set_same hv, List.set_set, List.set_set] at r3
  rw [List.set_set, List.set_set] at s3
  exact ⟨_, _, r3, s3⟩
theorem s_chi {i j : Nat} {x y : Str} {e : Expr} {p2 p3 p4 : Pos} (hK : g.K = X.K) (hN : X.N.Nodup) (hi : X.N[i]? = some x) (hx : Loc X.env.scope x) (hf : X.fn x = true ∨ X.env.scope.names.lookup x = some .local) (hz : Fre g i)
    (hNj : X.N[j]? = some y) (hv : Vis X.env.scope y) (hd : (y == ("__debug__" : Str)) = false) (hcd : (y == ("__classdict__" : Str)) = false) (hs : noSlice e = true) (he : PE X e (RdE g xg Γ W xb)) :
    PS X (.Assign [.Name x p2] (.Subscript (.Name y p3) e p4) pos) (RdS g xg Γ W (.chi i j xb)) := by
  refine (ps_set hN hi hx (p_ix (ps := []) hK hs (p_var hNj hv hd hcd) he) (noSwap rfl) hf).imp fun D σ H ⟨ρ, S, As, rep, h⟩ => ?_
  unfold exS at h
  split at h
  · rename_i l n lk es
    split at h
    · rename_i k m ee
      split at h
      · rename_i d ed
        split at h
        · exact h.elim
        · rename_i hh
          simp only [Bool.or_eq_true, decide_eq_true_eq, not_or, Bool.not_eq_true] at hh
          obtain ⟨hlk, hij⟩ := hh
          obtain ⟨v0, A, hv0, hA, o⟩ := rep.at_ j _ es
          have o' := o
          unfold Own at o'
          obtain ⟨a, xs, B, rfl, ha, _, ol⟩ := o'
          obtain ⟨mm, hm1, hm2⟩ : ∃ mm, ixN l.length k = some mm ∧ l[mm]? = some d := by
            unfold atI at ed
            cases e : ixN l.length k with
            | none => rw [e] at ed; cases ed
            | some mm => rw [e] at ed; exact ⟨mm, rfl, ed⟩
          obtain ⟨w, B1, hw, _, _⟩ := ol.get hm2
          have len := ol.length
          have ex : atI xs k = some w := by
            unfold atI
            rw [len, hm1]
            exact hw
          refine ⟨_, _, [.ix k], .ref a, w, rep.viewA, by show evPs Γ (viewA ρ) [.ix xb] = _; unfold evPs; rw [ee]; rfl, hv0, .ixl (.inl ha) ex .nil, fun H' S' f => ?_⟩
          obtain ⟨r1, s1⟩ := rep.pure f
          obtain ⟨S2, As2, r2, s2⟩ := slot_weak (m := 1) r1 s1 es (by simpa using hlk) (Nat.succ_le_succ (Nat.zero_le _))
          have hj : j < ρ.length := (List.getElem?_eq_some_iff.mp es).1
          obtain ⟨v2, A2, hv2, hA2, o2⟩ := r2.at_ j _ (List.getElem?_set_self hj)
          have o2' : Own g H' S2 (0 + 1) (.lst l) v2 A2 := o2
          unfold Own at o2'
          obtain ⟨a2, xs2, B2, rfl, ha2, _, ol2⟩ := o2'
          rw [hv0] at hv2
          cases hv2
          have hax := f.ext _ _ ha
          rw [hax] at ha2
          cases ha2
          obtain ⟨w2, B3, hw2, ow, _⟩ := ol2.get hm2
          rw [hw] at hw2
          cases hw2
          have := ow.zero
          subst this
          unfold putS at h
          split at h
          · exact h.elim
          · rename_i hl
            obtain ⟨r3, s3⟩ := put_ok (i := i) r2 s2 ow List.nodup_nil (fun a q => nomatch q) (Bool.eq_false_iff.mpr hl) (fun w hw e => absurd e (hz w hw))
            exact h _ _ _ _ r3 s3
      · exact h.elim
    · exact h.elim
  · exact h.elim
end
end PL

namespace PL
open PySem L2 PyProof.Rows
section
variable {g : G} {xg : XG} {Γ : Fe} {X : Cx} {W : WX} {H H1 : Hp} {S S1 : Rg} {As As1 : List Fp} {ρ ρ1 : En} {σ : L2.St} {D : Ends} {a b c : Expr} {xa xb xc : Ex} {pos : Pos}
/-- no node of it is an instance -/
def NoIns (H : Hp) (a : Addr) : Prop := ∀ C dx fs, H a ≠ some (.ins C dx fs)
mutual
theorem own_nobj : ∀ {d : PL.D} {v : V}, nObj d = true → Own g H S 0 d v [] → Own g H (fun a => S a ∧ NoIns H a) 0 d v []
  | .non, v, _, o => by unfold Own at o ⊢; exact o
  | .bl _, v, _, o => by unfold Own at o ⊢; exact o
  | .int _, v, _, o => by unfold Own at o ⊢; exact o
  | .str _, v, _, o => by unfold Own at o ⊢; exact o
  | .lst l, v, h, o => by
    unfold nObj at h
    unfold Own at o ⊢
    obtain ⟨a, xs, e, s, t, ol⟩ := o
    exact ⟨a, xs, e, ⟨s, fun C dx fs q => by rcases t with t | ⟨_, t⟩ <;> (rw [q] at t; cases t)⟩, t, own_nobjL h ol⟩
  | .tup l, v, h, o => by
    unfold nObj at h
    unfold Own at o ⊢
    obtain ⟨a, xs, e, t, tr, ol⟩ := o
    exact ⟨a, xs, e, t, tr, own_nobjL h ol⟩
  | .obj _ _ _, v, h, _ => by unfold nObj at h; cases h
  | .dct _ _, v, h, _ => by unfold nObj at h; cases h
  | .exc _ _, v, h, _ => by unfold nObj at h; cases h
theorem own_nobjL : ∀ {l : List PL.D} {vs : List V}, nObjL l = true → OwnL g H S 0 l vs [] → OwnL g H (fun a => S a ∧ NoIns H a) 0 l vs []
  | [], vs, _, o => by unfold OwnL at o ⊢; exact o
  | d :: l, vs, h, o => by
    unfold nObjL at h
    rw [Bool.and_eq_true] at h
    unfold OwnL at o
    obtain ⟨x, ys, B, C, rfl, e, h1, h2⟩ := o
    have e1 := h1.zero
    have e2 := h2.zero
    subst e1
    subst e2
    exact OwnL.cons (A := []) (B := []) (own_nobj h.1 h1) (own_nobjL h.2 h2)
end
theorem s_setg {j f : Nat} {x nm : Str} {e : Expr} {tpos p2 : Pos} (hf : g.AN f = nm) (inj : ∀ i j, g.AN i = g.AN j → i = j) (C : ∀ c, Γ.fo c f = true → Cls X.K (g.CA c) ∧ NoAttr X.K (g.CA c) nm) (hN : X.N[j]? = some x) (hv : Vis X.env.scope x) (hd : (x == ("__debug__" : Str)) = false) (hcd : (x == ("__classdict__" : Str)) = false)
    (he : PE X e (RdE g xg Γ W xa)) : PS X (.Assign [.Attribute (.Name x p2) nm tpos] e pos) (RdS g xg Γ W (.setg j f xa)) := by
  subst hf
  refine (ps_fld (pe_var hN hv hd hcd) he (by cases e <;> rfl)).imp fun D σ H ⟨ρ, S, As, rep, h⟩ => ?_
  unfold exS at h
  split at h
  · rename_i c ks vs n lk es
    refine ⟨_, _, rep.viewF [j], ?_⟩
    cases ee : evE Γ xa (viewF [j] 0 ρ) with
    | exn x => rw [ee] at h; exact exn_fr h
    | bad => rw [ee] at h; exact h.elim
    | ok d nd =>
      rw [ee] at h
      dsimp only at h
      intro v H' S' T o
      split at h
      · rename_i hh
        simp only [Bool.and_eq_true, Bool.not_eq_true', decide_eq_true_eq] at hh
        obtain ⟨⟨⟨hlk, hno⟩, hfo⟩, hks⟩ := hh
        obtain ⟨S3, f3, o3⟩ := o.frz (rep.viewF [j]).sz
        have keep : ∀ a, (H a).isSome = true → H' a = H a := fun a q => by
          cases e2 : H a with
          | none => rw [e2] at q; cases q
          | some u => exact f3.ext a u e2
        have f2 : Fw H H' (fun a => S a ∨ a ∈ As.flatten) (fun a => S3 a ∨ a ∈ As.flatten) := by
          refine ⟨f3.ext, fun a q => q.elim (fun q => .inl (f3.sub a (.inl q))) .inr, fun a q => ?_, fun a q => ?_⟩
          · rcases q with q | q
            · rcases f3.new a q with (z | ⟨i, A, _, z1, z2⟩) | z
              · exact .inl (.inl z)
              · exact .inl (.inr (mem_flat z1 z2))
              · exact .inr z
            · exact .inl (.inr q)
          · rcases q with q | q
            · exact f3.sz a q
            · rw [keep a (rep.there q)]
              exact rep.there q
        obtain ⟨r1, s1⟩ := rep.pure f2
        obtain ⟨v0, A, hv0, hA, oA⟩ := r1.at_ j _ es
        obtain ⟨B0, C0, k1, sp0⟩ := Own.weak (m := 1) (show 1 ≤ n + 1 by omega) oA
        have ndA := nd_one r1.nd hA
        obtain ⟨ndB0, ndC0, dBC⟩ := List.nodup_append.mp (sp0.2 ndA)
        have hB0 : ∀ b ∈ B0, b ∈ A := fun b q => (sp0.1 b).mpr (.inl q)
        have hC0 : ∀ b ∈ C0, b ∈ A := fun b q => (sp0.1 b).mpr (.inr q)
        obtain ⟨S2, eS2⟩ : ∃ S2 : Rg, S2 = fun b => (S b ∨ (S3 b ∨ b ∈ As.flatten) ∧ H b = none) ∨ (b ∈ C0 ∨ b ∈ ([] : Fp)) := ⟨_, rfl⟩
        have oR := k1 S2 (fun b q => by rw [eS2]; exact .inl q) (fun b q => by rw [eS2]; exact .inr (.inl q))
        have oR' : Own g H' S2 (0 + 1) (.obj c ks vs) v0 B0 := oR
        unfold Own at oR'
        obtain ⟨p, dx, xs, B, rfl, hp, hlen, eB, ol⟩ := oR'
        have eB2 := ol.zero
        subst eB2
        subst eB
        have lx := ol.length
        have pA := hB0 p List.mem_cons_self
        have nR : ¬ S2 p := fun q => by
          rw [eS2] at q
          rcases q with q | q | q
          · exact r1.dis p (mem_flat hA pA) q
          · exact dBC p List.mem_cons_self p q rfl
          · cases q
        have oV : Own g H' S2 0 d v [] := (own_nobj hno o3).keep ⟨(fun a q => nomatch q), fun a q => ⟨?_, rfl⟩, fun _ _ q => q⟩
        · refine ⟨_, hv0, p, _, dx, _, rfl, hp, (C c hfo).1, (C c hfo).2, by rw [List.length_zip, List.length_map]; omega, ?_⟩
          have goal : ∀ (ks2 : List Nat) (vs2 : List PL.D) (xs2 : List V), OwnL g H' S2 0 vs2 xs2 [] → ks2.length = vs2.length → L2.putF (g.AN f) v ((ks.map g.AN).zip xs) = (ks2.map g.AN).zip xs2 →
              RFS g xg H S As ρ (.nx (ρ.set j (some ⟨.obj c ks2 vs2, 1, false⟩))) W D → D.nx σ (upd H' p (.ins (g.CA c) dx (L2.putF (g.AN f) v ((ks.map g.AN).zip xs)))) := fun ks2 vs2 xs2 on hl2 ep h2 => by
            rw [ep]
            refine poke_core (T := []) (T' := []) (C' := []) r1 s1 es hlk hA (fun b q => nomatch q) (fun b q => nomatch q) hv0 (fun x hx hy => dBC x hx x hy rfl) (fun x hx => nomatch hx) hB0 hC0 (fun b q => nomatch q) (fun b q => nomatch q) List.mem_cons_self hp (fun _ q => by cases q) (fun _ _ q => by cases q) (T2 := [p]) (d' := .obj c ks2 vs2) (m := 1) ?_ (by simp) (fun b hb => .inl hb) h2
            rw [← eS2]
            show Own g _ S2 (0 + 1) _ _ _
            unfold Own
            exact ⟨p, dx, xs2, [], rfl, upd_same, hl2, rfl, on.keep (kp_poke hp (fun _ q => by cases q) (fun _ _ q => by cases q) nR (fun q => nomatch q))⟩
          by_cases hin : ks.contains f = true
          · rw [if_pos hin] at h
            obtain ⟨i, i1, i2, i3⟩ := putF_in inj (d := d) (v := v) hin hlen (by rw [lx])
            obtain ⟨y, B1, Bi, B2, f4, e5, f5, f6⟩ := ol.split (List.getElem?_eq_getElem i1)
            rw [i2] at h
            have e6 : B1 = [] ∧ Bi = [] ∧ B2 = [] := by
              have := e5.symm
              simp only [List.append_eq_nil_iff] at this
              exact ⟨this.1.1, this.1.2, this.2⟩
            obtain ⟨rfl, rfl, rfl⟩ := e6
            exact goal ks (vs.set i d) (xs.set i v) (f6 _ _ d v [] kp_refl oV) (by rw [List.length_set]; exact hlen) i3 h
          · rw [if_neg hin] at h
            exact goal (ks ++ [f]) (vs ++ [d]) (xs ++ [v]) (OwnL.append (A := []) (B := []) ol (OwnL.one oV)) (by simp [hlen]) (putF_out inj hin (by omega)) h
        · obtain ⟨q, ni⟩ := q
          rw [eS2]
          rcases f3.new a q with (z | ⟨i, A', hc, z1, z2⟩) | z
          · exact .inl (.inl z)
          · have : i = j := by simpa using hc
            subst this
            rw [hA] at z1
            cases z1
            rcases (sp0.1 a).mp z2 with y | y
            · have : a = p := by simpa using y
              subst this
              exact absurd hp (ni _ _ _)
            · exact .inr (.inl y)
          · exact .inl (.inr ⟨.inl q, z⟩)
      · exact h.elim
  · exact h.elim
end

/-! ### except suites -/
def G.exA (g : G) (x : Option (Addr × Nat × Option Addr)) : G := { g with exa := x }
mutual
theorem Own.exa_ {g : G} {x : Option (Addr × Nat × Option Addr)} (hg : g.exa = none) {H : Hp} {S : Rg} : ∀ {n : Nat} {d : PL.D} {v : V} {A : Fp}, Own g H S n d v A → Own (g.exA x) H S n d v A
  | _, .non, _, _, h => by unfold Own at h ⊢; exact h
  | _, .bl _, _, _, h => by unfold Own at h ⊢; exact h
  | _, .int _, _, _, h => by unfold Own at h ⊢; exact h
  | _, .str _, _, _, h => by unfold Own at h ⊢; exact h
  | _, .tup l, _, _, h => by unfold Own at h ⊢; obtain ⟨a, xs, e, t, tr, hl⟩ := h; exact ⟨a, xs, e, t, tr, OwnL.exa_ hg hl⟩
  | 0, .lst l, _, _, h => by unfold Own at h ⊢; obtain ⟨a, xs, e, z, t, hl⟩ := h; exact ⟨a, xs, e, z, t, OwnL.exa_ hg hl⟩
  | n + 1, .lst l, _, _, h => by unfold Own at h ⊢; obtain ⟨a, xs, B, e, t, e2, hl⟩ := h; exact ⟨a, xs, B, e, t, e2, OwnL.exa_ hg hl⟩
  | 0, .dct ks vs, _, _, h => by unfold Own at h ⊢; obtain ⟨a, xs, e, z, t, e2, hl⟩ := h; exact ⟨a, xs, e, z, t, e2, OwnL.exa_ hg hl⟩
  | n + 1, .dct ks vs, _, _, h => by unfold Own at h ⊢; obtain ⟨a, xs, B, e, t, e2, e3, hl⟩ := h; exact ⟨a, xs, B, e, t, e2, e3, OwnL.exa_ hg hl⟩
  | 0, .obj c ks vs, _, _, h => by unfold Own at h ⊢; obtain ⟨a, dx, xs, e, z, t, e2, hl⟩ := h; exact ⟨a, dx, xs, e, z, t, e2, OwnL.exa_ hg hl⟩
  | n + 1, .obj c ks vs, _, _, h => by unfold Own at h ⊢; obtain ⟨a, dx, xs, B, e, t, e2, e3, hl⟩ := h; exact ⟨a, dx, xs, B, e, t, e2, e3, OwnL.exa_ hg hl⟩
  | _, .exc c vs, _, _, h => by unfold Own at h; obtain ⟨a, dd, xs, _, e, _⟩ := h; rw [hg] at e; cases e
theorem OwnL.exa_ {g : G} {x : Option (Addr × Nat × Option Addr)} (hg : g.exa = none) {H : Hp} {S : Rg} : ∀ {n : Nat} {ds : List PL.D} {xs : List V} {A : Fp}, OwnL g H S n ds xs A → OwnL (g.exA x) H S n ds xs A
  | _, [], _, _, h => by unfold OwnL at h ⊢; exact h
  | _, d :: ds, _, _, h => by unfold OwnL at h ⊢; obtain ⟨x, ys, B, C, e, e2, h1, h2⟩ := h; exact ⟨x, ys, B, C, e, e2, Own.exa_ hg h1, OwnL.exa_ hg h2⟩
end
mutual
theorem Own.noex {g : G} {x : Option (Addr × Nat × Option Addr)} {H : Hp} {S : Rg} : ∀ {n : Nat} {d : PL.D} {v : V} {A : Fp}, nEx d = true → Own (g.exA x) H S n d v A → Own g H S n d v A
  | _, .non, _, _, _, h => by unfold Own at h ⊢; exact h
  | _, .bl _, _, _, _, h => by unfold Own at h ⊢; exact h
  | _, .int _, _, _, _, h => by unfold Own at h ⊢; exact h
  | _, .str _, _, _, _, h => by unfold Own at h ⊢; exact h
  | _, .tup l, _, _, q, h => by unfold nEx at q; unfold Own at h ⊢; obtain ⟨a, xs, e, t, tr, hl⟩ := h; exact ⟨a, xs, e, t, tr, OwnL.noex q hl⟩
  | 0, .lst l, _, _, q, h => by unfold nEx at q; unfold Own at h ⊢; obtain ⟨a, xs, e, z, t, hl⟩ := h; exact ⟨a, xs, e, z, t, OwnL.noex q hl⟩
  | n + 1, .lst l, _, _, q, h => by unfold nEx at q; unfold Own at h ⊢; obtain ⟨a, xs, B, e, t, e2, hl⟩ := h; exact ⟨a, xs, B, e, t, e2, OwnL.noex q hl⟩
  | 0, .dct ks vs, _, _, q, h => by unfold nEx at q; unfold Own at h ⊢; obtain ⟨a, xs, e, z, t, e2, hl⟩ := h; exact ⟨a, xs, e, z, t, e2, OwnL.noex q hl⟩
  | n + 1, .dct ks vs, _, _, q, h => by unfold nEx at q; unfold Own at h ⊢; obtain ⟨a, xs, B, e, t, e2, e3, hl⟩ := h; exact ⟨a, xs, B, e, t, e2, e3, OwnL.noex q hl⟩
  | 0, .obj c ks vs, _, _, q, h => by unfold nEx at q; unfold Own at h ⊢; obtain ⟨a, dx, xs, e, z, t, e2, hl⟩ := h; exact ⟨a, dx, xs, e, z, t, e2, OwnL.noex q hl⟩
  | n + 1, .obj c ks vs, _, _, q, h => by unfold nEx at q; unfold Own at h ⊢; obtain ⟨a, dx, xs, B, e, t, e2, e3, hl⟩ := h; exact ⟨a, dx, xs, B, e, t, e2, e3, OwnL.noex q hl⟩
  | _, .exc c vs, _, _, q, h => by unfold nEx at q; cases q
theorem OwnL.noex {g : G} {x : Option (Addr × Nat × Option Addr)} {H : Hp} {S : Rg} : ∀ {n : Nat} {ds : List PL.D} {xs : List V} {A : Fp}, nExL ds = true → OwnL (g.exA x) H S n ds xs A → OwnL g H S n ds xs A
  | _, [], _, _, _, h => by unfold OwnL at h ⊢; exact h
  | _, d :: ds, _, _, q, h => by unfold nExL at q; simp only [Bool.and_eq_true] at q; unfold OwnL at h ⊢; obtain ⟨x, ys, B, C, e, e2, h1, h2⟩ := h; exact ⟨x, ys, B, C, e, e2, Own.noex q.1 h1, OwnL.noex q.2 h2⟩
end
section
variable {g : G} {xg : XG} {Γ : Fe} {X : Cx} {W W' : WX} {H H1 : Hp} {S S1 : Rg} {As As1 : List Fp} {ρ ρ1 : En} {σ : L2.St} {D : Ends} {a b c : Expr} {xa xb xc : Ex} {pos : Pos} {x : Option (Addr × Nat × Option Addr)}
theorem Rep.exa_ (hg : g.exa = none) (r : Rep g H S As ρ σ) : Rep (g.exA x) H S As ρ σ :=
  ⟨r.sz, r.len, r.lenA, fun i s h => let ⟨v, A, h1, h2, h3⟩ := r.at_ i s h; ⟨v, A, h1, h2, h3.exa_ hg⟩, r.no, r.nd, r.dis, r.slf⟩
theorem Rep.noex (hn : ρ.all nExO = true) (r : Rep (g.exA x) H S As ρ σ) : Rep g H S As ρ σ :=
  ⟨r.sz, r.len, r.lenA, fun i s h => let ⟨v, A, h1, h2, h3⟩ := r.at_ i s h; ⟨v, A, h1, h2, h3.noex (List.all_eq_true.mp hn _ (List.mem_of_getElem? h))⟩, r.no, r.nd, r.dis, r.slf⟩
/-- a node more is given to the region -/
theorem Rep.grow {P : Addr → Prop} (r : Rep g H S As ρ σ) (hs : ∀ q, P q → (H q).isSome = true) (hn : ∀ q, P q → q ∉ As.flatten) : Rep g H (fun a => S a ∨ P a) As ρ σ :=
  ⟨fun a q => q.elim (r.sz a) (hs a), r.len, r.lenA, fun i s h => let ⟨v, A, h1, h2, h3⟩ := r.at_ i s h; ⟨v, A, h1, h2, h3.keep ⟨fun _ _ => rfl, fun a q => ⟨.inl q, rfl⟩, fun _ _ q => q⟩⟩, r.no, r.nd, fun a q z => z.elim (r.dis a q) fun z => hn a z q, r.slf⟩
theorem flat_set_sub : ∀ {As : List Fp} {p : Nat} {a : Addr}, a ∈ (As.set p []).flatten → a ∈ As.flatten := fun {As p a} h => by
  obtain ⟨i, A, h1, h2⟩ := of_flat h
  rcases set_at h1 with ⟨rfl, e⟩ | ⟨_, e⟩
  · subst e; cases h2
  · exact mem_flat e h2
/-- a slot is given up -/
theorem Rep.gone_ {p : Nat} (r : Rep g H S As ρ σ) (hz : Fre g p) : Rep g H S (As.set p []) (ρ.set p none) (σ.set p none) := by
  refine ⟨r.sz, by rw [List.length_set, List.length_set, r.len], by rw [List.length_set, List.length_set, r.lenA], fun j s h => ?_, fun j h => ?_, nd_set r.nd List.nodup_nil (fun a q => nomatch q), fun a q => r.dis a (flat_set_sub q), fun w hw => ?_⟩
  · rcases set_at h with ⟨rfl, e⟩ | ⟨hne, e⟩
    · cases e
    · rw [List.getElem?_set_ne hne, List.getElem?_set_ne hne]
      exact r.at_ j s e
  · rcases set_at h with ⟨rfl, e⟩ | ⟨hne, e⟩
    · have hj : p < ρ.length := by have := (List.getElem?_eq_some_iff.mp h).1; rwa [List.length_set] at this
      exact List.getElem?_set_self (by rw [r.lenA]; exact hj)
    · rw [List.getElem?_set_ne hne]
      exact r.no j e
  · rw [List.getElem?_set_ne (hz w hw)]
    exact r.slf w hw
theorem Stp.drop {p : Nat} (hl : lockedAt p ρ = false) : Stp H S As ρ H S (As.set p []) (ρ.set p none) :=
  ⟨fun _ _ h _ => h, fun _ h => h, fun _ h => h, fun _ h => .inl h, fun a h => .inl (flat_set_sub h), fun i a h => .inl (by
    have hne : p ≠ i := fun e => by subst e; exact not_locked hl h
    obtain ⟨s, A, h1, h2, h3, h4⟩ := h
    exact ⟨s, A, by rw [List.getElem?_set_ne hne]; exact h1, h2, by rw [List.getElem?_set_ne hne]; exact h3, h4⟩)⟩
theorem RFS.exa_ {p : Nat} {o : OS} (h : RFS g xg H S As ρ (outS p o) W D) : RFS (g.exA x) xg H S As ρ (outS p o) W' D := by
  cases o with
  | nx ρ' =>
    unfold outS at h ⊢
    dsimp only at h ⊢
    split at h
    · rename_i z
      rw [if_pos z]
      simp only [Bool.and_eq_true] at z
      exact fun σ' H' S' As' r s => h σ' H' S' As' (r.noex z.1) s
    · exact h.elim
  | rt d n =>
    unfold outS at h ⊢
    dsimp only at h ⊢
    split at h
    · rename_i z
      rw [if_pos z]
      exact fun v H' S' T k1 k2 k3 k4 k5 k6 k7 k8 => h v H' S' T k1 k2 k3 k4 k5 (k6.noex z) k7 k8
    · exact h.elim
  | bk _ => exact h.elim
  | ct _ => exact h.elim
  | exn _ => exact h.elim
  | bad => exact h.elim
theorem out_rf {p : Nat} {o : OS} (hz : Fre g p) (h : RFS g xg H S As ρ (outS p o) W D) : RFS g xg H S As ρ o W' { nx := fun σ' H' => D.nx (σ'.set p none) H', rt := D.rt, bk := fun σ' H' => D.bk (σ'.set p none) H', ct := fun σ' H' => D.ct (σ'.set p none) H' } := by
  cases o with
  | nx ρ' =>
    unfold outS at h
    dsimp only at h
    split at h
    · rename_i z
      simp only [Bool.and_eq_true, Bool.not_eq_true'] at z
      exact fun σ' H' S' As' r s => h _ H' S' _ (r.gone_ hz) (s.trans r (.drop z.2))
    · exact h.elim
  | rt d n =>
    unfold outS at h
    dsimp only at h
    split at h
    · exact h
    · exact h.elim
  | bk _ => exact h.elim
  | ct _ => exact h.elim
  | exn _ => exact h.elim
  | bad => exact h.elim
theorem _root_.L2.PSs.pick {X : Cx} {e : List Stmt} {t' : TS} (k : ∀ D σ H, t' D σ H → ∃ t, PSs X e t ∧ t D σ H) : PSs X e t' := ⟨fun pins s σ H D I q => let ⟨_, h, z⟩ := k D σ H q; h.run pins s σ H D I z⟩
/-- a try's body: an expression, its value dropped -/
def RdX (g : G) (xg : XG) (Γ : Fe) (W : WX) (x : Ex) : TS := fun D σ H => RdE g xg Γ W x σ H fun _ H' => D.nx σ H'
theorem x_ex (he : PE X a (RdE g xg Γ W xa)) (hs : noComp a = true) : PSs X [.Expr a pos] (RdX g xg Γ W xa) := (pss_one (ps_expr he (noSwap hs))).imp fun _ _ _ h => h
theorem x_ife {bs cs : List Stmt} (hc : PT X c (RdT g xg Γ W xc)) (ha : PSs X bs (RdX g xg Γ W xa)) (hb : PSs X cs (RdX g xg Γ W xb)) : PSs X [.If c bs cs pos] (RdX g xg Γ W (.ife xc xa xb)) :=
  (pss_one (ps_if hc ha hb)).imp fun D σ H ⟨S, δ, rep, h⟩ => by
    unfold evE at h
    refine RFT.bindF (xa := xc) rep h fun k H1 S1 rep1 f1 h1 => ?_
    cases k with
    | true => exact iteT ⟨S1, δ, rep1, h1⟩
    | false => exact iteF ⟨S1, δ, rep1, h1⟩
theorem s_try {p c : Nat} {n x : Str} {body suite : List Stmt} {b₀ : Stmt} {np pos' : Pos} {ys : List PL.St} (hst : X.stack = X.env :: X.outer) (hfr : X.env.frame = some X.env.locals) (hN : X.N.Nodup) (hi : X.N[p]? = some n) (hln : X.env.kindOf n = some .local)
    (hcx : Names X x (xg.XV c)) (tk : Takes X W) (hg : g.exa = none) (hz : Fre g p) (sbx : ∀ i b, Γ.sub i c = some b → PySem.W.exmOne X.K (xg.XV i) (xg.XV c) = some b ∧ ∃ C, xg.XV i = .ref C ∧ ExK X.K C)
    (hb : ∀ (W : WX) (pn : List (Addr × Obj)) (xe : Value → Shared → Prop), Takes (X.tr pn xe) W → PassesOwn (model X.prog X.w) X.A X.env xe → PSs (X.tr pn xe) body (RdX g xg Γ W xa))
    (hsu : ∀ (a : Addr) (oe : Obj) (k : Nat) (d : Option Addr) (pn : List (Addr × Obj)), (∃ C, xg.XV k = .ref C ∧ ExK X.K C) → Zc (xg.XV k) d oe → (∃ vs, oe.data = .fields vs) → PSs (X.suite a ((a, oe) :: pn)) (b₀ :: suite) (RdB (g.exA (some (a, k, d))) xg Γ W0 ys)) :
    PS X (.Try body [.ExceptHandler (some (.Name x np)) (some n) (b₀ :: suite) pos'] [] [] pos) (RdS g xg Γ W (.tr p xa c ys)) := by
  refine (ps_try_as (tb := fun W => RdX g xg Γ W xa) (ts := fun a cls d D σ H => ∃ k, cls = xg.XV k ∧ (∃ C, xg.XV k = .ref C ∧ ExK X.K C) ∧ RdB (g.exA (some (a, k, d))) xg Γ W0 ys D σ H) (i := p) (c := xg.XV c) (Wout := W) hst hfr hN hi hln hcx tk hb fun a oe cls d pn hzc hf => ?_).imp fun D σ H ⟨ρ, S, As, rep, h⟩ => ?_
  · refine PSs.pick fun D σ H ⟨k, ek, ec, hk⟩ => ?_
    subst ek
    exact ⟨_, hsu a oe k d pn ec hzc hf, hk⟩
  · refine ⟨_, _, rep.viewA, ?_⟩
    unfold exS at h
    cases e : evE Γ xa (viewA ρ) with
    | bad => rw [e] at h; exact h.elim
    | ok d n =>
      rw [e] at h
      intro v H' S' T o
      obtain ⟨r1, s1⟩ := rep.pure o.fw
      exact h _ _ _ _ r1 s1
    | exn ex =>
      rw [e] at h
      dsimp only at h
      intro cls dd H' ext en
      have ecl : cls = xg.XV ex.c := en.1.1
      split at h
      · rename_i es
        subst ecl
        refine ⟨true, (sbx _ _ es).1, fun _ a ha => ?_, fun z => nomatch z⟩
        split at h
        · exact h.elim
        rename_i hl
        simp only [Bool.or_eq_true, not_or, Bool.not_eq_true, Bool.not_eq_false', decide_eq_true_eq] at hl
        have keep : ∀ q, (H q).isSome = true → (H' q).isSome = true := fun q z => by
          cases eo : H q with
          | none => rw [eo] at z; cases z
          | some o => rw [ext q o eo]; rfl
        have f : Fw H H' (fun a => S a ∨ a ∈ As.flatten) (fun a => S a ∨ a ∈ As.flatten) := ⟨ext, fun _ q => q, fun _ q => .inl q, fun q z => keep q (rep.viewA.sz q z)⟩
        obtain ⟨r1, s1⟩ := rep.pure f
        have hq : ∀ q, dd = some q → (H' q).isSome = true := fun q z => by
          have e1 := en.1.2
          cases ea : ex.a with
          | none => rw [ea] at e1; rw [e1] at z; cases z
          | some d =>
            rw [ea] at e1
            obtain ⟨q', w, e2, e3, _⟩ := e1
            rw [e2] at z
            cases z
            rw [e3]
            rfl
        have r2 := (r1.exa_ (x := some (a, ex.c, dd)) hg).grow (P := fun q => dd = some q) hq fun q z hm => by
          have := rep.there hm
          rw [en.2 q z] at this
          cases this
        have s2 : Stp H S As ρ H' (fun a => (S a ∨ (S a ∨ a ∈ As.flatten) ∧ H a = none) ∨ dd = some a) As ρ := ⟨s1.fr, s1.dom, fun q z => .inl (s1.sub q z), fun q z => z.elim (s1.new q) fun z => .inr (.inr (en.2 q z)), s1.ow, fun i q z => (s1.lk i q z).imp id .inl⟩
        have own : Own (g.exA (some (a, ex.c, dd))) H' (fun a => (S a ∨ (S a ∨ a ∈ As.flatten) ∧ H a = none) ∨ dd = some a) 0 (.exc ex.c ex.a.toList) (.ref a) [] := by
          have e1 := en.1.2
          cases ea : ex.a with
          | none =>
            rw [ea] at e1
            unfold Own
            exact ⟨a, dd, [], rfl, rfl, rfl, ⟨fun q z => (by rw [e1] at z; cases z), fun _ => rfl⟩, by unfold OwnL; exact ⟨rfl, rfl⟩⟩
          | some d =>
            rw [ea] at e1
            obtain ⟨q', w, e2, e3, e4⟩ := e1
            unfold Own
            refine ⟨a, dd, [w], rfl, rfl, rfl, ⟨fun q z => ⟨.inr z, ?_⟩, fun z => (by rw [e2] at z; cases z)⟩, ?_⟩
            · rw [e2] at z
              cases z
              exact e3
            · exact OwnL.cons (A := []) (B := []) (e4 _ _) (by unfold OwnL; exact ⟨rfl, rfl⟩)
        obtain ⟨r3, s3⟩ := put_ok (i := p) r2 s2 own List.nodup_nil (fun _ q => nomatch q) hl.1 (fun w hw e => absurd e (hz w hw))
        exact ⟨ex.c, rfl, (sbx _ _ es).2, _, _, _, r3, out_rf hz (RFS.fw s3 r3 (h.exa_ (W' := W0)))⟩
      · rename_i es
        subst ecl
        exact ⟨false, (sbx _ _ es).1, (fun z => nomatch z), fun _ => h _ _ _ _ (fun a o e _ => ext a o e) en⟩
      · exact h.elim
theorem s_tra {pre : PL.St} {p c : Nat} {n x : Str} {a1 : Stmt} {body suite : List Stmt} {b₀ : Stmt} {np pos' : Pos} {ys : List PL.St} (hst : X.stack = X.env :: X.outer) (hfr : X.env.frame = some X.env.locals) (hN : X.N.Nodup) (hi : X.N[p]? = some n) (hln : X.env.kindOf n = some .local)
    (hcx : Names X x (xg.XV c)) (tk : Takes X W) (hg : g.exa = none) (hz : Fre g p) (sbx : ∀ i b, Γ.sub i c = some b → PySem.W.exmOne X.K (xg.XV i) (xg.XV c) = some b ∧ ∃ C, xg.XV i = .ref C ∧ ExK X.K C)
    (hb : ∀ (W : WX) (pn : List (Addr × Obj)) (xe : Value → Shared → Prop), Takes (X.tr pn xe) W → PassesOwn (model X.prog X.w) X.A X.env xe → PSs (X.tr pn xe) body (RdX g xg Γ W xa))
    (hpre : ∀ (W : WX) (pn : List (Addr × Obj)) (xe : Value → Shared → Prop), Takes (X.tr pn xe) W → PassesOwn (model X.prog X.w) X.A X.env xe → PS (X.tr pn xe) a1 (RdS g xg Γ W pre))
    (hsu : ∀ (a : Addr) (oe : Obj) (k : Nat) (d : Option Addr) (pn : List (Addr × Obj)), (∃ C, xg.XV k = .ref C ∧ ExK X.K C) → Zc (xg.XV k) d oe → (∃ vs, oe.data = .fields vs) → PSs (X.suite a ((a, oe) :: pn)) (b₀ :: suite) (RdB (g.exA (some (a, k, d))) xg Γ W0 ys)) :
    PS X (.Try (a1 :: body) [.ExceptHandler (some (.Name x np)) (some n) (b₀ :: suite) pos'] [] [] pos) (RdS g xg Γ W (.tra pre p xa c ys)) := by
  refine (ps_try_as (tb := fun W => tSeq (RdS g xg Γ W pre) (RdX g xg Γ W xa)) (ts := fun a cls d D σ H => ∃ k, cls = xg.XV k ∧ (∃ C, xg.XV k = .ref C ∧ ExK X.K C) ∧ RdB (g.exA (some (a, k, d))) xg Γ W0 ys D σ H) (i := p) (c := xg.XV c) (Wout := W) hst hfr hN hi hln hcx tk (fun W pn xe t1 t2 => pss_cons (hpre W pn xe t1 t2) (hb W pn xe t1 t2)) fun a oe cls d pn hzc hf => ?_).imp fun D σ0 H0 ⟨ρ0, S0, As0, rep0, h⟩ => ?_
  · refine PSs.pick fun D σ H ⟨k, ek, ec, hk⟩ => ?_
    subst ek
    exact ⟨_, hsu a oe k d pn ec hzc hf, hk⟩
  · refine ⟨ρ0, S0, As0, rep0, ?_⟩
    unfold exS at h
    cases ep : exS Γ pre ρ0 with
    | rt d n => rw [ep] at h; exact h.elim
    | bk ρ' => rw [ep] at h; exact h.elim
    | ct ρ' => rw [ep] at h; exact h.elim
    | exn x => rw [ep] at h; exact h.elim
    | bad => rw [ep] at h; exact h.elim
    | nx ρ =>
    rw [ep] at h
    intro σ H S As rep st'
    replace h := RFS.fw st' rep h
    refine ⟨_, _, rep.viewA, ?_⟩
    dsimp only at h
    cases e : evE Γ xa (viewA ρ) with
    | bad => rw [e] at h; exact h.elim
    | ok d n =>
      rw [e] at h
      intro v H' S' T o
      obtain ⟨r1, s1⟩ := rep.pure o.fw
      exact h _ _ _ _ r1 s1
    | exn ex =>
      rw [e] at h
      dsimp only at h
      intro cls dd H' ext en
      have ecl : cls = xg.XV ex.c := en.1.1
      split at h
      · rename_i es
        subst ecl
        refine ⟨true, (sbx _ _ es).1, fun _ a ha => ?_, fun z => nomatch z⟩
        split at h
        · exact h.elim
        rename_i hl
        simp only [Bool.or_eq_true, not_or, Bool.not_eq_true, Bool.not_eq_false', decide_eq_true_eq] at hl
        have keep : ∀ q, (H q).isSome = true → (H' q).isSome = true := fun q z => by
          cases eo : H q with
          | none => rw [eo] at z; cases z
          | some o => rw [ext q o eo]; rfl
        have f : Fw H H' (fun a => S a ∨ a ∈ As.flatten) (fun a => S a ∨ a ∈ As.flatten) := ⟨ext, fun _ q => q, fun _ q => .inl q, fun q z => keep q (rep.viewA.sz q z)⟩
        obtain ⟨r1, s1⟩ := rep.pure f
        have hq : ∀ q, dd = some q → (H' q).isSome = true := fun q z => by
          have e1 := en.1.2
          cases ea : ex.a with
          | none => rw [ea] at e1; rw [e1] at z; cases z
          | some d =>
            rw [ea] at e1
            obtain ⟨q', w, e2, e3, _⟩ := e1
            rw [e2] at z
            cases z
            rw [e3]
            rfl
        have r2 := (r1.exa_ (x := some (a, ex.c, dd)) hg).grow (P := fun q => dd = some q) hq fun q z hm => by
          have := rep.there hm
          rw [en.2 q z] at this
          cases this
        have s2 : Stp H S As ρ H' (fun a => (S a ∨ (S a ∨ a ∈ As.flatten) ∧ H a = none) ∨ dd = some a) As ρ := ⟨s1.fr, s1.dom, fun q z => .inl (s1.sub q z), fun q z => z.elim (s1.new q) fun z => .inr (.inr (en.2 q z)), s1.ow, fun i q z => (s1.lk i q z).imp id .inl⟩
        have own : Own (g.exA (some (a, ex.c, dd))) H' (fun a => (S a ∨ (S a ∨ a ∈ As.flatten) ∧ H a = none) ∨ dd = some a) 0 (.exc ex.c ex.a.toList) (.ref a) [] := by
          have e1 := en.1.2
          cases ea : ex.a with
          | none =>
            rw [ea] at e1
            unfold Own
            exact ⟨a, dd, [], rfl, rfl, rfl, ⟨fun q z => (by rw [e1] at z; cases z), fun _ => rfl⟩, by unfold OwnL; exact ⟨rfl, rfl⟩⟩
          | some d =>
            rw [ea] at e1
            obtain ⟨q', w, e2, e3, e4⟩ := e1
            unfold Own
            refine ⟨a, dd, [w], rfl, rfl, rfl, ⟨fun q z => ⟨.inr z, ?_⟩, fun z => (by rw [e2] at z; cases z)⟩, ?_⟩
            · rw [e2] at z
              cases z
              exact e3
            · exact OwnL.cons (A := []) (B := []) (e4 _ _) (by unfold OwnL; exact ⟨rfl, rfl⟩)
        obtain ⟨r3, s3⟩ := put_ok (i := p) r2 s2 own List.nodup_nil (fun _ q => nomatch q) hl.1 (fun w hw e => absurd e (hz w hw))
        exact ⟨ex.c, rfl, (sbx _ _ es).2, _, _, _, r3, out_rf hz (RFS.fw s3 r3 (h.exa_ (W' := W0)))⟩
      · rename_i es
        subst ecl
        exact ⟨false, (sbx _ _ es).1, (fun z => nomatch z), fun _ => h _ _ _ _ (fun a o e _ => ext a o e) en⟩
      · exact h.elim
/-- a class that is raised with a text -/
structure RzK (K : PySem.W.Frag) (C : Addr) : Prop where
  is : PySem.W.excIn K C [.type "ValueError", .type "Exception", .type "BaseException", .type "object"] "ValueError.__new__" = true
  kp : PySem.W.keepIn K (.ref C) = true
  sb : PySem.W.subIn K (.ref C) (.type "BaseException") = some true
  ty : PySem.W.typeIn K (.ref C) = some (.type "type")
theorem s_raise {c : Nat} {C : Addr} {x m : Str} {j : Nat} {p p2 pos2 : Pos} (hc : X.calm = true) (tk : Takes X W) (hg : Gl X x) (hdb : (x == ("__debug__" : Str)) = false) (hm : X.mg x = some (xg.XV c)) (rz : Γ.rz c = true → ∃ C, xg.XV c = .ref C ∧ RzK X.K C) :
    PS X (.Raise (some (.Call (.Name x p) [.Constant (.str m) j p2] [] pos)) none pos2) (RdS g xg Γ W (.raise c none)) := by
  refine PS.pick fun D σ H ⟨ρ, S, As, rep, h⟩ => ?_
  unfold exS at h
  dsimp only at h
  split at h
  · rename_i z
    obtain ⟨C, eC, k⟩ := rz z
    rw [eC] at hm
    exact ⟨_, ps_raise hc tk (pmk_own PySem.F.excBase_ValueError k.is hm k.kp (raises_own k.sb k.ty) hg hdb), h _ _ _ _ (fun _ _ e _ => e) ⟨⟨eC.symm, rfl⟩, fun _ z => nomatch z⟩⟩
  · exact h.elim
end
/-! ### a class whose own maker takes a number -/
theorem pe_oinit {X : Cx} {x : Str} {D : Addr} {e : Expr} {es : List Expr} {ta : TA} {p1 pos apos : Pos} (hg : Gl X x) (hdb : (x == ("__debug__" : Str)) = false) (hm : X.mg x = some (.ref D)) (sp : PySem.W.specialIn X.K (.ref D) "__getattribute__" = some (some (.builtin "type.__getattribute__")))
    (rd : PySem.W.readsIn X.K D (.type "type") = true) (fc : PySem.W.findCls X.K (.ref D) (.type "type") "__init__" = some (.val (.builtin "ValueError.__init__"))) (ns : noSuper (.Name x p1) = true) (hs : (e :: es).all noStar = true) (h3 : (e :: es).length < 30) (h4 : (apos.endLine == pos.line) = true) (ha : PA X (e :: es) ta) :
    PE X (.Call (.Attribute (.Name x p1) "__init__" apos) (e :: es) [] pos) (tVeI X.K ta) := by
  refine ⟨fun pins s σ H Q I h => ?_⟩
  have hs' := hs
  simp only [List.all_cons, Bool.and_eq_true] at hs'
  refine PySem.W.methodCall_KW (ld_glob I hg hm ?_ hdb) (eval_meth (o := .Name x p1) ns hs h3 h4)
  refine PySem.W.method_cls I.kIn sp (PySem.W.cls_value I.kIn rd fc (by decide +kernel) ?_)
  show wpAny _ _ (callWith pos (Value.builtin "ValueError.__init__") [] (backTo pos (starEach (e :: es) X.env)) []) _ _ _
  refine PyProof.Rows.callWith_method1 (thn (ha.run pos pins _ σ H _ (I.tok _) h) fun us s1 ⟨vs, H1, I1, r1, a, C, ws, ev, hl, T, ea, q⟩ => ?_) (star_cons hs'.1) (plain_any hs'.2)
  subst ev
  cases r1 with
  | @cons _ u0 _ ur ra rw' =>
    obtain rfl : u0 = Value.ref a := ra
    have hlen : ur.length ≤ sizeLine := by
      rw [← Paired.length rw', sizeLine_eq]
      omega
    exact oinit_ok T I1 ea hlen fun s' J => ⟨.non, H1, J, rfl, q⟩
/-- its text -/
def iniB (x m : Str) (j : Nat) (p1 p2 p3 p4 p5 p6 q1 q2 q3 q4 : Pos) : List Stmt := [.Expr (.Call (.Attribute (.Name x p1) "__init__" p2) [.Name "self" p3, .Constant (.str m) j p4] [] p5) p6, .Assign [.Attribute (.Name "self" q1) "at" q2] (.Name "at" q3) q4]
/-- its promise -/
def spIni (K : PySem.W.Frag) : Sp := fun vs H Q _ => ∃ (a C : Addr) (y : V), vs = [.ref a, y] ∧ OexC K C ∧ PySem.W.findIn K (.ref C) "at" = some none ∧ H a = some (exo a C none) ∧ ∀ dx, H dx = none → dx ≠ a → Q .non (upd (upd H dx (exd dx [("at", y)])) a (exo a C (some dx)))
structure IniT (K : PySem.W.Frag) (mg : Str → Option Value) (C D fI : Addr) (x qual : Str) (st : Stmt) (fd : FuncData) : Prop where
  gD : mg x = some (.ref D)
  db : (x == ("__debug__" : Str)) = false
  ns : ∀ p, noSuper (.Name x p) = true
  sp : PySem.W.specialIn K (.ref D) "__getattribute__" = some (some (.builtin "type.__getattribute__"))
  rd : PySem.W.readsIn K D (.type "type") = true
  fc : PySem.W.findCls K (.ref D) (.type "type") "__init__" = some (.val (.builtin "ValueError.__init__"))
  iC : PySem.W.findIn K (.ref C) "__init__" = some (some (.ref fI))
  tI : PySem.W.typeIn K (.ref fI) = some (.type "function")
  F : Fun K "__init__" qual st fI fd
  S : FnScope ["self", "at"] ["self", "at"] (defScope st)
  gl : (defScope st).names.lookup x = some .globalImplicit
  bd : ∃ (m : Str) (j : Nat) (p1 p2 p3 p4 p5 p6 q1 q2 q3 q4 : Pos), defBody st = iniB x m j p1 p2 p3 p4 p5 p6 q1 q2 q3 q4 ∧ (p2.endLine == p5.line) = true
  B : Binds K fd ["self", "at"] []
  v0 : Vis (defScope st) "self"
  v1 : Vis (defScope st) "at"
theorem ini_ok {P : Program} {w : World} {K : PySem.W.Frag} {mg : Str → Option Value} {base : Heap} {C D fI : Addr} {x qual : Str} {st : Stmt} {fd : FuncData} (T : IniT K mg C D fI x qual st fd) : FnOk P w K mg base CX0 2 fI fd ["self", "at"] (spIni K) := by
  obtain ⟨m, j, p1, p2, p3, p4, p5, p6, q1, q2, q3, q4, eb, hl⟩ := T.bd
  refine T.F.ok T.S (fun vs H Q E ⟨a, C, y, e, _⟩ => by rw [e]; rfl) fun cdv A outer s H vs Q E hr ⟨a, C', y, e, ox, no, ea, k⟩ => ?_
  subst e
  rw [eb]
  refine ⟨_, pss_cons (ps_expr (pe_oinit T.gl T.db T.gD T.sp T.rd T.fc (T.ns _) rfl (show 2 < 30 by decide) hl (pa_cons (pe_var (i := 0) rfl T.v0) (pa_cons pe_str pa_nil)))) (pss_one (ps_ost (pe_var (i := 0) rfl T.v0) (pe_var (i := 1) rfl T.v1))), ?_⟩
  refine ⟨.ref a, rfl, a, C', [.str m], rfl, (by decide : 1 ≤ 1000), ox, ea, ?_⟩
  exact ⟨y, rfl, .ref a, rfl, a, C', rfl, ox, no, .inl ⟨ea, k⟩⟩
/-- a class that is raised with a number -/
structure RaK (K : PySem.W.Frag) (mg : Str → Option Value) (C : Addr) : Prop where
  ox : OexC K C
  no : PySem.W.findIn K (.ref C) "at" = some none
  ini : ∃ (D fI : Addr) (x qual : Str) (st : Stmt) (fd : FuncData), IniT K mg C D fI x qual st fd
theorem flat_ownA {g g' : G} {H H' : Hp} {S S' : Rg} {n : Nat} {d : PL.D} {v : V} {T : Fp} (h : flatD d = true) (o : Own g H S n d v T) : Own g' H' S' 0 d v [] := by
  cases d <;> first
    | (cases h; done)
    | (unfold Own at o ⊢; first | exact ⟨o.1, rfl⟩ | exact ⟨o, rfl⟩ | exact o.1 | exact o)
section
variable {g : G} {xg : XG} {Γ : Fe} {X : Cx} {W : WX}
theorem s_raiseA {c : Nat} {x : Str} {e : Expr} {xe : Ex} {p pos pos2 : Pos} (hc : X.calm = true) (tk : Takes X W) (hg : Gl X x) (hdb : (x == ("__debug__" : Str)) = false) (hm : X.mg x = some (xg.XV c)) (hns : noStar e = true) (he : PE X e (RdE g xg Γ W xe))
    (ra : Γ.ra c = true → (∃ C, xg.XV c = .ref C ∧ RaK X.K X.mg C) ∧ Room 3 X.A) :
    PS X (.Raise (some (.Call (.Name x p) [e] [] pos)) none pos2) (RdS g xg Γ W (.raise c (some xe))) := by
  refine PS.pick fun D σ H ⟨ρ, S, As, rep, h⟩ => ?_
  unfold exS at h
  dsimp only at h
  split at h
  · rename_i z
    obtain ⟨⟨C, eC, k⟩, hr⟩ := ra z
    rw [eC] at hm
    obtain ⟨E0, fI, xn, qual, st, fd, T⟩ := k.ini
    have hall : ([e] : List Expr).all noStar = true := by simp [hns]
    have hpa : PA X [e] (tCons (RdE g xg Γ W xe) tNil) := pa_cons he pa_nil (star_cons hns)
    refine ⟨_, ps_raise hc tk (pmk_oex (dvs := []) k.ox T.iC T.tI (ini_ok T) hr T.B .nil (fun _ _ _ _ _ _ _ h => h.elim) hg hm hpa hdb (star_cons hns) (plain_any (by rfl))), ?_⟩
    refine ⟨_, _, rep.viewA, ?_⟩
    cases ev : evE Γ xe (viewA ρ) with
    | bad => rw [ev] at h; exact h.elim
    | exn ex =>
      rw [ev] at h
      intro cls dd H' ext en
      exact h cls dd σ H' (fun a o e _ => ext a o e) en
    | ok d n =>
      rw [ev] at h
      dsimp only at h
      split at h
      · rename_i fl
        intro v H1 S1 T1 o
        refine ⟨(show 1 ≤ 1000 by decide), fun a ha => ⟨a, C, v, rfl, k.ox, k.no, upd_same, fun dx h1 h2 => ⟨rfl, dx, [("at", v)], upd_same, ?_, ?_, ?_⟩⟩⟩
        · rw [upd_ne h2, upd_same]
        · rw [upd_ne h2] at h1
          exact h1
        · rw [upd_ne h2] at h1
          refine h _ _ _ _ (fun b y e _ => ?_) ⟨⟨eC.symm, dx, v, rfl, upd_same, fun g' S' => flat_ownA fl o.own⟩, fun q z => ?_⟩
          · have e1 := o.ext b y e
            have hb : b ≠ a := fun q => by rw [q, ha] at e1; cases e1
            have hd : b ≠ dx := fun q => by rw [q, h1] at e1; cases e1
            rw [upd_ne hd, del_ne hb, upd_ne hb, upd_ne hd, upd_ne hb]
            exact e1
          · cases z
            exact o.ext.back h1
      · exact h.elim
  · exact h.elim
end
end PL
/-! PL13: that a text means an expression of the small language: a test that runs, and that it is right. -/
namespace PL
open PySem L2 PyProof.Rows

/-- what a global name is: a def, a class (its maker), a constant, none of the module's -/
inductive GK | fn (i : Nat) | cls (c : Nat) | con (k : Nat) | non | exc (c : Nat) | dead
  deriving DecidableEq
structure Tab where
  N : List Str
  gn : List (Str × GK)
  at_ : List (Str × Nat)
  me : List (Str × Nat)
  /-- in a maker -/
  ini : Bool := false
  /-- in an except suite -/
  sui : Bool := false
def GK.quiet : GK → GK
  | .fn _ => .dead
  | .cls _ => .dead
  | k => k
/-- .. there no calls -/
def Tab.suiT (T : Tab) : Tab := { T with gn := T.gn.map fun p => (p.1, p.2.quiet), me := [], sui := true }
theorem look_map {α : Type} {f : α → α} {x : Str} : ∀ {l : List (Str × α)} {k : α}, (l.map fun p => (p.1, f p.2)).lookup x = some k → ∃ k0, l.lookup x = some k0 ∧ k = f k0
  | [], _, h => by cases h
  | (y, c) :: l, k, h => by
    rw [List.map_cons, List.lookup_cons] at h
    rw [List.lookup_cons]
    dsimp only at h
    split at h
    · rename_i e
      cases h
      exact ⟨c, rfl, rfl⟩
    · rename_i e
      exact look_map h
def nmOk (x : Str) : Bool := !(x == ("__debug__" : Str)) && !(x == ("__classdict__" : Str)) && !decide (x = "__name__")
def visB (s : Scope) (x : Str) : Bool := match s.names.lookup x with
  | some .local => true | some .cell => true | some .free => true | _ => false
def locB (s : Scope) (x : Str) : Bool := match s.names.lookup x with
  | some .local => true | some .cell => true | _ => false
def glB (s : Scope) (x : Str) : Bool := match s.names.lookup x with
  | some .globalImplicit => true | _ => false
def opB : Operator → Bop → Bool
  | .Add, .add => true | .Sub, .sub => true | .Mult, .mul => true | .FloorDiv, .fdiv => true | .Mod, .mod => true | .Pow, .pow => true | _, _ => false
def opC : CmpOp → Cop → Bool
  | .Eq, .eq => true | .NotEq, .ne => true | .Lt, .lt => true | .LtE, .le => true | .Gt, .gt => true | .GtE, .ge => true | .Is, .isN => true | .IsNot, .notN => true | .In, .isin => true | .NotIn, .notin => true | _, _ => false
theorem opB_eq {q : Operator} {o : Bop} (h : opB q o = true) : q = o.op := by cases q <;> cases o <;> first | rfl | cases h
theorem opC_eq {q : CmpOp} {o : Cop} (h : opC q o = true) : q = o.op := by cases q <;> cases o <;> first | rfl | cases h
def notIf : Expr → Bool
  | .IfExp _ _ _ _ => false
  | _ => true
def Bi.nm : Bi → Str
  | .len => "len" | .abs => "abs" | .sum => "sum" | .max1 => "max" | .min1 => "min" | .max2 => "max" | .min2 => "min" | .list => "list" | .tuple => "tuple" | .str => "str" | .int => "int" | .all => "all" | .any => "any" | .sorted => "sorted" | .repr => "repr"
def Ty.nm : Ty → Str
  | .int => "int" | .bool => "bool" | .tuple => "tuple" | .list => "list" | .str => "str" | .dict => "dict" | .float => "float"
theorem Bi.boot (b : Bi) : bootBuiltins b.nm = some b.val := by cases b <;> decide +kernel
theorem Ty.boot (t : Ty) : bootBuiltins t.nm = some (.type t.name) := by cases t <;> decide +kernel
theorem boot_VE : bootBuiltins "ValueError" = some (.type "ValueError") := by decide +kernel
theorem isi_boot : bootBuiltins "isinstance" = some (.builtin "isinstance") := by decide +kernel

def ckVar (T : Tab) (s : Scope) (x : Str) (i : Nat) : Bool := decide (T.N[i]? = some x) && visB s x && nmOk x
/-- x is none of the module's, not bound here -/
def ckBlt (T : Tab) (s : Scope) (x y : Str) : Bool := decide (x = y) && glB s x && nmOk x && decide (T.gn.lookup x = some .non)
def ckGl (T : Tab) (s : Scope) (x : Str) (k : GK) : Bool := glB s x && nmOk x && decide (T.gn.lookup x = some k)
def ckList (f : Expr → Ex → Bool) : List Expr → List Ex → Bool
  | [], [] => true
  | e :: es, x :: xs => noStar e && f e x && ckList f es xs
  | _, _ => false
/-- a class of exceptions -/
def ckX (T : Tab) (s : Scope) (y : Str) (c : Nat) : Bool := ckGl T s y (.exc c) || (decide (c = 0) && ckBlt T s y "ValueError")
def ckXs (T : Tab) (s : Scope) : List Expr → List Nat → Bool
  | [], [] => true
  | .Name y _ :: es, c :: cs => ckX T s y c && ckXs T s es cs
  | _, _ => false
def ckOpt (f : Expr → Ex → Bool) : Option Expr → Ex → Bool
  | none, x => (match x with | .omit => true | _ => false)
  | some e, x => !x.isOmit && f e x
def ckNames (T : Tab) (o : Scope) : List Expr → List Nat → Bool
  | [], [] => true
  | e :: es, i :: is => (match e with | .Name x _ => decide (T.N[i]? = some x) && locB o x | _ => false) && ckNames T o es is
  | _, _ => false
def ckTg (T : Tab) (o : Scope) : Expr → List Nat → Bool
  | .Name x _, [i] => decide (T.N[i]? = some x) && locB o x
  | .Tuple es _ _, is => decide (2 ≤ is.length) && ckNames T o es is
  | _, _ => false
def ownZ : List Expr → List Nat → List (Str × Nat)
  | .Name x _ :: es, i :: is => (x, i) :: ownZ es is
  | _, _ => []
def ownOf : Expr → List Nat → List (Str × Nat)
  | .Name x p, is => ownZ [.Name x p] is
  | .Tuple es _ _, is => ownZ es is
  | _, _ => []
/-- an iterator -/
def ckI (f : Expr → Ex → Bool) (T : Tab) (s : Scope) (tg iter : Expr) (k : SK) (args : List Ex) : Bool := noSet iter && match k with
  | .seq => (match args with | [x] => f iter x | _ => false)
  | .rng1 => (match iter, args with | .Call (.Name x _) [a] [] _, [xa] => ckBlt T s x "range" && noStar a && f a xa | _, _ => false)
  | .rng2 => (match iter, args with | .Call (.Name x _) [a, b] [] _, [xa, xb] => ckBlt T s x "range" && noStar a && noStar b && f a xa && f b xb | _, _ => false)
  | .rng3 => (match iter, args with | .Call (.Name x _) [a, b, c] [] _, [xa, xb, xc] => ckBlt T s x "range" && noStar a && noStar b && noStar c && f a xa && f b xb && f c xc | _, _ => false)
  | .enum => (match tg, iter, args with | .Tuple _ _ _, .Call (.Name x _) [a] [] _, [xa] => ckBlt T s x "enumerate" && noStar a && f a xa | _, _, _ => false)
  | .zip => (match tg, iter, args with | .Tuple _ _ _, .Call (.Name x _) [a, b] [] _, [xa, xb] => ckBlt T s x "zip" && noStar a && noStar b && f a xa && f b xb | _, _, _ => false)
  | .items => false
/-- a comprehension; fb: inside of its block -/
def ckComp (f : Expr → Ex → Bool) (fb : Expr → Ex → Bool) (T : Tab) (s : Scope) (elt tg iter : Expr) (ifs : List Expr) (isa : Int) (scope : Scope) (x : Ex) : Bool := decide (isa = 0) && match x with
  | .comp k args is xelt => (match ifs with
    | [] => ckI f T s tg iter k args && ckTg T scope tg is && decide ((ownOf tg is).map (·.2) = is) && blkC T.N s scope (ownOf tg is) && fb elt xelt
    | _ => false)
  | .compIf k args is xelt xcnd => (match ifs with
    | [c] => ckI f T s tg iter k args && ckTg T scope tg is && decide ((ownOf tg is).map (·.2) = is) && blkC T.N s scope (ownOf tg is) && fb elt xelt && notIf c && fb c xcnd
    | _ => false)
  | _ => false

def Ex.isDead : Ex → Bool
  | .dead => true
  | _ => false
def ckE : Nat → Tab → Scope → Scope → Expr → Ex → Bool
  | 0, _, _, _, _, _ => false
  | n + 1, T, o, s, e, x => if x.isDead then true else match e with
    | .Name id _ => (match x with
      | .var i => ckVar T s id i
      | .glo k => ckGl T s id (.con k)
      | _ => false)
    | .Constant (.int i) _ _ => (match x with | .con (.int j) => decide (i = j) | _ => false)
    | .Constant (.bool i) _ _ => (match x with | .con (.bl j) => decide (i = j) | _ => false)
    | .Constant (.str i) _ _ => (match x with | .con (.str j) => decide (i = j) | _ => false)
    | .Constant .none _ _ => (match x with | .con .non => true | _ => false)
    | .BoolOp op [a] _ => notIf a && ckE n T o s a x
    | .BoolOp .And (a :: b :: rest) p => (match x with | .and xa xb => notIf a && ckE n T o s a xa && ckE n T o s (.BoolOp .And (b :: rest) p) xb | _ => false)
    | .BoolOp .Or (a :: b :: rest) p => (match x with | .or xa xb => notIf a && ckE n T o s a xa && ckE n T o s (.BoolOp .Or (b :: rest) p) xb | _ => false)
    | .BinOp a op b _ => (match x with | .bin q xa xb => opB op q && ckE n T o s a xa && ckE n T o s b xb | _ => false)
    | .UnaryOp .USub a _ => (match x with | .neg xa => ckE n T o s a xa | _ => false)
    | .UnaryOp .Not a _ => (match x with | .not xa => notIf a && ckE n T o s a xa | _ => false)
    | .Compare a [op] [b] _ => (match x with | .cmp q xa xb => opC op q && noSet b && ckE n T o s a xa && ckE n T o s b xb | _ => false)
    | .Compare a [op, op2] [b, c] _ => (match x with | .cmp2 q q2 xa xb xc => opC op q && opC op2 q2 && noSet c && ckE n T o s a xa && ckE n T o s b xb && ckE n T o s c xc | _ => false)
    | .Compare a [op, op2, op3] [b, c, d] _ => (match x with | .cmp3 q q2 q3 xa xb xc xd => opC op q && opC op2 q2 && opC op3 q3 && noSet d && ckE n T o s a xa && ckE n T o s b xb && ckE n T o s c xc && ckE n T o s d xd | _ => false)
    | .Dict [] [] _ => (match x with | .dct0 => true | _ => false)
    | .IfExp c a b _ => (match x with | .ife xc xa xb => notIf c && ckE n T o s c xc && ckE n T o s a xa && ckE n T o s b xb | _ => false)
    | .Subscript a (.Slice lo hi none _) _ => (match x with | .sl xa xl xh => ckE n T o s a xa && ckOpt (ckE n T o s) lo xl && ckOpt (ckE n T o s) hi xh | _ => false)
    | .Subscript a b _ => (match x with | .ix xa xb => noSlice b && ckE n T o s a xa && ckE n T o s b xb | _ => false)
    | .Attribute a nm _ => (match x with
      | .fld xa f => decide (T.at_.lookup nm = some f) && noSuper a && ckE n T o s a xa
      | .atE xa => T.sui && decide (nm = "at") && noSuper a && ckE n T o s a xa
      | _ => false)
    | .List es _ => (match x with | .lst xs => ckList (ckE n T o s) es xs | _ => false)
    | .Tuple es _ _ => (match x with | .tup xs => ckList (ckE n T o s) es xs | _ => false)
    | .Call (.Name id _) es [] _ => (match x with
      | .call f xs => ckGl T s id (.fn f) && ckList (ckE n T o s) es xs
      | .mk c xs => ckGl T s id (.cls c) && ckList (ckE n T o s) es xs
      | .bi b xs => !T.sui && ckBlt T s id b.nm && !es.isEmpty && ckList (ckE n T o s) es xs
      | .isE xa cs => ckBlt T s id "isinstance" && (match es with
        | [a, .Name y _] => (match cs with | [c] => ckX T s y c && noStar a && ckE n T o s a xa | _ => false)
        | [a, .Tuple ys _ _] => ckXs T s ys cs && !cs.isEmpty && decide (cs.length ≤ 1000) && noStar a && ckE n T o s a xa
        | _ => false)
      | .lrng1 xa => !T.sui && ckBlt T s id "list" && (match es with | [.Call (.Name y _) [a] [] _] => ckBlt T s y "range" && noStar a && ckE n T o s a xa | _ => false)
      | .lrng xa xb => !T.sui && ckBlt T s id "list" && (match es with | [.Call (.Name y _) [a, b] [] _] => ckBlt T s y "range" && noStar a && noStar b && ckE n T o s a xa && ckE n T o s b xb | _ => false)
      | .isi xa t => (match es with | [a, .Name y _] => ckBlt T s id "isinstance" && ckBlt T s y t.nm && noStar a && ckE n T o s a xa | _ => false)
      | _ => false)
    | .Call (.Attribute a m apos) es [] pos => (match x with
      | .meth mi xa xs => decide (T.me.lookup m = some mi) && noSuper a && decide (es.length < 30) && (apos.endLine == pos.line) && ckE n T o s a xa && ckList (ckE n T o s) es xs
      | .bm .count xa xs => decide (m = "count") && noSuper a && decide (es.length < 30) && !es.isEmpty && (apos.endLine == pos.line) && ckE n T o s a xa && ckList (ckE n T o s) es xs
      | .bm .index xa xs => decide (m = "index") && noSuper a && decide (es.length < 30) && !es.isEmpty && (apos.endLine == pos.line) && ckE n T o s a xa && ckList (ckE n T o s) es xs
      | _ => false)
    | .ListComp elt [⟨tg, iter, ifs, isa⟩] scope _ => !T.sui && ckComp (ckE n T o s) (ckE n T scope (relS scope s)) T s elt tg iter ifs isa scope x
    | _ => false

section
variable {g : G} {xg : XG} {Γ : Fe} {X : Cx} {W : WX} {T : Tab} {o s : Scope}
def GF (g : G) (xg : XG) (Γ : Fe) (X : Cx) (x : Str) : GK → Prop
  | .fn i => Callee g xg X x (Γ.fn i)
  | .cls c => KCallee g xg X x c (Γ.ma c)
  | .con k => ∃ v u, X.mg x = some u ∧ RelV v u ∧ ∀ H S, Own g H S 0 (Γ.gl k) v []
  | .non => X.mg x = none
  | .exc c => X.mg x = some (xg.XV c)
  | .dead => True
/-- what is known of a body's surroundings -/
structure Cok (g : G) (xg : XG) (Γ : Fe) (X : Cx) (W : WX) (T : Tab) (o s : Scope) : Prop where
  hK : g.K = X.K
  hu : X.A.units + 64 < cLine
  cl : T.sui = false → X.calm = true
  hN : X.N = T.N
  nd : T.N.Nodup
  sc : X.env.scope = s
  fn : ∀ x, locB o x = true → Loc s x ∧ (X.fn x = true ∨ s.names.lookup x = some .local)
  tk : Takes X W
  gf : ∀ x k, T.gn.lookup x = some k → GF g xg Γ X x k
  at_ : ∀ x i, T.at_.lookup x = some i → g.AN i = x
  inj : ∀ i j, g.AN i = g.AN j → i = j
  fo : ∀ c f, Γ.fo c f = true → Cls X.K (g.CA c) ∧ NoAttr X.K (g.CA c) (g.AN f)
  me : ∀ x i, T.me.lookup x = some i → (∀ c, Γ.mh i c = true → MCallee g xg X c x (Γ.me i c)) ∧ ∀ k, g.AN k ≠ x
  ini : T.ini = false → g.self = none
  ex0 : T.sui = false → g.exa = none
  ex1 : T.sui = true → ∃ a c dd C, g.exa = some (a, c, dd) ∧ xg.XV c = .ref C ∧ ExK X.K C
  xo : XOk g xg Γ X
  em : ∀ i j b, Γ.sub i j = some b → PySem.W.exmOne X.K (xg.XV i) (xg.XV j) = some b
  rz : ∀ c, Γ.rz c = true → ∃ C, xg.XV c = .ref C ∧ RzK X.K C
  xv0 : xg.XV 0 = .type "ValueError"
  xcl : ∀ c, isCl (xg.XV c) = true
theorem visB_ok {x : Str} (h : visB s x = true) : Vis s x := by
  unfold visB at h
  split at h <;> first | exact .inl (by assumption) | exact .inr (.inl (by assumption)) | exact .inr (.inr (by assumption)) | cases h
theorem locB_ok {x : Str} (h : locB s x = true) : Loc s x := by
  unfold locB at h
  split at h <;> first | exact .inl (by assumption) | exact .inr (by assumption) | cases h
theorem glB_ok {x : Str} (h : glB X.env.scope x = true) : Gl X x := by
  unfold glB at h
  split at h
  · assumption
  · cases h
theorem nmOk_ok {x : Str} (h : nmOk x = true) : (x == ("__debug__" : Str)) = false ∧ (x == ("__classdict__" : Str)) = false ∧ x ≠ "__name__" := by
  unfold nmOk at h
  simp only [Bool.and_eq_true, Bool.not_eq_true', decide_eq_false_iff_not] at h
  exact ⟨h.1.1, h.1.2, h.2⟩
theorem ckBlt_ok (C : Cok g xg Γ X W T o s) {x y : Str} (h : ckBlt T s x y = true) : x = y ∧ Gl X x ∧ X.mg x = none ∧ (x == ("__debug__" : Str)) = false ∧ x ≠ "__name__" := by
  unfold ckBlt at h
  simp only [Bool.and_eq_true, decide_eq_true_eq] at h
  obtain ⟨⟨⟨h1, h2⟩, h3⟩, h4⟩ := h
  exact ⟨h1, glB_ok (by rw [C.sc]; exact h2), C.gf _ _ h4, (nmOk_ok h3).1, (nmOk_ok h3).2.2⟩
theorem ckGl_ok (C : Cok g xg Γ X W T o s) {x : Str} {k : GK} (h : ckGl T s x k = true) : Gl X x ∧ (x == ("__debug__" : Str)) = false ∧ GF g xg Γ X x k := by
  unfold ckGl at h
  simp only [Bool.and_eq_true, decide_eq_true_eq] at h
  exact ⟨glB_ok (by rw [C.sc]; exact h.1.1), (nmOk_ok h.1.2).1, C.gf _ _ h.2⟩
theorem ckVar_ok (C : Cok g xg Γ X W T o s) {x : Str} {i : Nat} (h : ckVar T s x i = true) : X.N[i]? = some x ∧ Vis X.env.scope x ∧ (x == ("__debug__" : Str)) = false ∧ (x == ("__classdict__" : Str)) = false := by
  unfold ckVar at h
  simp only [Bool.and_eq_true, decide_eq_true_eq] at h
  exact ⟨by rw [C.hN]; exact h.1.1, by rw [C.sc]; exact visB_ok h.1.2, (nmOk_ok h.2).1, (nmOk_ok h.2).2.1⟩
theorem ckList_ok {f : Expr → Ex → Bool} (hf : ∀ e x, f e x = true → PE X e (RdE g xg Γ W x)) : ∀ {es : List Expr} {xs : List Ex}, ckList f es xs = true → PA X es (RdA g xg Γ W xs) ∧ es.all noStar = true ∧ es.isEmpty = xs.isEmpty
  | [], [], _ => ⟨a_nil, rfl, rfl⟩
  | [], _ :: _, h => by cases h
  | _ :: _, [], h => by cases h
  | e :: es, x :: xs, h => by
    unfold ckList at h
    simp only [Bool.and_eq_true] at h
    obtain ⟨h1, h2, _⟩ := ckList_ok hf h.2
    exact ⟨a_cons h.1.1 (hf _ _ h.1.2) h1, by simp [h.1.1, h2], rfl⟩
theorem ckOpt_ok {f : Expr → Ex → Bool} (hf : ∀ e x, f e x = true → PE X e (RdE g xg Γ W x)) {e : Option Expr} {x : Ex} (h : ckOpt f e x = true) : PO X e (RdO g xg Γ W x) := by
  cases e with
  | none =>
    cases x <;> first | exact o_none | cases h
  | some e =>
    unfold ckOpt at h
    simp only [Bool.and_eq_true, Bool.not_eq_true'] at h
    exact o_some h.1 (hf _ _ h.2)
theorem ckNames_ok (C : Cok g xg Γ X W T o s) : ∀ {es : List Expr} {is : List Nat}, ckNames T o es is = true → PGs X es (gNames is) ∧ (assignEach es X.env).length = is.length ∧ (assignEach es X.env).findIdx? (·.1) = none
  | [], [], _ => ⟨pgs_nil, rfl, rfl⟩
  | [], _ :: _, h => by cases h
  | _ :: _, [], h => by cases h
  | e :: es, i :: is, h => by
    unfold ckNames at h
    simp only [Bool.and_eq_true] at h
    obtain ⟨h0, h⟩ := h
    obtain ⟨h1, h2, h3⟩ := ckNames_ok C h
    split at h0
    · rename_i x p
      simp only [Bool.and_eq_true, decide_eq_true_eq] at h0
      obtain ⟨f1, f2⟩ := C.fn x h0.2
      refine ⟨pgs_cons (pg_name (by rw [C.hN]; exact C.nd) (by rw [C.hN]; exact h0.1) (by rw [C.sc]; exact f1) (by rw [C.sc]; exact f2)) h1 rfl, ?_, ?_⟩
      · show (assignEach es X.env).length + 1 = _
        rw [h2]
        rfl
      · show List.findIdx? _ ((false, _) :: assignEach es X.env) = none
        rw [List.findIdx?_cons, h3]
        rfl
    · cases h0
theorem ckTg_ok (C : Cok g xg Γ X W T o s) (hsu : T.sui = false) {e : Expr} {is : List Nat} (h : ckTg T o e is = true) : PG X e (gT X.K is) := by
  unfold ckTg at h
  split at h
  · rename_i x p i
    simp only [Bool.and_eq_true, decide_eq_true_eq] at h
    obtain ⟨f1, f2⟩ := C.fn x h.2
    exact pg_name (by rw [C.hN]; exact C.nd) (by rw [C.hN]; exact h.1) (by rw [C.sc]; exact f1) (by rw [C.sc]; exact f2)
  · rename_i es k p
    simp only [Bool.and_eq_true, decide_eq_true_eq] at h
    obtain ⟨h1, h2, h3⟩ := ckNames_ok C h.2
    have : gT X.K is = gTup X.K is.length (gNames is) := by
      unfold gT
      split
      · have := h.1
        simp at this
      · rfl
    rw [this]
    exact pg_tup (C.cl hsu) h1 h2 h3
  · cases h
theorem i_rng3 {tg a b c : Expr} {xa xb xc : Ex} {pos : Pos} {x : Str} {p : Pos} (hx : x = "range") (hg : Gl X x) (hm : X.mg x = none) (hs : noStar a = true) (hs2 : noStar b = true) (hs3 : noStar c = true) (ha : PA X [a, b, c] (RdA g xg Γ W [xa, xb, xc])) : PI X tg (.Call (.Name x p) [a, b, c] [] pos) (RdI g xg Γ W .rng3 [xa, xb, xc]) := by
  subst hx
  refine ⟨fun pins s σ H R I h => (pi_range3 hg hm ha (star_cons hs) (by rw [star_cons hs2, star_cons hs3]; rfl)).run pins s σ H R I ?_⟩
  refine RdI.args h fun ds vs its H1 S1 sz o e q => ?_
  unfold items at e
  split at e <;> first | (cases e; done) | skip
  all_goals first | (rename_i h1; cases h1; done) | skip
  split at e
  · rename_i i j _ z
    obtain rfl := Option.some.inj e
    obtain ⟨v, us, rfl, o1, o2⟩ : ∃ v us, vs = v :: us ∧ Own g H1 S1 0 (.int i) v [] ∧ OwnL g H1 S1 0 [.int j, .int (-1)] us [] := by
      unfold OwnL at o
      obtain ⟨x, ys, B, C, rfl, e, h1, h2⟩ := o
      have e1 := h1.zero
      have e2 := h2.zero
      subst e1
      subst e2
      exact ⟨x, ys, rfl, h1, h2⟩
    obtain ⟨v2, v3, rfl, o2, o3⟩ := own2 o2
    rw [own_int_v o1, own_int_v o2, own_int_v o3]
    simp only [Bool.and_eq_true] at z
    have z1 := small_bd z.1
    have z2 := small_bd z.2
    refine ⟨i, j, -1, _, rfl, RgC.neg (by omega) (by omega) (by omega) (by omega), q _ ?_⟩
    have el : ((List.range (i - j).toNat).map fun k => PL.D.int (i - (k : Nat))).length = (i - j).toNat := by rw [List.length_map, List.length_range]
    refine ⟨fun _ => True, YFn fun k => .int (i + (k : Nat) * (-1)), by rw [el]; exact walk_rangeC, fun _ _ => trivial, fun k x H' H'' hi kz _ ⟨e1, e2⟩ => ?_⟩
    subst e1
    subst e2
    rw [el] at hi
    refine ⟨.int (i + (k : Nat) * (-1)), ?_, .inl rfl, own_int⟩
    rw [List.getElem?_map, List.getElem?_range hi]
    simp only [Option.map_some, Option.some.injEq, PL.D.int.injEq]
    omega
  · cases e
theorem ckI_ok (C : Cok g xg Γ X W T o s) {f : Expr → Ex → Bool} (hf : ∀ e x, f e x = true → PE X e (RdE g xg Γ W x)) {tg iter : Expr} {k : SK} {args : List Ex} (h : ckI f T s tg iter k args = true) : PI X tg iter (RdI g xg Γ W k args) ∧ noSet iter = true := by
  unfold ckI at h
  simp only [Bool.and_eq_true] at h
  obtain ⟨h0, h⟩ := h
  refine ⟨?_, h0⟩
  cases k with
  | seq =>
    dsimp only at h
    split at h
    · exact i_seq C.hK (hf _ _ h)
    · cases h
  | rng1 =>
    dsimp only at h
    split at h
    · simp only [Bool.and_eq_true] at h
      obtain ⟨rfl, b1, b2, b3, b4⟩ := ckBlt_ok C h.1.1
      exact i_rng1 b1 b2 h.1.2 (hf _ _ h.2)
    · cases h
  | rng2 =>
    dsimp only at h
    split at h
    · simp only [Bool.and_eq_true] at h
      obtain ⟨⟨⟨⟨h1, h2⟩, h3⟩, h4⟩, h5⟩ := h
      obtain ⟨rfl, b1, b2, b3, b4⟩ := ckBlt_ok C h1
      exact i_rng2 b1 b2 h2 h3 (a_cons h2 (hf _ _ h4) (a_cons h3 (hf _ _ h5) a_nil))
    · cases h
  | rng3 =>
    dsimp only at h
    split at h
    · simp only [Bool.and_eq_true] at h
      obtain ⟨⟨⟨⟨⟨⟨h1, h2⟩, h3⟩, h4⟩, h5⟩, h6⟩, h7⟩ := h
      obtain ⟨rfl, b1, b2, b3, b4⟩ := ckBlt_ok C h1
      exact i_rng3 rfl b1 b2 h2 h3 h4 (a_cons h2 (hf _ _ h5) (a_cons h3 (hf _ _ h6) (a_cons h4 (hf _ _ h7) a_nil)))
    · cases h
  | enum =>
    dsimp only at h
    split at h
    · simp only [Bool.and_eq_true] at h
      obtain ⟨rfl, b1, b2, b3, b4⟩ := ckBlt_ok C h.1.1
      exact i_enum b1 b2 h.1.2 (hf _ _ h.2)
    · cases h
  | zip =>
    dsimp only at h
    split at h
    · simp only [Bool.and_eq_true] at h
      obtain ⟨⟨⟨⟨h1, h2⟩, h3⟩, h4⟩, h5⟩ := h
      obtain ⟨rfl, b1, b2, b3, b4⟩ := ckBlt_ok C h1
      exact i_zip b1 b2 h2 h3 (a_cons h2 (hf _ _ h4) (a_cons h3 (hf _ _ h5) a_nil))
    · cases h
  | items => cases h
theorem relS_local {sc o : Scope} {x : Str} {k : NameKind} (h : o.names.lookup x = some k) (hk : k ≠ .free) : (relS o sc).names.lookup x = some k := lookup_relS_keep hk h
/-- a block's surroundings -/
theorem Cok.blk (C : Cok g xg Γ X W T o s) (hsu : T.sui = false) (sh : Shared) (H : Hp) (scope : Scope) (A : Addr) (cl : List (Str × Addr)) (fp : List Addr) : Cok g xg Γ (X.blk sh H scope (compEnvC scope cl A X.env) fp) W0 T scope (relS scope s) := by
  refine ⟨C.hK, C.hu, C.cl, C.hN, C.nd, ?_, fun x h => ?_, takes0, fun x k h => ?_, C.at_, C.inj, C.fo, fun x i h => ?_, C.ini, C.ex0, (fun z => by rw [hsu] at z; cases z), ⟨fun a c dd z => (by rw [C.ex0 hsu] at z; cases z), C.xo.sb⟩, C.em, C.rz, C.xv0, C.xcl⟩
  · show relabel scope X.env = _
    rw [← C.sc]
    rfl
  · rcases locB_ok h with h | h
    · exact ⟨.inl (relS_local h (by decide)), .inr (relS_local h (by decide))⟩
    · exact ⟨.inr (relS_local h (by decide)), .inl (by show (scope.names.lookup x == some .cell) = true; rw [h]; rfl)⟩
  · have := C.gf x k h
    cases k with
    | fn i => exact ⟨this.is⟩
    | cls c => exact ⟨this.is⟩
    | con k => exact this
    | non => exact this
    | exc c => exact this
    | dead => exact this
  · obtain ⟨h1, h2⟩ := C.me x i h
    exact ⟨fun c hc => ⟨(h1 c hc).is⟩, h2⟩
/-- .. a try's body's -/
theorem Cok.tr (C : Cok g xg Γ X W T o s) (hsu : T.sui = false) {W' : WX} {pn : List (Addr × Obj)} {xe : Value → Shared → Prop} (tk : Takes (X.tr pn xe) W') : Cok g xg Γ (X.tr pn xe) W' T o s := by
  refine ⟨C.hK, C.hu, C.cl, C.hN, C.nd, C.sc, C.fn, tk, fun x k h => ?_, C.at_, C.inj, C.fo, fun x i h => ?_, C.ini, C.ex0, (fun z => by rw [hsu] at z; cases z), ⟨fun a c dd z => (by rw [C.ex0 hsu] at z; cases z), C.xo.sb⟩, C.em, C.rz, C.xv0, C.xcl⟩
  · have := C.gf x k h
    cases k with
    | fn i => exact ⟨this.is⟩
    | cls c => exact ⟨this.is⟩
    | con k => exact this
    | non => exact this
    | exc c => exact this
    | dead => exact this
  · obtain ⟨h1, h2⟩ := C.me x i h
    exact ⟨fun c hc => ⟨(h1 c hc).is⟩, h2⟩
/-- .. an except suite's -/
theorem Cok.suite (C : Cok g xg Γ X W T o s) (hsu : T.sui = false) {a : Addr} {oe : Obj} {k : Nat} {d : Option Addr} {pn : List (Addr × Obj)} (hk : ∃ C, xg.XV k = .ref C ∧ ExK X.K C) (hz : Zc (xg.XV k) d oe) (hf : ∃ vs, oe.data = .fields vs) :
    Cok (g.exA (some (a, k, d))) xg Γ (X.suite a ((a, oe) :: pn)) W0 T.suiT o s := by
  obtain ⟨D, eD, hD⟩ := hk
  refine ⟨C.hK, C.hu, (fun z => nomatch z), C.hN, C.nd, C.sc, C.fn, takes0, fun x q h => ?_, C.at_, C.inj, C.fo, (fun x i h => nomatch h), C.ini, (fun z => nomatch z), fun _ => ⟨a, k, d, D, rfl, eD, hD⟩, ⟨fun a' c' dd' z => ?_, C.xo.sb⟩, C.em, C.rz, C.xv0, C.xcl⟩
  · obtain ⟨k0, h0, rfl⟩ := look_map h
    have := C.gf x k0 h0
    cases k0 with
    | fn i => exact True.intro
    | cls c => exact True.intro
    | con k =>
      obtain ⟨v, u, h1, h2, h3⟩ := this
      exact ⟨v, u, h1, h2, fun H S => (h3 H S).exa_ (C.ex0 hsu)⟩
    | non => exact this
    | exc c => exact this
    | dead => exact True.intro
  · cases z
    exact ⟨X, oe, pn, rfl, hz, hf⟩
theorem ckX_ok (C : Cok g xg Γ X W T o s) {y : Str} {c : Nat} {p : Pos} (h : ckX T s y c = true) (hi : isCl (xg.XV c) = true) : PE X (.Name y p) (tC (clV (xg.XV c))) := by
  unfold ckX at h
  rcases Bool.or_eq_true_iff.mp h with h | h
  · obtain ⟨h1, h2, h3⟩ := ckGl_ok C h
    refine pe_glob h1 h3 ?_ h2
    cases e : xg.XV c with
    | ref C => rfl
    | type n => rfl
    | _ => rw [e] at hi; cases hi
  · simp only [Bool.and_eq_true, decide_eq_true_eq] at h
    obtain ⟨h0, h9⟩ := h
    subst h0
    obtain ⟨rfl, b1, b2, b3, b4⟩ := ckBlt_ok C h9
    rw [C.xv0]
    exact pe_bltn (v := .ty "ValueError") b1 b2 boot_VE rfl b4 b3
theorem ckXs_ok (C : Cok g xg Γ X W T o s) (hi : ∀ c, isCl (xg.XV c) = true) : ∀ {es : List Expr} {cs : List Nat}, ckXs T s es cs = true → PA X es (tCls xg cs)
  | [], [], _ => pa_nil
  | [], _ :: _, h => by cases h
  | e :: es, [], h => by cases e <;> cases h
  | e :: es, c :: cs, h => by
    cases e <;> first
      | (unfold ckXs at h; cases h; done)
      | (unfold ckXs at h
         simp only [Bool.and_eq_true] at h
         exact tCls_cons (ckX_ok C h.1 (hi c)) rfl (ckXs_ok C hi h.2))
/-- a comprehension's parts -/
theorem ckComp_ok (C : Cok g xg Γ X W T o s) (hsu : T.sui = false) {f fb : Expr → Ex → Bool} (hf : ∀ e x, f e x = true → PE X e (RdE g xg Γ W x)) {elt tg iter : Expr} {ifs : List Expr} {isa : Int} {scope : Scope} {x : Ex}
    (hb : ∀ (sh : Shared) (H : Hp) (A : Addr) (cl : List (Str × Addr)) (fp : List Addr) e x, fb e x = true → PE (X.blk sh H scope (compEnvC scope cl A X.env) fp) e (RdE g xg Γ W0 x) ∧ (notIf e = true → PT (X.blk sh H scope (compEnvC scope cl A X.env) fp) e (RdT g xg Γ W0 x)))
    (h : ckComp f fb T s elt tg iter ifs isa scope x = true) : isa = 0 ∧ noSet iter = true ∧
    ((∃ k args is xelt own, x = .comp k args is xelt ∧ ifs = [] ∧ PI X tg iter (RdI g xg Γ W k args) ∧ BlkOk X.N X.env.scope scope own ∧ own.map (·.2) = is ∧
      (∀ (s : Shared) (H : Hp) (C : Addr) (cl : List (Str × Addr)) (fp : List Addr), PG (X.blk s H scope (compEnvC scope cl C X.env) fp) tg (gT X.K is)) ∧
      (∀ (s : Shared) (H : Hp) (C : Addr) (cl : List (Str × Addr)) (fp : List Addr), PE (X.blk s H scope (compEnvC scope cl C X.env) fp) elt (RdE g xg Γ W0 xelt))) ∨
     (∃ k args is xelt xcnd cnd own, x = .compIf k args is xelt xcnd ∧ ifs = [cnd] ∧ PI X tg iter (RdI g xg Γ W k args) ∧ BlkOk X.N X.env.scope scope own ∧ own.map (·.2) = is ∧
      (∀ (s : Shared) (H : Hp) (C : Addr) (cl : List (Str × Addr)) (fp : List Addr), PG (X.blk s H scope (compEnvC scope cl C X.env) fp) tg (gT X.K is)) ∧
      (∀ (s : Shared) (H : Hp) (C : Addr) (cl : List (Str × Addr)) (fp : List Addr), PT (X.blk s H scope (compEnvC scope cl C X.env) fp) cnd (RdT g xg Γ W0 xcnd)) ∧
      (∀ (s : Shared) (H : Hp) (C : Addr) (cl : List (Str × Addr)) (fp : List Addr), PE (X.blk s H scope (compEnvC scope cl C X.env) fp) elt (RdE g xg Γ W0 xelt)))) := by
  unfold ckComp at h
  simp only [Bool.and_eq_true, decide_eq_true_eq] at h
  obtain ⟨h0, h⟩ := h
  split at h
  · rename_i k args is xelt
    split at h
    · simp only [Bool.and_eq_true, decide_eq_true_eq] at h
      obtain ⟨⟨⟨⟨h1, h2⟩, h3⟩, h4⟩, h5⟩ := h
      obtain ⟨i1, i2⟩ := ckI_ok C hf h1
      exact ⟨h0, i2, .inl ⟨k, args, is, xelt, _, rfl, rfl, i1, blkOk_by (by rw [C.hN, C.sc]; exact h4), h3, fun sh H A cl fp => ckTg_ok (C.blk hsu sh H scope A cl fp) hsu h2, fun sh H A cl fp => (hb sh H A cl fp _ _ h5).1⟩⟩
    · cases h
  · rename_i k args is xelt xcnd
    split at h
    · rename_i c
      simp only [Bool.and_eq_true, decide_eq_true_eq] at h
      obtain ⟨⟨⟨⟨⟨⟨h1, h2⟩, h3⟩, h4⟩, h5⟩, h6⟩, h7⟩ := h
      obtain ⟨i1, i2⟩ := ckI_ok C hf h1
      exact ⟨h0, i2, .inr ⟨k, args, is, xelt, xcnd, c, _, rfl, rfl, i1, blkOk_by (by rw [C.hN, C.sc]; exact h4), h3, fun sh H A cl fp => ckTg_ok (C.blk hsu sh H scope A cl fp) hsu h2, fun sh H A cl fp => (hb sh H A cl fp _ _ h7).2 h6, fun sh H A cl fp => (hb sh H A cl fp _ _ h5).1⟩⟩
    · cases h
  · cases h
end
end PL
/-! PL14: the test of an expression is right. -/
namespace PL
open PySem L2 PyProof.Rows
section
variable {g : G} {xg : XG} {Γ : Fe}
/-- what a passed test gives -/
structure Ck (g : G) (xg : XG) (Γ : Fe) (X : Cx) (W : WX) (e : Expr) (x : Ex) : Prop where
  pe : PE X e (RdE g xg Γ W x)
  pt : notIf e = true → PT X e (RdT g xg Γ W x)
  pw : ∀ op vs p, e = .BoolOp op vs p → PW X e (RdT g xg Γ W x)
theorem Ck.leaf {X : Cx} {W : WX} {e : Expr} {x : Ex} (hK : g.K = X.K) (h : PE X e (RdE g xg Γ W x)) (hl : isLeaf e = true) : Ck g xg Γ X W e x := ⟨h, fun _ => t_leaf hK hl h, fun op vs p q => by subst q; cases hl⟩
theorem Ck.bool {X : Cx} {W : WX} {op : BoolOp} {vs : List Expr} {p : Pos} {x : Ex} (h : PE X (.BoolOp op vs p) (RdE g xg Γ W x)) (hw : PW X (.BoolOp op vs p) (RdT g xg Γ W x)) : Ck g xg Γ X W (.BoolOp op vs p) x :=
  ⟨h, fun _ => ⟨fun pins s σ H Q I q => hw.run _ pins s σ H Q I q⟩, fun _ _ _ _ => hw⟩
theorem Ck.dead {X : Cx} {W : WX} {e : Expr} : Ck g xg Γ X W e .dead := by
  have k : ∀ {σ : L2.St} {H : Hp} {Q : VK}, RdE g xg Γ W .dead σ H Q → False := fun ⟨S, δ, _, h⟩ => by unfold evE at h; exact h
  have kt : ∀ {σ : L2.St} {H : Hp} {Q : Bool → Hp → Prop}, RdT g xg Γ W .dead σ H Q → False := fun ⟨S, δ, _, h⟩ => by unfold evT evE at h; exact h
  exact ⟨⟨fun pins s σ H Q I h => (k h).elim⟩, fun _ => ⟨fun pins s σ H Q I h => (kt h).elim⟩, fun op vs p _ => ⟨fun wh pins s σ H Q I h => (kt h).elim⟩⟩
theorem isDead_eq {x : Ex} (h : x.isDead = true) : x = .dead := by cases x <;> first | rfl | cases h
theorem ckE_ok : ∀ (n : Nat) (T : Tab) (o s : Scope) (e : Expr) (x : Ex) (X : Cx) (W : WX), Cok g xg Γ X W T o s → ckE n T o s e x = true → Ck g xg Γ X W e x
  | 0, _, _, _, _, _, _, _, _, h => by cases h
  | n + 1, T, o, s, e, x, X, W, C, h => by
    have ih : ∀ e x, ckE n T o s e x = true → Ck g xg Γ X W e x := fun e x h => ckE_ok n T o s e x X W C h
    have ihE : ∀ e x, ckE n T o s e x = true → PE X e (RdE g xg Γ W x) := fun e x h => (ih e x h).pe
    have hK := C.hK
    have hu := C.hu
    unfold ckE at h
    split at h
    · rename_i hd
      rw [isDead_eq hd]
      exact Ck.dead
    rename_i hd0
    clear hd0
    split at h
    · -- Name
      split at h
      · obtain ⟨h1, h2, h3, h4⟩ := ckVar_ok C h
        exact .leaf hK (e_var h1 h2 h3 h4) rfl
      · obtain ⟨h1, h2, v, u, h3, h4, h5⟩ := ckGl_ok C h
        exact .leaf hK (e_glo h1 h3 h4 h2 h5) rfl
      · cases h
    · split at h
      · have := of_decide_eq_true h; subst this; exact .leaf hK e_con_int rfl
      · cases h
    · split at h
      · have := of_decide_eq_true h; subst this; exact .leaf hK e_con_bl rfl
      · cases h
    · split at h
      · have := of_decide_eq_true h; subst this; exact .leaf hK e_con_str rfl
      · cases h
    · split at h
      · exact .leaf hK e_con_non rfl
      · cases h
    · -- BoolOp [a]
      simp only [Bool.and_eq_true] at h
      have k := ih _ _ h.2
      rename_i op a p
      refine .bool (e_one k.pe) ?_
      cases op with
      | And => exact pw_and1 (k.pt h.1)
      | Or => exact pw_or1 (k.pt h.1)
    · split at h
      · simp only [Bool.and_eq_true] at h
        have k1 := ih _ _ h.1.2
        have k2 := ih _ _ h.2
        exact .bool (e_and k1.pe k2.pe) (t_and (k1.pt h.1.1) (k2.pw _ _ _ rfl))
      · cases h
    · split at h
      · simp only [Bool.and_eq_true] at h
        have k1 := ih _ _ h.1.2
        have k2 := ih _ _ h.2
        exact .bool (e_or k1.pe k2.pe) (t_or (k1.pt h.1.1) (k2.pw _ _ _ rfl))
      · cases h
    · split at h
      · simp only [Bool.and_eq_true] at h
        have := opB_eq h.1.1
        subst this
        exact .leaf hK (e_bin hK _ (ihE _ _ h.1.2) (ihE _ _ h.2)) rfl
      · cases h
    · split at h
      · exact .leaf hK (e_neg (ihE _ _ h)) rfl
      · cases h
    · split at h
      · simp only [Bool.and_eq_true] at h
        have k := ih _ _ h.2
        exact ⟨e_not k.pe, fun _ => t_not (k.pt h.1), fun _ _ _ q => by cases q⟩
      · cases h
    · split at h
      · simp only [Bool.and_eq_true] at h
        have := opC_eq h.1.1.1
        subst this
        exact ⟨e_cmp hK hu _ h.1.1.2 (ihE _ _ h.1.2) (ihE _ _ h.2), fun _ => t_cmp hK hu _ h.1.1.2 (ihE _ _ h.1.2) (ihE _ _ h.2), fun _ _ _ q => by cases q⟩
      · cases h
    · split at h
      · simp only [Bool.and_eq_true] at h
        obtain ⟨⟨⟨⟨⟨h1, h2⟩, h3⟩, h4⟩, h5⟩, h6⟩ := h
        have := opC_eq h1
        subst this
        have := opC_eq h2
        subst this
        exact ⟨e_cmp2 hK hu _ _ h3 (ihE _ _ h4) (ihE _ _ h5) (ihE _ _ h6), fun _ => t_cmp2 hK hu _ _ h3 (ihE _ _ h4) (ihE _ _ h5) (ihE _ _ h6), fun _ _ _ q => by cases q⟩
      · cases h
    · split at h
      · simp only [Bool.and_eq_true] at h
        obtain ⟨⟨⟨⟨⟨⟨⟨h1, h2⟩, h2b⟩, h3⟩, h4⟩, h5⟩, h6⟩, h7⟩ := h
        have := opC_eq h1
        subst this
        have := opC_eq h2
        subst this
        have := opC_eq h2b
        subst this
        exact ⟨e_cmp3 hK hu _ _ _ h3 (ihE _ _ h4) (ihE _ _ h5) (ihE _ _ h6) (ihE _ _ h7), fun _ => t_cmp3 hK hu _ _ _ h3 (ihE _ _ h4) (ihE _ _ h5) (ihE _ _ h6) (ihE _ _ h7), fun _ _ _ q => by cases q⟩
      · cases h
    · split at h
      · exact .leaf hK e_dct0 rfl
      · cases h
    · split at h
      · simp only [Bool.and_eq_true] at h
        exact ⟨e_ife ((ih _ _ h.1.1.2).pt h.1.1.1) (ihE _ _ h.1.2) (ihE _ _ h.2), fun q => Bool.noConfusion q, fun _ _ _ q => by cases q⟩
      · cases h
    · -- slice
      split at h
      · simp only [Bool.and_eq_true] at h
        exact .leaf hK (e_sl hK (ihE _ _ h.1.1) (ckOpt_ok ihE h.1.2) (ckOpt_ok ihE h.2)) rfl
      · cases h
    · split at h
      · simp only [Bool.and_eq_true] at h
        exact .leaf hK (e_ix hK h.1.1 (ihE _ _ h.1.2) (ihE _ _ h.2)) rfl
      · cases h
    · split at h
      · simp only [Bool.and_eq_true, decide_eq_true_eq] at h
        have e0 := C.at_ _ _ h.1.1
        exact .leaf hK (e_fld e0 C.inj (fun c hc => by rw [← e0]; exact C.fo c _ hc) h.1.2 (ihE _ _ h.2)) rfl
      · simp only [Bool.and_eq_true, decide_eq_true_eq] at h
        obtain ⟨⟨⟨h1, h2⟩, h3⟩, h4⟩ := h
        obtain ⟨a0, c0, dd0, C0, x1, x2, x3⟩ := C.ex1 h1
        exact .leaf hK (e_atE C.xo x1 ⟨C0, x2, x3⟩ h2 h3 (ihE _ _ h4)) rfl
      · cases h
    · split at h
      · exact .leaf hK (e_lst (ckList_ok ihE h).1) rfl
      · cases h
    · split at h
      · exact .leaf hK (e_tup (ckList_ok ihE h).1) rfl
      · cases h
    · split at h
      · simp only [Bool.and_eq_true] at h
        obtain ⟨h1, h2, h3⟩ := ckGl_ok C h.1
        obtain ⟨a1, a2, a3⟩ := ckList_ok ihE h.2
        exact .leaf hK (e_call C.tk h3 h1 h2 a2 a3 a1) rfl
      · simp only [Bool.and_eq_true] at h
        obtain ⟨h1, h2, h3⟩ := ckGl_ok C h.1
        obtain ⟨a1, a2, a3⟩ := ckList_ok ihE h.2
        exact .leaf hK (e_mk C.tk h3 h1 h2 a2 a3 a1) rfl
      · rename_i b xs
        simp only [Bool.and_eq_true, Bool.not_eq_true'] at h
        obtain ⟨⟨⟨hsu, h1⟩, h2⟩, h3⟩ := h
        obtain ⟨rfl, b1, b2, b3, b4⟩ := ckBlt_ok C h1
        obtain ⟨a1, a2, a3⟩ := ckList_ok ihE h3
        clear h3
        revert h2 a1 a2
        rename_i es _ _
        cases es with
        | nil => intro h2; cases h2
        | cons e es => intro h2 a1 a2; exact .leaf hK (e_bi (y := .omit) hK (C.cl hsu) b b1 b2 b.boot b4 b3 a2 a1) rfl
      · -- isinstance of a caught exception
        simp only [Bool.and_eq_true] at h
        obtain ⟨h0, h⟩ := h
        obtain ⟨rfl, b1, b2, b3, b4⟩ := ckBlt_ok C h0
        split at h
        · split at h
          · simp only [Bool.and_eq_true] at h
            exact .leaf hK (e_isE C.xo b1 b2 isi_boot b4 b3 (ckX_ok C h.1.1 (C.xcl _)) h.1.2 rfl (ihE _ _ h.2)) rfl
          · cases h
        · simp only [Bool.and_eq_true, Bool.not_eq_true', decide_eq_true_eq] at h
          exact .leaf hK (e_isET C.xo b1 b2 isi_boot b4 b3 (ckXs_ok C C.xcl h.1.1.1.1) (fun c _ => C.xcl c) h.1.2 h.1.1.1.2 h.1.1.2 (ihE _ _ h.2)) rfl
        · cases h
      · simp only [Bool.and_eq_true, Bool.not_eq_true'] at h
        obtain ⟨⟨hsu, h1⟩, h⟩ := h
        obtain ⟨rfl, b1, b2, b3, b4⟩ := ckBlt_ok C h1
        split at h
        · simp only [Bool.and_eq_true] at h
          obtain ⟨⟨h2, h3⟩, h4⟩ := h
          obtain ⟨rfl, c1, c2, c3, c4⟩ := ckBlt_ok C h2
          exact .leaf hK (e_lrng1 (C.cl hsu) b1 b2 c1 c2 h3 (ihE _ _ h4)) rfl
        · cases h
      · simp only [Bool.and_eq_true, Bool.not_eq_true'] at h
        obtain ⟨⟨hsu, h1⟩, h⟩ := h
        obtain ⟨rfl, b1, b2, b3, b4⟩ := ckBlt_ok C h1
        split at h
        · simp only [Bool.and_eq_true] at h
          obtain ⟨⟨⟨⟨h2, h3⟩, h3b⟩, h4⟩, h5⟩ := h
          obtain ⟨rfl, c1, c2, c3, c4⟩ := ckBlt_ok C h2
          exact .leaf hK (e_lrng (C.cl hsu) b1 b2 c1 c2 h3 h3b (ihE _ _ h4) (ihE _ _ h5)) rfl
        · cases h
      · split at h
        · simp only [Bool.and_eq_true] at h
          obtain ⟨⟨⟨h1, h2⟩, h3⟩, h4⟩ := h
          obtain ⟨rfl, b1, b2, b3, b4⟩ := ckBlt_ok C h1
          obtain ⟨rfl, c1, c2, c3, c4⟩ := ckBlt_ok C h2
          exact .leaf hK (e_isi hK _ b1 b2 isi_boot b4 b3 c1 c2 (Ty.boot _) c4 c3 h3 (ihE _ _ h4)) rfl
        · cases h
      · cases h
    · split at h
      · simp only [Bool.and_eq_true, decide_eq_true_eq] at h
        obtain ⟨⟨⟨⟨⟨h1, h2⟩, h3⟩, h4⟩, h5⟩, h6⟩ := h
        obtain ⟨m1, m2⟩ := C.me _ _ h1
        obtain ⟨a1, a2, a3⟩ := ckList_ok ihE h6
        exact .leaf hK (e_meth C.tk m1 m2 h2 a2 h3 h4 a3 (ihE _ _ h5) a1) rfl
      · simp only [Bool.and_eq_true, decide_eq_true_eq] at h
        obtain ⟨⟨⟨⟨⟨⟨h1, h2⟩, h3⟩, h4⟩, h5⟩, h6⟩, h7⟩ := h
        obtain ⟨a1, a2, a3⟩ := ckList_ok ihE h7
        revert h3 h4 a1 a2
        rename_i es _ _ _ _
        cases es with
        | nil => intro h4; cases h4
        | cons e es => intro h4 h3 a1 a2; exact .leaf hK (e_count h1 h2 a2 h3 h5 (ihE _ _ h6) a1 hK) rfl
      · simp only [Bool.and_eq_true, decide_eq_true_eq] at h
        obtain ⟨⟨⟨⟨⟨⟨h1, h2⟩, h3⟩, h4⟩, h5⟩, h6⟩, h7⟩ := h
        obtain ⟨a1, a2, a3⟩ := ckList_ok ihE h7
        revert h3 h4 a1 a2
        rename_i es _ _ _ _
        cases es with
        | nil => intro h4; cases h4
        | cons e es => intro h4 h3 a1 a2; exact .leaf hK (e_index h1 h2 a2 h3 h5 (ihE _ _ h6) a1 hK) rfl
      · cases h
    · -- a comprehension
      rename_i elt tg iter ifs isa scope pos
      simp only [Bool.and_eq_true, Bool.not_eq_true'] at h
      obtain ⟨hsu, h⟩ := h
      have hb : ∀ (sh : Shared) (H : Hp) (A : Addr) (cl : List (Str × Addr)) (fp : List Addr) e x, ckE n T scope (relS scope s) e x = true → Ck g xg Γ (X.blk sh H scope (compEnvC scope cl A X.env) fp) W0 e x := fun sh H A cl fp e x h => ckE_ok n T _ _ e x _ W0 (C.blk hsu sh H scope A cl fp) h
      obtain ⟨rfl, hs, hh⟩ := ckComp_ok C hsu (fb := ckE n T scope (relS scope s)) ihE (fun sh H A cl fp e x h => ⟨(hb sh H A cl fp e x h).pe, (hb sh H A cl fp e x h).pt⟩) h
      rcases hh with ⟨k, args, is, xelt, own, rfl, rfl, i1, bo, e0, hg, he⟩ | ⟨k, args, is, xelt, xcnd, cnd, own, rfl, rfl, i1, bo, e0, hg, ht, he⟩
      · exact .leaf hK (e_comp hK (C.cl hsu) (by rw [C.hN]; exact C.nd) i1 bo e0 hg he hs) rfl
      · exact .leaf hK (e_compIf hK (C.cl hsu) (by rw [C.hN]; exact C.nd) i1 bo e0 hg ht he hs) rfl
    · cases h
end
end PL
/-! PL15: that a text means a statement of the small language: a test that runs, and that it is right. -/
namespace PL
open PySem L2 PyProof.Rows
def swNames (s : Scope) (ts : List Expr) : List Str := ts.filterMap fun
  | .Name id pos => if s.names.lookup id == some .local && pos.line == (ts.head?.map (·.pos.line)).getD 0 then some id else none
  | _ => none
def swRes (s : Scope) (ts : List Expr) (e : Expr) : Option (Option (List Str)) := match e with
  | .Tuple vs _ _ =>
    if !(ts.length == 2 || ts.length == 3) || vs.length != ts.length then some none
    else if vs.any (fun | .Starred .. => true | _ => false) then some none
    else if (swNames s ts).length != ts.length || (swNames s ts).eraseDups.length != (swNames s ts).length then some none
    else if vs.all (foldedForSure 8) then some none
    else if vs.all (constantsAlone 8) then none
    else some (some (swNames s ts))
  | _ => some none
theorem blockFn {env : PySem.Env} (hk : env.scope.kind = .function) : env.blockKind = .function := by unfold Env.blockKind; rw [hk]; rfl
theorem swRes_ok {env : PySem.Env} {ts : List Expr} {e : Expr} {r : Option (List Str)} {k : Nat} {p : Pos} (hk : env.scope.kind = .function) (h : swRes env.scope ts e = some r) : swappedStores [.Tuple ts k p] e env = pure r := by
  have hb := blockFn hk
  unfold swRes at h
  split at h
  · rename_i vs k2 p2
    unfold swappedStores
    dsimp only
    rw [hb]
    split at h
    · rename_i c1
      cases h
      rw [if_pos (by rw [c1]; rfl)]
    · rename_i c1
      rw [if_neg (by simpa using c1)]
      split at h
      · rename_i c2
        cases h
        exact if_pos c2
      · rename_i c2
        refine (if_neg c2).trans ?_
        split at h
        · rename_i c3
          cases h
          exact if_pos c3
        · rename_i c3
          refine (if_neg c3).trans ?_
          split at h
          · rename_i c4
            cases h
            rw [if_pos c4]
          · rename_i c4
            rw [if_neg c4]
            split at h
            · cases h
            · rename_i c5
              cases h
              rw [if_neg c5]
              rfl
  · rename_i hne
    cases h
    unfold swappedStores
    cases e <;> first | rfl | exact absurd rfl (hne _ _ _)

def swB (s : Scope) (y : Str) (py pos : Pos) (scope : Scope) : Bool := s.names.lookup y == some .local && py.line == pos.line && !(scope.names.any fun (n, k) => n == y && (k == .local || k == .cell))
theorem swB_ok {env : PySem.Env} {elt : Expr} {gs : List Comprehension} {scope : Scope} {pos py : Pos} {y : Str} {l : Nat} (hk : env.scope.kind = .function) : swapsWith (.ListComp elt gs scope pos) (some (.Name y py)) l env = pure (swB env.scope y py pos scope) := by
  have hb := blockFn hk
  show (pure (env.blockKind == .function && env.kindOf y == some .local && py.line == pos.line && !(scope.names.any fun (n, k) => n == y && (k == .local || k == .cell))) : Sem Bool) = _
  rw [hb]
  rfl
/-- slot i may be stored to -/
def freB (T : Tab) (i : Nat) : Bool := !T.ini || decide (i ≠ 0)
theorem freB_ok {g : G} {xg : XG} {Γ : Fe} {X : Cx} {W : WX} {T : Tab} {o s : Scope} (C : Cok g xg Γ X W T o s) {i : Nat} (h : freB T i = true) : Fre g i := by
  intro w hw
  unfold freB at h
  cases e : T.ini with
  | false => rw [C.ini e] at hw; cases hw
  | true => rw [e] at h; simpa using h
theorem freBs_ok {g : G} {xg : XG} {Γ : Fe} {X : Cx} {W : WX} {T : Tab} {o s : Scope} (C : Cok g xg Γ X W T o s) {is : List Nat} (h : is.all (freB T) = true) : ∀ i ∈ is, Fre g i := fun i hi => freB_ok C (List.all_eq_true.mp h i hi)
def ckB (f : Stmt → PL.St → Bool) : List Stmt → List PL.St → Bool
  | [], [] => true
  | s :: ss, x :: xs => f s x && ckB f ss xs
  | _, _ => false
/-- a path; ps from its end -/
def ckPath (f : Expr → Ex → Bool) (T : Tab) (s : Scope) (j : Nat) : List Pa → Expr → Bool
  | [], e => (match e with | .Name x _ => ckVar T s x j | _ => false)
  | p :: ps, e => (match e, p with
    | .Subscript o i _, .ix xi => noSlice i && f i xi && ckPath f T s j ps o
    | _, _ => false)
def ckNms (T : Tab) (s : Scope) : List Expr → List Nat → Bool
  | [], [] => true
  | e :: es, i :: is => (match e with | .Name x _ => ckVar T s x i | _ => false) && ckNms T s es is
  | _, _ => false
def isDeadS : PL.St → Bool
  | .dead => true
  | _ => false
/-- a try's body: an expression, or an if over such -/
def ckTr : Nat → Tab → Scope → List Stmt → Ex → Bool
  | 0, _, _, _, _ => false
  | n + 1, T, s, st, x => match st with
    | [.Expr e _] => noComp e && ckE n T s s e x
    | [.If c bs cs _] => (match x with | .ife xc xa xb => notIf c && ckE n T s s c xc && ckTr n T s bs xa && ckTr n T s cs xb | _ => false)
    | _ => false
def ckS : Nat → Tab → Scope → Stmt → PL.St → Bool
  | 0, _, _, _, _ => false
  | n + 1, T, s, st, x => if isDeadS x then true else match st with
    | .Assign [.Name id p2] e _ => (match x with
      | .asg i xe _ => freB T i && decide (T.N[i]? = some id) && locB s id && (match e with
        | .ListComp elt [⟨tg, iter, ifs, isa⟩] scope cpos => if swB s id p2 cpos scope then !T.sui && ckComp (ckE n T s s) (ckE n T scope (relS scope s)) T s elt tg iter ifs isa scope xe else ckE n T s s e xe
        | e => noComp e && ckE n T s s e xe)
      | .chi i j xe => (match e with
        | .Subscript (.Name y _) ei _ => freB T i && decide (T.N[i]? = some id) && locB s id && ckVar T s y j && noSlice ei && ckE n T s s ei xe
        | _ => false)
      | _ => false)
    | .Assign [.Tuple es _ _] e _ => (match x with
      | .asgs is xe _ => !T.sui && is.all (freB T) && ckNames T s es is && decide (swRes s es e = some none) && ckE n T s s e xe
      | .par i j xa xb => (match es, e with
        | [.Name a _, .Name b _], .Tuple [ea, eb] _ _ => !T.sui && freB T i && freB T j && decide (swRes s es e = some (some [a, b])) && decide (T.N[i]? = some a) && decide (T.N[j]? = some b) && decide (s.names.lookup a = some .local) && decide (s.names.lookup b = some .local) && decide (i ≠ j) && ckList (ckE n T s s) [ea, eb] [xa, xb]
        | _, _ => false)
      | _ => false)
    | .Assign [.Subscript o i _] e _ => (match x with
      | .setp j ps xi xe _ => noComp e && noSlice i && ckPath (ckE n T s s) T s j ps.reverse o && ckE n T s s i xi && ckE n T s s e xe
      | _ => false)
    | .Assign [.Attribute (.Name id _) nm _] e _ => (match x with
      | .setf j f xe _ => decide (T.at_.lookup nm = some f) && ckVar T s id j && ckE n T s s e xe
      | .setg j f xe => decide (T.at_.lookup nm = some f) && ckVar T s id j && ckE n T s s e xe
      | _ => false)
    | .Return none _ => (match x with | .retN => true | _ => false)
    | .Return (some e) _ => (match x with
      | .ret xe => ckE n T s s e xe
      | .retv i => (match e with | .Name id _ => ckVar T s id i | _ => false)
      | .rett is => (match e with | .Tuple es _ _ => ckNms T s es is | _ => false)
      | _ => false)
    | .If c bs cs _ => (match x with | .ife xc xs ys => notIf c && ckE n T s s c xc && ckB (ckS n T s) bs xs && ckB (ckS n T s) cs ys | _ => false)
    | .While c bs [] _ => (match x with | .whl xc xs => !T.sui && notIf c && ckE n T s s c xc && ckB (ckS n T s) bs xs | _ => false)
    | .For tg iter bs [] _ => (match x with | .fo k args is _ _ ys => !T.sui && is.all (freB T) && ckI (ckE n T s s) T s tg iter k args && ckTg T s tg is && ckB (ckS n T s) bs ys | _ => false)
    | .Expr e _ => (match x with
      | .pass => (match e with | .Constant (.str _) _ _ => true | _ => false)
      | .ex xe => noComp e && ckE n T s s e xe
      | .app j ps xe _ => (match e with
        | .Call (.Attribute o nm apos) [a] [] cpos => decide (nm = "append") && noSuper o && noStar a && (apos.endLine == cpos.line) && ckPath (ckE n T s s) T s j ps.reverse o && ckE n T s s a xe
        | _ => false)
      | .ext j ps xe => (match e with
        | .Call (.Attribute o nm apos) [a] [] cpos => decide (nm = "extend") && noSuper o && noStar a && (apos.endLine == cpos.line) && ckPath (ckE n T s s) T s j ps.reverse o && ckE n T s s a xe
        | _ => false)
      | .clr j ps => (match e with
        | .Call (.Attribute o nm apos) [] [] cpos => decide (nm = "clear") && noSuper o && (apos.endLine == cpos.line) && ckPath (ckE n T s s) T s j ps.reverse o
        | _ => false)
      | _ => false)
    | .AugAssign (.Name id _) op e _ => (match x with
      | .aug i xe => freB T i && opB op .add && decide (T.N[i]? = some id) && locB s id && ckE n T s s e xe
      | _ => false)
    | .Raise (some (.Call (.Name id _) [a] [] _)) none _ => (match x with
      | .raise c none => (match a with | .Constant (.str _) _ _ => !T.sui && ckGl T s id (.exc c) | _ => false)
      | .raise c (some xe) => !T.sui && noStar a && ckGl T s id (.exc c) && ckE n T s s a xe
      | _ => false)
    | .Try body [.ExceptHandler (some (.Name id _)) (some nm) (b0 :: suite) _] [] [] _ => (match x with
      | .tr p xe c ys => !T.sui && freB T p && decide (T.N[p]? = some nm) && decide (s.names.lookup nm = some .local) && ckGl T s id (.exc c) && ckTr n T s body xe && ckB (ckS n T.suiT s) (b0 :: suite) ys
      | .tra pre p xe c ys => (match body with
        | a1 :: body => (match a1 with | .Assign [.Name _ _] _ _ => true | _ => false) && !T.sui && freB T p && decide (T.N[p]? = some nm) && decide (s.names.lookup nm = some .local) && ckGl T s id (.exc c) && ckS n T s a1 pre && ckTr n T s body xe && ckB (ckS n T.suiT s) (b0 :: suite) ys
        | _ => false)
      | _ => false)
    | .Pass _ => (match x with | .pass => true | _ => false)
    | .Break _ => (match x with | .brk => true | _ => false)
    | .Continue _ => (match x with | .cont => true | _ => false)
    | _ => false
section
variable {g : G} {xg : XG} {Γ : Fe}
theorem ckB_ok {X : Cx} {W : WX} {f : Stmt → PL.St → Bool} (hf : ∀ s x, f s x = true → PS X s (RdS g xg Γ W x)) : ∀ {ss : List Stmt} {xs : List PL.St}, ckB f ss xs = true → PSs X ss (RdB g xg Γ W xs)
  | [], [], _ => b_nil
  | [], _ :: _, h => by cases h
  | _ :: _, [], h => by cases h
  | s :: ss, x :: xs, h => by
    unfold ckB at h
    simp only [Bool.and_eq_true] at h
    exact b_cons (hf _ _ h.1) (ckB_ok hf h.2)
theorem ckPath_ok {X : Cx} {W : WX} {T : Tab} {o s : Scope} {f : Expr → Ex → Bool} {j : Nat} (C : Cok g xg Γ X W T o s) (hf : ∀ e x, f e x = true → PE X e (RdE g xg Γ W x)) : ∀ {ps : List Pa} {e : Expr}, ckPath f T s j ps e = true → PE X e (RdP g Γ j ps.reverse)
  | [], e, h => by
    unfold ckPath at h
    split at h
    · obtain ⟨h1, h2, h3, h4⟩ := ckVar_ok C h
      exact p_var h1 h2 h3 h4
    · cases h
  | p :: ps, e, h => by
    unfold ckPath at h
    split at h
    · simp only [Bool.and_eq_true] at h
      rw [List.reverse_cons]
      exact p_ix C.hK h.1.1 (ckPath_ok C hf h.2) (hf _ _ h.1.2)
    · cases h
theorem ckNms_ok {X : Cx} {W : WX} {T : Tab} {o s : Scope} (C : Cok g xg Γ X W T o s) : ∀ {es : List Expr} {is : List Nat}, ckNms T s es is = true → NmsAt X.N X.env es is
  | [], [], _ => .nil
  | [], _ :: _, h => by cases h
  | _ :: _, [], h => by cases h
  | e :: es, i :: is, h => by
    unfold ckNms at h
    simp only [Bool.and_eq_true] at h
    obtain ⟨h0, h⟩ := h
    split at h0
    · obtain ⟨h1, h2, h3, h4⟩ := ckVar_ok C h0
      exact .cons h1 h2 h3 h4 (ckNms_ok C h)
    · cases h0
theorem ckTr_ok : ∀ (n : Nat) (T : Tab) (s : Scope) (st : List Stmt) (x : Ex) (X : Cx) (W : WX), Cok g xg Γ X W T s s → ckTr n T s st x = true → PSs X st (RdX g xg Γ W x)
  | 0, _, _, _, _, _, _, _, h => by cases h
  | n + 1, T, s, st, x, X, W, C, h => by
    unfold ckTr at h
    split at h
    · simp only [Bool.and_eq_true] at h
      exact x_ex (ckE_ok n T s s _ _ X W C h.2).pe h.1
    · split at h
      · simp only [Bool.and_eq_true] at h
        exact x_ife ((ckE_ok n T s s _ _ X W C h.1.1.2).pt h.1.1.1) (ckTr_ok n T s _ _ X W C h.1.2) (ckTr_ok n T s _ _ X W C h.2)
      · cases h
    · cases h
theorem ckS_ok : ∀ (n : Nat) (g : G) (T : Tab) (s : Scope) (st : Stmt) (x : PL.St) (X : Cx) (W : WX), Cok g xg Γ X W T s s → (T.sui = false → PassesOwn (model X.prog X.w) X.A X.env X.xe) → (T.sui = false → ∀ c, Γ.ra c = true → (∃ C, xg.XV c = .ref C ∧ RaK X.K X.mg C) ∧ Room 3 X.A) → X.stack = X.env :: X.outer → X.env.frame = some X.env.locals → s.kind = .function → ckS n T s st x = true → PS X st (RdS g xg Γ W x)
  | 0, _, _, _, _, _, _, _, _, _, _, _, _, _, h => by cases h
  | n + 1, g, T, s, st, x, X, W, C, hp, hra, hst, hfr, hk, h => by
    have ihE : ∀ e x, ckE n T s s e x = true → PE X e (RdE g xg Γ W x) := fun e x h => (ckE_ok n T s s e x X W C h).pe
    have ihT : ∀ e x, notIf e = true → ckE n T s s e x = true → PT X e (RdT g xg Γ W x) := fun e x h1 h => (ckE_ok n T s s e x X W C h).pt h1
    have ihS : ∀ st x, ckS n T s st x = true → PS X st (RdS g xg Γ W x) := fun st x h => ckS_ok n g T s st x X W C hp hra hst hfr hk h
    have hK := C.hK
    have hN : X.N.Nodup := by rw [C.hN]; exact C.nd
    have hsc := C.sc
    unfold ckS at h
    split at h
    · rename_i hd
      have : x = .dead := by cases x <;> first | rfl | cases hd
      subst this
      exact ⟨fun pins s σ H D I h => by
        obtain ⟨ρ, S, As, _, h⟩ := h
        unfold exS at h
        exact h.elim⟩
    rename_i hd0
    clear hd0
    split at h
    · -- name = e
      rename_i id p2 e pos
      split at h
      · simp only [Bool.and_eq_true, decide_eq_true_eq] at h
        obtain ⟨⟨⟨hz, h1⟩, h2⟩, h3⟩ := h
        replace hz := freB_ok C hz
        obtain ⟨f1, f2⟩ := C.fn _ h2
        rw [← C.hN] at h1
        rw [← hsc] at f1 f2
        split at h3
        · rename_i elt tg iter ifs isa scope cpos
          split at h3
          · rename_i hsw
            simp only [Bool.and_eq_true, Bool.not_eq_true'] at h3
            obtain ⟨hsu, h3⟩ := h3
            have hb : ∀ (sh : Shared) (H : Hp) (A : Addr) (cl : List (Str × Addr)) (fp : List Addr) e x, ckE n T scope (relS scope s) e x = true → Ck g xg Γ (X.blk sh H scope (compEnvC scope cl A X.env) fp) W0 e x := fun sh H A cl fp e x h => ckE_ok n T _ _ e x _ W0 (C.blk hsu sh H scope A cl fp) h
            obtain ⟨rfl, hs, hh⟩ := ckComp_ok C hsu (fb := ckE n T scope (relS scope s)) ihE (fun sh H A cl fp e x h => ⟨(hb sh H A cl fp e x h).pe, (hb sh H A cl fp e x h).pt⟩) h3
            have hyl := hsw
            unfold swB at hyl
            simp only [Bool.and_eq_true, beq_iff_eq] at hyl
            replace hyl := hyl.1.1
            have hsw2 : ∀ (elt : Expr) (gs : List Comprehension) (l : Nat), (swapsWith (.ListComp elt gs scope cpos) (some (.Name id p2)) l X.env : Sem Bool) = pure true := fun elt gs l => by rw [swB_ok (by rw [hsc]; exact hk), hsc, hsw]
            rcases hh with ⟨k, args, is, xelt, own, rfl, rfl, i1, bo, e0, hg, he⟩ | ⟨k, args, is, xelt, xcnd, cnd, own, rfl, rfl, i1, bo, e0, hg, ht, he⟩
            · exact s_asgLc hK (C.cl hsu) hN h1 (by rw [hsc]; exact hyl) (hsw2 _ _ _) i1 bo e0 hg he hs hz
            · exact s_asgLcIf hK (C.cl hsu) hN h1 (by rw [hsc]; exact hyl) (hsw2 _ _ _) i1 bo e0 hg ht he hs hz
          · rename_i hsw
            exact s_asgSw hN h1 f1 (ihE _ _ h3) (by rw [swB_ok (by rw [hsc]; exact hk), hsc, Bool.eq_false_iff.mpr hsw]) f2 hz
        · simp only [Bool.and_eq_true] at h3
          exact s_asgSw hN h1 f1 (ihE _ _ h3.2) (noSwap h3.1) f2 hz
      · split at h
        · simp only [Bool.and_eq_true, decide_eq_true_eq] at h
          obtain ⟨⟨⟨⟨⟨hz, h1⟩, h2⟩, h3⟩, h4⟩, h5⟩ := h
          obtain ⟨f1, f2⟩ := C.fn _ h2
          obtain ⟨v1, v2, v3, v4⟩ := ckVar_ok C h3
          rw [← C.hN] at h1
          rw [← hsc] at f1 f2
          exact s_chi hK hN h1 f1 f2 (freB_ok C hz) v1 v2 v3 v4 h4 (ihE _ _ h5)
        · cases h
      · cases h
    · split at h
      · simp only [Bool.and_eq_true, decide_eq_true_eq, Bool.not_eq_true'] at h
        obtain ⟨⟨⟨⟨hsu, hz⟩, h1⟩, h2⟩, h3⟩ := h
        obtain ⟨n1, n2, n3⟩ := ckNames_ok C h1
        rename_i e _ _ _ _ _
        exact s_asgs hK (C.cl hsu) n1 n2 n3 (ihE _ _ h3) (by cases e <;> rfl) (swRes_ok (by rw [hsc]; exact hk) (by rw [hsc]; exact h2)) (freBs_ok C hz)
      · split at h
        · simp only [Bool.and_eq_true, decide_eq_true_eq, Bool.not_eq_true'] at h
          obtain ⟨⟨⟨⟨⟨⟨⟨⟨⟨hsu, hz⟩, hz2⟩, h1⟩, h2⟩, h3⟩, h4⟩, h5⟩, h6⟩, h7⟩ := h
          obtain ⟨a1, a2, a3⟩ := ckList_ok ihE h7
          exact s_par (C.cl hsu) hN (by rw [C.hN]; exact h2) (by rw [C.hN]; exact h3) (by rw [hsc]; exact h4) (by rw [hsc]; exact h5) a1 h6 (swRes_ok (by rw [hsc]; exact hk) (by rw [hsc]; exact h1)) (freB_ok C hz) (freB_ok C hz2)
        · cases h
      · cases h
    · split at h
      · simp only [Bool.and_eq_true] at h
        obtain ⟨⟨⟨⟨h1, h2⟩, h3⟩, h4⟩, h5⟩ := h
        have hp := ckPath_ok C ihE h3
        rw [List.reverse_reverse] at hp
        exact s_setp C.inj h1 h2 hp (ihE _ _ h4) (ihE _ _ h5)
      · cases h
    · split at h
      · simp only [Bool.and_eq_true, decide_eq_true_eq] at h
        obtain ⟨⟨h1, h2⟩, h3⟩ := h
        have e0 := C.at_ _ _ h1
        obtain ⟨v1, v2, v3, v4⟩ := ckVar_ok C h2
        exact s_setf e0 C.inj (fun c hc => by rw [← e0]; exact C.fo c _ hc) v1 v2 v3 v4 (ihE _ _ h3)
      · simp only [Bool.and_eq_true, decide_eq_true_eq] at h
        obtain ⟨⟨h1, h2⟩, h3⟩ := h
        have e0 := C.at_ _ _ h1
        obtain ⟨v1, v2, v3, v4⟩ := ckVar_ok C h2
        exact s_setg e0 C.inj (fun c hc => by rw [← e0]; exact C.fo c _ hc) v1 v2 v3 v4 (ihE _ _ h3)
      · cases h
    · split at h
      · exact s_retN
      · cases h
    · split at h
      · exact s_ret (ihE _ _ h)
      · split at h
        · obtain ⟨h1, h2, h3, h4⟩ := ckVar_ok C h
          exact s_retv h1 h2 h3 h4
        · cases h
      · split at h
        · exact s_rett (ckNms_ok C h)
        · cases h
      · cases h
    · split at h
      · simp only [Bool.and_eq_true] at h
        exact s_ife (ihT _ _ h.1.1.1 h.1.1.2) (ckB_ok ihS h.1.2) (ckB_ok ihS h.2)
      · cases h
    · split at h
      · simp only [Bool.and_eq_true, Bool.not_eq_true'] at h
        exact s_whl (hp h.1.1.1) (ihT _ _ h.1.1.2 h.1.2) (ckB_ok ihS h.2)
      · cases h
    · split at h
      · simp only [Bool.and_eq_true, Bool.not_eq_true'] at h
        obtain ⟨⟨⟨⟨hsu, h1⟩, h2⟩, h3⟩, h4⟩ := h
        obtain ⟨i1, i2⟩ := ckI_ok C ihE h2
        exact s_fo hK (hp hsu) (C.cl hsu) i1 (ckTg_ok C hsu h3) (ckB_ok ihS h4) i2 (freBs_ok C h1)
      · cases h
    · split at h
      · split at h
        · exact s_doc
        · cases h
      · simp only [Bool.and_eq_true] at h
        exact s_ex (ihE _ _ h.2) h.1
      · split at h
        · simp only [Bool.and_eq_true, decide_eq_true_eq] at h
          obtain ⟨⟨⟨⟨⟨h1, h2⟩, h3⟩, h4⟩, h5⟩, h6⟩ := h
          have hp := ckPath_ok C ihE h5
          rw [List.reverse_reverse] at hp
          exact s_app C.inj h1 h2 h3 h4 hp (ihE _ _ h6)
        · cases h
      · split at h
        · simp only [Bool.and_eq_true, decide_eq_true_eq] at h
          obtain ⟨⟨⟨⟨⟨h1, h2⟩, h3⟩, h4⟩, h5⟩, h6⟩ := h
          have hp := ckPath_ok C ihE h5
          rw [List.reverse_reverse] at hp
          exact s_ext C.inj h1 h2 h3 h4 hp (ihE _ _ h6)
        · cases h
      · split at h
        · simp only [Bool.and_eq_true, decide_eq_true_eq] at h
          obtain ⟨⟨⟨h1, h2⟩, h3⟩, h4⟩ := h
          have hp := ckPath_ok C ihE h4
          rw [List.reverse_reverse] at hp
          exact s_clr C.inj h1 h2 h3 hp
        · cases h
      · cases h
    · split at h
      · simp only [Bool.and_eq_true, decide_eq_true_eq] at h
        obtain ⟨⟨⟨⟨hz, h0⟩, h1⟩, h2⟩, h3⟩ := h
        have e0 := opB_eq h0
        subst e0
        obtain ⟨f1, f2⟩ := C.fn _ h2
        rw [← C.hN] at h1
        rw [← hsc] at f1 f2
        exact s_aug hN h1 f1 (ihE _ _ h3) f2 (freB_ok C hz)
      · cases h
    · -- raise
      split at h
      · split at h
        · simp only [Bool.and_eq_true, Bool.not_eq_true'] at h
          obtain ⟨h1, h2⟩ := h
          obtain ⟨g1, g2, g3⟩ := ckGl_ok C h2
          exact s_raise (C := 0) (C.cl h1) C.tk g1 g2 g3 (C.rz _)
        · cases h
      · simp only [Bool.and_eq_true, Bool.not_eq_true'] at h
        obtain ⟨⟨⟨h1, h2⟩, h3⟩, h4⟩ := h
        obtain ⟨g1, g2, g3⟩ := ckGl_ok C h3
        exact s_raiseA (C.cl h1) C.tk g1 g2 g3 h2 (ihE _ _ h4) (hra h1 _)
      · cases h
    · -- try
      split at h
      · simp only [Bool.and_eq_true, Bool.not_eq_true', decide_eq_true_eq] at h
        obtain ⟨⟨⟨⟨⟨⟨hsu, h1⟩, h2⟩, h3⟩, h4⟩, h5⟩, h6⟩ := h
        obtain ⟨g1, g2, g3⟩ := ckGl_ok C h4
        refine s_try hst hfr hN (by rw [C.hN]; exact h2) (by show X.env.scope.names.lookup _ = _; rw [hsc]; exact h3) ⟨g1, g2, .inl g3⟩ C.tk (C.ex0 hsu) (freB_ok C h1) (fun i b e => ⟨C.em _ _ _ e, (C.xo.sb _ _ _ e).1⟩)
          (fun W' pn xe tk' _ => ckTr_ok n T s _ _ _ W' (C.tr hsu tk') h5) fun a oe k d pn ek hz hf => ?_
        exact ckB_ok (fun st' x' h' => ckS_ok n _ T.suiT s st' x' _ _ (C.suite hsu ek hz hf) (fun z => nomatch z) (fun z => nomatch z) hst hfr hk h') h6
      · split at h
        · rename_i a1 body
          simp only [Bool.and_eq_true, Bool.not_eq_true', decide_eq_true_eq] at h
          obtain ⟨⟨⟨⟨⟨⟨⟨⟨h0, hsu⟩, h1⟩, h2⟩, h3⟩, h4⟩, hp'⟩, h5⟩, h6⟩ := h
          obtain ⟨g1, g2, g3⟩ := ckGl_ok C h4
          refine s_tra hst hfr hN (by rw [C.hN]; exact h2) (by show X.env.scope.names.lookup _ = _; rw [hsc]; exact h3) ⟨g1, g2, .inl g3⟩ C.tk (C.ex0 hsu) (freB_ok C h1) (fun i b e => ⟨C.em _ _ _ e, (C.xo.sb _ _ _ e).1⟩)
            (fun W' pn xe tk' _ => ckTr_ok n T s _ _ _ W' (C.tr hsu tk') h5) (fun W' pn xe tk' po => ckS_ok n g T s a1 _ _ W' (C.tr hsu tk') (fun _ => po) (fun z => hra z) hst hfr hk hp') fun a oe k d pn ek hz hf => ?_
          exact ckB_ok (fun st' x' h' => ckS_ok n _ T.suiT s st' x' _ _ (C.suite hsu ek hz hf) (fun z => nomatch z) (fun z => nomatch z) hst hfr hk h') h6
        · cases h
      · cases h
    · split at h
      · exact s_pass
      · cases h
    · split at h
      · exact s_brk
      · cases h
    · split at h
      · exact s_cont
      · cases h
    · cases h
end
end PL
/-! PL16: a def of the text keeps the promise of its function. -/
namespace PL
open PySem L2 PyProof.Rows
section
variable {g : G} {xg : XG} {Γ : Fe} {P : Program} {w : World} {K : PySem.W.Frag} {mg : Str → Option Value} {base : Heap} {k : Nat} {T : Tab}
def GF0 (g : G) (xg : XG) (Γ : Fe) (P : Program) (w : World) (K : PySem.W.Frag) (mg : Str → Option Value) (base : Heap) (k : Nat) (x : Str) : GK → Prop
  | .fn i => ∃ f fd ps k', k' ≤ k ∧ FnOk P w K mg base (L2.CX P w) k' f fd ps (pSp g xg (Γ.fn i)) ∧ mg x = some (.ref f) ∧ PySem.W.keepIn K (.ref f) = true ∧ Binds K fd ps []
  | .cls c => ∃ f fd ps k', k' + 1 ≤ k ∧ FnOk P w K mg base (L2.CX P w) k' f fd ps (iSp g xg c (Γ.ma c)) ∧ mg x = some (.ref (g.CA c)) ∧ Mk K (g.CA c) f ∧ Binds K fd ps []
  | .con i => ∃ v u, mg x = some u ∧ RelV v u ∧ ∀ H S, Own g H S 0 (Γ.gl i) v []
  | .non => mg x = none
  | .exc c => mg x = some (xg.XV c)
  | .dead => True
/-- what is known of the exceptions' classes -/
structure XF (g : G) (xg : XG) (Γ : Fe) (K : PySem.W.Frag) : Prop where
  exa : g.exa = none
  sb : ∀ i j b, Γ.sub i j = some b → (∃ C, xg.XV i = .ref C ∧ ExK K C) ∧ isCl (xg.XV j) = true ∧ PySem.W.kitOne K (xg.XV i) (xg.XV j) = some b
  em : ∀ i j b, Γ.sub i j = some b → PySem.W.exmOne K (xg.XV i) (xg.XV j) = some b
  rz : ∀ c, Γ.rz c = true → ∃ C, xg.XV c = .ref C ∧ RzK K C
  xv0 : xg.XV 0 = .type "ValueError"
  xcl : ∀ c, isCl (xg.XV c) = true
def MF0 (g : G) (xg : XG) (P : Program) (w : World) (K : PySem.W.Frag) (mg : Str → Option Value) (base : Heap) (k : Nat) (c : Nat) (m : Str) (F : List D → Res) : Prop :=
  ∃ f fd ps k', k' ≤ k ∧ FnOk P w K mg base (L2.CX P w) k' f fd ps (pSp g xg F) ∧ Cls K (g.CA c) ∧ Meth K (g.CA c) m f ∧ Binds K fd ps []
/-- what is known of the module's names -/
structure Gok (g : G) (xg : XG) (Γ : Fe) (P : Program) (w : World) (K : PySem.W.Frag) (mg : Str → Option Value) (base : Heap) (k : Nat) (T : Tab) : Prop where
  hK : g.K = K
  gf : ∀ x c, T.gn.lookup x = some c → GF0 g xg Γ P w K mg base k x c
  at_ : ∀ x i, T.at_.lookup x = some i → g.AN i = x
  inj : ∀ i j, g.AN i = g.AN j → i = j
  fo : ∀ c f, Γ.fo c f = true → Cls K (g.CA c) ∧ NoAttr K (g.CA c) (g.AN f)
  me : ∀ x i, T.me.lookup x = some i → (∀ c, Γ.mh i c = true → MF0 g xg P w K mg base k c x (Γ.me i c)) ∧ ∀ k, g.AN k ≠ x
  slf : g.self = none
  sui : T.sui = false
  xf : XF g xg Γ K
  ra : ∀ c, Γ.ra c = true → (∃ C, xg.XV c = .ref C ∧ RaK K mg C) ∧ 3 ≤ k
def Tab.names (T : Tab) (N : List Str) : Tab := { T with N := N }
theorem Gok.cok (G : Gok g xg Γ P w K mg base k T) {N ps : List Str} {qual : Str} {scope : Scope} {f : Addr} {cdv : Value} {A : Around} {outer : List Env} {s : Shared} {H : Hp} {E : XK} (S : FnScope N ps scope) (hr : Room k (A.deeper (envOfC qual scope s.heap.objs.size f cdv))) :
    Cok g xg Γ (cxOf (L2.CX P w) P w K mg base N qual scope f cdv A outer s H E) (fun cls d _ H => E cls d H) (T.names N) scope scope := by
  refine ⟨G.hK, ?_, fun _ => rfl, rfl, S.nd, rfl, fun x h => ⟨locB_ok h, .inl rfl⟩, takes_of rfl rfl rfl rfl, fun x c h => ?_, G.at_, G.inj, G.fo, fun x i h => ?_, fun _ => G.slf, fun _ => G.xf.exa, (fun z => by rw [show (T.names N).sui = T.sui from rfl, G.sui] at z; cases z), ⟨fun a c dd z => (by rw [G.xf.exa] at z; cases z), G.xf.sb⟩, G.xf.em, G.xf.rz, G.xf.xv0, G.xf.xcl⟩
  · have := hr.un
    show (A.deeper _).units + 64 < cLine
    omega
  · have := G.gf x c h
    cases c with
    | fn i =>
      obtain ⟨f, fd, ps, k', hk, F, h1, h2, h3⟩ := this
      exact ⟨f, fd, ps, k', F, hr.mono hk, h1, h2, h3⟩
    | cls c =>
      obtain ⟨f, fd, ps, k', hk, F, h1, h2, h3⟩ := this
      exact ⟨f, fd, ps, k', F, hr.mono hk, h1, h2, h3⟩
    | con i => exact this
    | non => exact this
    | exc c => exact this
    | dead => exact this
  · obtain ⟨h1, h2⟩ := G.me x i h
    refine ⟨fun c hc => ?_, h2⟩
    obtain ⟨f, fd, ps, k', hk, F, h1, h2, h3⟩ := h1 c hc
    exact ⟨f, fd, ps, k', F, hr.mono hk, h1, h2, h3⟩
theorem flat_nil : ∀ {n : Nat}, (List.replicate n ([] : Fp)).flatten = []
  | 0 => rfl
  | n + 1 => by rw [List.replicate_succ, List.flatten_cons, flat_nil]; rfl
/-- the start of a body -/
theorem rep_start {H : Hp} {S : Rg} {N : List Str} (hs : g.self = none) : ∀ {ds : List PL.D} {vs : List V}, (∀ a, S a → (H a).isSome = true) → OwnL g H S 0 ds vs [] → ds.length ≤ N.length →
    Rep g H S (List.replicate N.length []) (ds.map (fun d => some ⟨d, 0, false⟩) ++ List.replicate (N.length - ds.length) none) (L2.start N vs) := fun {ds vs} sz ow hl => by
  have e := ow.length
  refine ⟨sz, ?_, ?_, fun i s h => ?_, fun i h => ?_, by rw [flat_nil]; exact List.nodup_nil, (fun a q => by rw [flat_nil] at q; cases q), fun w hw => by rw [hs] at hw; cases hw⟩
  · unfold L2.start
    simp only [List.length_append, List.length_map, List.length_replicate, e]
  · simp only [List.length_append, List.length_map, List.length_replicate]
    omega
  · have hi : i < ds.length := by
      rcases Nat.lt_or_ge i ds.length with z | z
      · exact z
      · rw [List.getElem?_append_right (by simpa using z), List.getElem?_replicate] at h
        split at h <;> cases h
    rw [List.getElem?_append_left (by simpa using hi), List.getElem?_map, List.getElem?_eq_getElem hi] at h
    simp only [Option.map_some, Option.some.injEq] at h
    subst h
    obtain ⟨v, B, h1, h2, _⟩ := ow.get (i := i) (d := ds[i]) (List.getElem?_eq_getElem hi)
    have := h2.zero
    subst this
    refine ⟨v, [], ?_, ?_, h2⟩
    · unfold L2.start
      rw [List.getElem?_append_left (by rw [List.length_map]; omega), List.getElem?_map, h1]
      rfl
    · rw [List.getElem?_replicate, if_pos (by omega)]
  · have hi : i < N.length := by
      have := (List.getElem?_eq_some_iff.mp h).1
      simp only [List.length_append, List.length_map, List.length_replicate] at this
      omega
    rw [List.getElem?_replicate, if_pos hi]
theorem fn_ok (G : Gok g xg Γ P w K mg base k T) {x qual : Str} {st : Stmt} {f : Addr} {fd : FuncData} {N ps : List Str} {xs : List PL.St} (F : Fun K x qual st f fd) (S : FnScope N ps (defScope st)) (hc : ckB (ckS 60 (T.names N) (defScope st)) (defBody st) xs = true) :
    FnOk P w K mg base (L2.CX P w) (k + 1) f fd ps (pSp g xg (runF Γ N.length ps.length xs)) := by
  have hN : ps.length ≤ N.length := by
    have := congrArg List.length S.pre
    rw [List.length_take] at this
    omega
  refine F.okX S (fun vs H Q E ⟨S0, ds, sz, ow, h⟩ => ?_) fun cdv A outer s H vs Q E hr ⟨S0, ds, sz, ow, h⟩ => ?_
  · have e := ow.length
    unfold runF at h
    split at h
    · rename_i hl
      omega
    · exact h.elim
  · refine ⟨RdB g xg Γ (fun cls d _ H => E cls d H) xs, ckB_ok (fun st' x' h' => ckS_ok 60 g (T.names N) _ st' x' _ _ (G.cok S hr) (fun _ => passes_of rfl) (fun _ c z => ⟨(G.ra c z).1, hr.mono (G.ra c z).2⟩) rfl rfl S.kind h') hc, ?_⟩
    unfold runF at h
    split at h
    · rename_i hl
      rw [← hl] at h
      have r0 := rep_start (N := N) G.slf sz ow (by omega)
      refine ⟨_, S0, _, r0, ?_⟩
      have ext : ∀ {H' : Hp}, (∀ a o, H a = some o → (a ∉ (List.replicate N.length ([] : Fp)).flatten ∨ ∃ i, Lk (ds.map (fun d => some ⟨d, 0, false⟩) ++ List.replicate (N.length - ds.length) none) (List.replicate N.length []) i a) → H' a = some o) → Ext H H' :=
        fun {H'} k a o e => k a o e (.inl (by rw [flat_nil]; simp))
      cases eo : exB Γ xs (ds.map (fun d => some ⟨d, 0, false⟩) ++ List.replicate (N.length - ds.length) none) with
      | nx ρ' =>
        rw [eo] at h
        intro σ' H' S' As' r' s'
        refine h .non H' S' [] ⟨ext s'.fr, s'.sub, fun a q => ?_, r'.sz, own_non, List.nodup_nil, fun a q => nomatch q⟩
        rcases s'.new a q with z | z | z
        · exact .inl z
        · rw [flat_nil] at z; cases z
        · exact .inr z
      | rt d n =>
        rw [eo] at h
        intro v H' S' T' k1 k2 k3 k4 k5 k6 k7 k8
        refine h v H' S' T' ⟨ext k1, k3, fun a q => ?_, k5, k6, k7, fun a q => ?_⟩
        · rcases k4 a q with z | z | z
          · exact .inl z
          · rw [flat_nil] at z; cases z
          · exact .inr z
        · refine ⟨?_, (k8 a q).1⟩
          rcases (k8 a q).2 with z | z
          · rw [flat_nil] at z; cases z
          · exact z
      | exn e =>
        rw [eo] at h
        exact fun cls dd σ' H' k1 k2 => h cls dd H' (ext k1) k2
      | bk ρ' => rw [eo] at h; exact h.elim
      | ct ρ' => rw [eo] at h; exact h.elim
      | bad => rw [eo] at h; exact h.elim
    · exact h.elim

/-! ### one def more -/
theorem mem_lookup' {α : Type} : ∀ {l : List (Str × α)} {n : Str} {c : α}, l.lookup n = some c → ∃ m, (m, c) ∈ l
  | [], _, _, h => by cases h
  | (m, d) :: l, n, c, h => by
    rw [List.lookup_cons] at h
    split at h
    · cases h; exact ⟨m, List.mem_cons_self⟩
    · obtain ⟨z, hz⟩ := mem_lookup' h
      exact ⟨z, List.mem_cons_of_mem _ hz⟩
def Fe.addFn (Γ : Fe) (i : Nat) (F : List PL.D → Res) : Fe := { Γ with fn := fun j => if j = i then F else Γ.fn j }
theorem GF0.up {x : Str} {c : GK} {k' : Nat} (hk : k ≤ k') (h : GF0 g xg Γ P w K mg base k x c) : GF0 g xg Γ P w K mg base k' x c := by
  cases c with
  | fn i => obtain ⟨f, fd, ps, j, hj, r⟩ := h; exact ⟨f, fd, ps, j, Nat.le_trans hj hk, r⟩
  | cls c => obtain ⟨f, fd, ps, j, hj, r⟩ := h; exact ⟨f, fd, ps, j, Nat.le_trans hj hk, r⟩
  | con i => exact h
  | non => exact h
  | exc c => exact h
  | dead => exact h
theorem Gok.addFn (G : Gok g xg Γ P w K mg base k T) {x : Str} {f : Addr} {fd : FuncData} {ps : List Str} {F : List PL.D → Res} (i : Nat) (hF : FnOk P w K mg base (L2.CX P w) (k + 1) f fd ps (pSp g xg F)) (hm : mg x = some (.ref f)) (hk : PySem.W.keepIn K (.ref f) = true) (hb : Binds K fd ps [])
    (hi : (T.gn.all fun p => !decide (p.2 = .fn i)) = true) : Gok g xg (Γ.addFn i F) P w K mg base (k + 1) { T with gn := (x, .fn i) :: T.gn } := by
  refine ⟨G.hK, fun y c h => ?_, G.at_, G.inj, G.fo, fun y j h => ?_, G.slf, G.sui, ⟨G.xf.exa, G.xf.sb, G.xf.em, G.xf.rz, G.xf.xv0, G.xf.xcl⟩, fun c z => ⟨(G.ra c z).1, Nat.le_succ_of_le (G.ra c z).2⟩⟩
  · have h' : List.lookup y ((x, GK.fn i) :: T.gn) = some c := h
    rw [List.lookup_cons] at h'
    split at h'
    · rename_i e
      cases h'
      obtain rfl := eq_of_beq e
      refine ⟨f, fd, ps, k + 1, Nat.le_refl _, ?_, hm, hk, hb⟩
      show FnOk P w K mg base (L2.CX P w) (k + 1) f fd ps (pSp g xg (if i = i then F else Γ.fn i))
      rw [if_pos rfl]
      exact hF
    · have h0 := (G.gf y c h').up (Nat.le_succ k)
      cases c with
      | fn j =>
        have hne : j ≠ i := fun e => by
          subst e
          obtain ⟨z, hz⟩ := mem_lookup' h'
          have := List.all_eq_true.mp hi _ hz
          simp at this
        obtain ⟨f, fd, ps, j', hj, r, r2⟩ := h0
        refine ⟨f, fd, ps, j', hj, ?_, r2⟩
        show FnOk P w K mg base (L2.CX P w) j' f fd ps (pSp g xg (if j = i then F else Γ.fn j))
        rw [if_neg hne]
        exact r
      | cls c => exact h0
      | con j => exact h0
      | non => exact h0
      | exc c => exact h0
      | dead => exact h0
  · obtain ⟨h1, h2⟩ := G.me y j h
    refine ⟨fun c hc => ?_, h2⟩
    obtain ⟨f, fd, ps, j', hj, r⟩ := h1 c hc
    exact ⟨f, fd, ps, j', Nat.le_trans hj (Nat.le_succ k), r⟩
/-- the attributes' names, and others for the numbers that stand for none -/
def anOf (l : List Str) (i : Nat) : Str := match l[i]? with
  | some x => x
  | none => ⟨Array.replicate (1000 + i) 0⟩
theorem anOf_inj {l : List Str} (h1 : l.Nodup) (h2 : (l.all fun x => decide (x.cps.size < 1000)) = true) : ∀ i j, anOf l i = anOf l j → i = j := by
  intro i j h
  unfold anOf at h
  have sm : ∀ {x : Str} {k : Nat}, l[k]? = some x → x.cps.size < 1000 := fun {x k} e => of_decide_eq_true (List.all_eq_true.mp h2 x (List.mem_of_getElem? e))
  cases ei : l[i]? with
  | some x =>
    cases ej : l[j]? with
    | some y =>
      rw [ei, ej] at h
      dsimp only at h
      subst h
      obtain ⟨hi, ei⟩ := List.getElem?_eq_some_iff.mp ei
      obtain ⟨hj, ej⟩ := List.getElem?_eq_some_iff.mp ej
      exact (List.getElem_inj h1).mp (ei.trans ej.symm)
    | none =>
      rw [ei, ej] at h
      dsimp only at h
      have := sm ei
      rw [h] at this
      simp at this
      omega
  | none =>
    cases ej : l[j]? with
    | some y =>
      rw [ei, ej] at h
      dsimp only at h
      have := sm ej
      rw [← h] at this
      simp at this
      omega
    | none =>
      rw [ei, ej] at h
      dsimp only at h
      have := congrArg (fun x : Str => x.cps.size) h
      simp at this
      omega
theorem Gok.first (hK : g.K = K) (inj : ∀ i j, g.AN i = g.AN j → i = j) (hfo : ∀ c f, Γ.fo c f = true → False) (hs : g.self = none) (xf : XF g xg Γ K) (hra : ∀ c, Γ.ra c = true → False) : Gok g xg Γ P w K mg base 0 { N := [], gn := [], at_ := [], me := [] } :=
  ⟨hK, (fun _ _ h => nomatch h), (fun _ _ h => nomatch h), inj, (fun c f h => (hfo c f h).elim), (fun _ _ h => nomatch h), hs, rfl, xf, fun c h => (hra c h).elim⟩
theorem Gok.addC (G : Gok g xg Γ P w K mg base k T) {x : Str} {c : GK} (h : GF0 g xg Γ P w K mg base k x c) : Gok g xg Γ P w K mg base k { T with gn := (x, c) :: T.gn } := by
  refine ⟨G.hK, fun y c' h' => ?_, G.at_, G.inj, G.fo, G.me, G.slf, G.sui, G.xf, G.ra⟩
  have h'' : List.lookup y ((x, c) :: T.gn) = some c' := h'
  rw [List.lookup_cons] at h''
  split at h''
  · rename_i e
    cases h''
    obtain rfl := eq_of_beq e
    exact h
  · exact G.gf y c' h''
/-- a tuple of ints that the module's top has made -/
theorem con_tup {g : G} {H : Hp} {S : Rg} {K : PySem.W.Frag} {a : Addr} {od : Option Addr} {its : Array Value} {n : Nat} {sl : Array (Option Value)} {ns : List Int} (hK : g.K = K) (h : K.lookup a = some ⟨.type "tuple", od, .seq its n, sl⟩) (hz : its.size ≤ sizeLine) (hv : Vals (ns.map V.int) its.toList) :
    Own g H S 0 (.tup (ns.map PL.D.int)) (.ref a) [] := by
  subst hK
  refine own_tup (xs := ns.map V.int) (.inr ⟨_, its, n, h, rfl, rfl, hz, hv⟩) ?_
  clear hv
  induction ns with
  | nil => unfold OwnL; exact ⟨rfl, rfl⟩
  | cons k ns ih => exact OwnL.cons (A := []) (B := []) own_int ih
theorem Gok.addNon (G : Gok g xg Γ P w K mg base k T) {x : Str} (h : mg x = none) : Gok g xg Γ P w K mg base k { T with gn := (x, .non) :: T.gn } := G.addC h
end
end PL
/-! PL17: the law. -/
namespace PL
open PySem L2 PyProof.Rows
def lI (ns : List Int) : List D := ns.map D.int
/-- the written part has no list -/
def noLst (K : PySem.W.Frag) : Bool := K.all fun p => match p.2.cls with
  | .type t => !(t == "list")
  | _ => true
theorem noLst_no : ∀ {K : PySem.W.Frag}, noLst K = true → ∀ {a : Addr} {o : Obj}, K.lookup a = some o → o.cls = .type "list" → False
  | [], _, _, _, h, _ => by cases h
  | (b, p) :: K, hn, a, o, h, hc => by
    unfold noLst at hn
    rw [List.all_cons, Bool.and_eq_true] at hn
    rw [List.lookup_cons] at h
    split at h
    · cases h
      have := hn.1
      dsimp only at this
      rw [hc] at this
      simp at this
    · exact noLst_no (K := K) hn.2 h hc
theorem own_ints {g : G} {H : Hp} {S : Rg} : ∀ ns : List Int, OwnL g H S 0 (lI ns) (ns.map V.int) []
  | [] => OwnL.nil
  | n :: ns => OwnL.cons (A := []) (B := []) own_int (own_ints ns)
theorem log2_of_bits {z : Int} (h : Builtin.Int.intBits z ≤ 1048576) : z.natAbs.log2 < 1048576 := by
  unfold Builtin.Int.intBits at h
  split at h
  · rename_i e
    have : z = 0 := by simpa using e
    subst this
    decide
  · omega
theorem law_walk {l : PySem.W.OpenLaw} {n k : Nat} {q : Program} {loose : List Str} {XP : (Str → Option Value) → Heap → Prop} {YP : World → Heap → Prop} {d : DefRec} {K : Params → PySem.W.Frag} {x : Str} {F : List D → Res}
    (hn : l.most = some n) (hn2 : n ≤ 63) (hdf : d.params.defaults = []) (hr : Room k callerA) (hY : ∀ (w : World) (h : Heap), YP w h → (K w.params).In h) (hK : ∀ p, noLst (K p) = true)
    (hF : ∀ ns : List Int, ns.length ≤ 63 → (∀ z ∈ ns, z.natAbs.log2 < 1048576) → ∃ m, F [.lst (lI ns)] = .ok (.bl true) m)
    (hO : ∀ (w : World) (mg : Str → Option Value) (fa : Addr) (h : Heap), (K w.params).In h → h.Ns mainGlobals mg → mg d.name = some (.ref fa) →
      ∃ (g : G) (xg : XG) (fd : FuncData), g.K = K w.params ∧ (∀ (s : Shared) (u : Value), BindsTo s fd ⟨[u], []⟩ [(x, u)]) ∧
        ∀ base : Heap, (K w.params).In base → base.Ns mainGlobals mg → FnOk l.prog w (K w.params) mg base (L2.CX l.prog w) k fa fd [x] (pSp g xg F)) :
    PySem.W.WalkO q loose XP YP l.row.toRowW d [] (fun f vs => PySem.call f vs) := by
  refine walk_ofB (n := n) (k := k) (x := x) (CX := fun w => L2.CX l.prog w) (sp := fun w vs H Q E => ∀ (g : G) (xg : XG), g.K = K w.params → pSp g xg F vs H Q E) hn (Nat.le_trans hn2 (by decide)) hdf hr hY
    (fun w mg fa h KX G hmg => ?_) (fun w H a ns hl hb _ hS g xg hg => ?_) (fun w H s e s' h => ?_)
  · obtain ⟨g, xg, fd, e, hb, hf⟩ := hO w mg fa h KX G hmg
    exact ⟨fd, hb, fun base h1 h2 => (hf base h1 h2).imp fun vs H Q E q => q g xg e⟩
  · obtain ⟨m, e⟩ := hF ns (Nat.le_trans hl hn2) fun z hz => log2_of_bits (hb z hz)
    have hRd : Rd H a (.lst (ns.map V.int)) := by
      rcases hS with h | ⟨o, its, n, h1, h2, _⟩
      · exact h
      · exact (noLst_no (hK _) h1 h2).elim
    refine ⟨fun b => b = a, [.lst (lI ns)], fun b hb => ?_, OwnL.one (by unfold Own; exact ⟨a, _, rfl, rfl, hRd, own_ints ns⟩), ?_⟩
    · have : b = a := hb
      subst this
      rcases hRd with h | ⟨o, h⟩ <;> (rw [h]; rfl)
    · rw [e]
      exact fun v H' S' T o => own_bl_v o.own
  · obtain ⟨_, _, _, _, _, _, _, _, _, _, _, _, z⟩ := h
    exact z.elim
end PL
/-! PL18: rows for simp: what the small language does, one shape each. -/
namespace PL
open PySem L2
section
variable (Γ : Fe) (δ : Ev) (ρ : En)
/-! ### expressions -/
@[simp] theorem ev_var (i : Nat) : evE Γ (.var i) δ = match δ[i]? with | some (some d) => .ok d 0 | _ => .bad := by first | rfl | rw [evE] | rw [evL]
@[simp] theorem ev_con (d : D) : evE Γ (.con d) δ = .ok d 0 := by first | rfl | rw [evE] | rw [evL]
@[simp] theorem ev_glo (k : Nat) : evE Γ (.glo k) δ = .ok (Γ.gl k) 0 := by first | rfl | rw [evE] | rw [evL]
@[simp] theorem ev_bin (o : Bop) (a b : Ex) : evE Γ (.bin o a b) δ = (evE Γ a δ).bind fun x => (evE Γ b δ).bind fun y => binD o x y := by first | rfl | rw [evE] | rw [evL]
def negD (x : D) : Res := match x with | .int i => .ok (.int (-i)) 0 | _ => .bad
@[simp] theorem ev_neg (a : Ex) : evE Γ (.neg a) δ = (evE Γ a δ).bind negD := by first | rfl | rw [evE] | rw [evL]
@[simp] theorem negD_int (i : Int) : negD (.int i) = .ok (.int (-i)) 0 := rfl
@[simp] theorem ev_cmp (o : Cop) (a b : Ex) : evE Γ (.cmp o a b) δ = (evE Γ a δ).bind fun x => (evE Γ b δ).bind fun y => cmpD o x y := by first | rfl | rw [evE] | rw [evL]
def chnD (k : D) (r : Res) : Res := match k with
    | .bl true => r
    | .bl false => .ok (.bl false) 0
    | _ => .bad
@[simp] theorem chnD_bl (b : Bool) (r : Res) : chnD (.bl b) r = if b then r else .ok (.bl false) 0 := by cases b <;> rfl
@[simp] theorem ev_cmp2 (o p : Cop) (a b c : Ex) : evE Γ (.cmp2 o p a b c) δ = (evE Γ a δ).bind fun x => (evE Γ b δ).bind fun y => (cmpD o x y).bind fun k => chnD k ((evE Γ c δ).bind fun z => cmpD p y z) := rfl
@[simp] theorem ev_cmp3 (o p q : Cop) (a b c d : Ex) : evE Γ (.cmp3 o p q a b c d) δ = (evE Γ a δ).bind fun x => (evE Γ b δ).bind fun y => (cmpD o x y).bind fun k => chnD k ((evE Γ c δ).bind fun z => (cmpD p y z).bind fun k2 => chnD k2 ((evE Γ d δ).bind fun u => cmpD q z u)) := rfl
@[simp] theorem ev_lrng1 (a : Ex) : evE Γ (.lrng1 a) δ = (evE Γ a δ).bind fun x => lrngD (.int 0) x := by first | rfl | rw [evE]
@[simp] theorem ev_lrng (a b : Ex) : evE Γ (.lrng a b) δ = (evE Γ a δ).bind fun x => (evE Γ b δ).bind fun y => lrngD x y := by first | rfl | rw [evE]
@[simp] theorem ev_dct0 : evE Γ .dct0 δ = .ok (.dct [] []) 9 := by first | rfl | rw [evE]
@[simp] theorem lrngD_int (i j : Int) : lrngD (.int i) (.int j) = if smallI i && smallI j && decide ((j - i).toNat ≤ szLine) then .ok (.lst (rngD i (j - i).toNat)) 10 else .bad := rfl
def andD (x : D) (r : Res) : Res := match x with | .bl true => r | .bl false => .ok (.bl false) 0 | _ => .bad
def orD (x : D) (r : Res) : Res := match x with | .bl true => .ok (.bl true) 0 | .bl false => r | _ => .bad
def notD (x : D) : Res := match x with | .bl c => .ok (.bl (!c)) 0 | _ => .bad
@[simp] theorem andD_t (r : Res) : andD (.bl true) r = r := rfl
@[simp] theorem andD_f (r : Res) : andD (.bl false) r = .ok (.bl false) 0 := rfl
@[simp] theorem orD_t (r : Res) : orD (.bl true) r = .ok (.bl true) 0 := rfl
@[simp] theorem orD_f (r : Res) : orD (.bl false) r = r := rfl
@[simp] theorem szLine_num : szLine = 16777216 := rfl
@[simp] theorem andD_bl (b : Bool) (r : Res) : andD (.bl b) r = if b then r else .ok (.bl false) 0 := by cases b <;> rfl
@[simp] theorem orD_bl (b : Bool) (r : Res) : orD (.bl b) r = if b then .ok (.bl true) 0 else r := by cases b <;> rfl
@[simp] theorem notD_bl (b : Bool) : notD (.bl b) = .ok (.bl (!b)) 0 := rfl
@[simp] theorem ev_and (a b : Ex) : evE Γ (.and a b) δ = (evE Γ a δ).bind fun x => andD x (evE Γ b δ) := by first | rfl | rw [evE] | rw [evL]
@[simp] theorem ev_or (a b : Ex) : evE Γ (.or a b) δ = (evE Γ a δ).bind fun x => orD x (evE Γ b δ) := by first | rfl | rw [evE] | rw [evL]
@[simp] theorem ev_not (a : Ex) : evE Γ (.not a) δ = (evE Γ a δ).bind notD := by first | rfl | rw [evE] | rw [evL]
@[simp] theorem ev_ife (c a b : Ex) : evE Γ (.ife c a b) δ = ((evE Γ c δ).bindT truD).bind fun k => if k then evE Γ a δ else evE Γ b δ := by first | rfl | rw [evE] | rw [evL]
@[simp] theorem ev_ix (a b : Ex) : evE Γ (.ix a b) δ = (evE Γ a δ).bind fun x => (evE Γ b δ).bind fun y => ixD x y := by first | rfl | rw [evE] | rw [evL]
@[simp] theorem ev_sl (a lo hi : Ex) : evE Γ (.sl a lo hi) δ = (evE Γ a δ).bind fun x => optI (if lo.isOmit then none else some (evE Γ lo δ)) fun l => optI (if hi.isOmit then none else some (evE Γ hi δ)) fun h => slD x l h := by first | rfl | rw [evE] | rw [evL]
@[simp] theorem ev_fld (a : Ex) (f : Nat) : evE Γ (.fld a f) δ = (evE Γ a δ).bind fun x => fldD Γ.fo f x := by first | rfl | rw [evE] | rw [evL]
@[simp] theorem ev_isE (a : Ex) (cs : List Nat) : evE Γ (.isE a cs) δ = (evE Γ a δ).bind fun x => isED Γ.sub cs x := by first | rfl | rw [evE] | rw [evL]
@[simp] theorem ev_atE (a : Ex) : evE Γ (.atE a) δ = (evE Γ a δ).bind fun x => atED x := by first | rfl | rw [evE] | rw [evL]
@[simp] theorem isED_exc (f : Nat → Nat → Option Bool) (cs : List Nat) (c : Nat) (vs : List D) : isED f cs (.exc c vs) = match anyS (f c) cs with | some b => .ok (.bl b) 0 | none => .bad := rfl
@[simp] theorem anyS_nil (f : Nat → Option Bool) : anyS f [] = some false := rfl
@[simp] theorem anyS_cons (f : Nat → Option Bool) (c : Nat) (cs : List Nat) : anyS f (c :: cs) = match f c with | some true => some true | some false => anyS f cs | none => none := rfl
@[simp] theorem atED_exc (c : Nat) (d : D) : atED (.exc c [d]) = .ok d 0 := rfl
@[simp] theorem ev_isi (a : Ex) (t : Ty) : evE Γ (.isi a t) δ = (evE Γ a δ).bind fun x => isiD t x := by first | rfl | rw [evE] | rw [evL]
@[simp] theorem ev_call (f : Nat) (es : List Ex) : evE Γ (.call f es) δ = (evL Γ es δ).bind fun l => Γ.fn f l := by first | rfl | rw [evE] | rw [evL]
def methD (Γ : Fe) (m : Nat) (x : D) (r : RL) : Res := match x with
    | .obj c ks vs => if Γ.mh m c then r.bind fun l => Γ.me m c (.obj c ks vs :: l) else .bad
    | _ => .bad
@[simp] theorem ev_meth (m : Nat) (a : Ex) (es : List Ex) : evE Γ (.meth m a es) δ = (evE Γ a δ).bind fun x => methD Γ m x (evL Γ es δ) := by first | rfl | rw [evE] | rw [evL]
@[simp] theorem ev_mk (c : Nat) (es : List Ex) : evE Γ (.mk c es) δ = (evL Γ es δ).bind fun l => Γ.ma c l := by first | rfl | rw [evE] | rw [evL]
@[simp] theorem ev_bi (b : Bi) (es : List Ex) : evE Γ (.bi b es) δ = (evL Γ es δ).bind fun l => biD b l := by first | rfl | rw [evE] | rw [evL]
def bmR (m : Bm) (x : D) (r : RL) : Res := match x with
    | .lst d => r.bind fun l => bmD m d l
    | _ => .bad
@[simp] theorem ev_bm (m : Bm) (a : Ex) (es : List Ex) : evE Γ (.bm m a es) δ = (evE Γ a δ).bind fun x => bmR m x (evL Γ es δ) := by first | rfl | rw [evE] | rw [evL]
@[simp] theorem bmR_lst (m : Bm) (d : List D) (r : RL) : bmR m (.lst d) r = r.bind fun l => bmD m d l := rfl
@[simp] theorem ev_tup (es : List Ex) : evE Γ (.tup es) δ = (evL Γ es δ).bindN newT := by first | rfl | rw [evE] | rw [evL]
@[simp] theorem ev_lst (es : List Ex) : evE Γ (.lst es) δ = (evL Γ es δ).bindN newL := by first | rfl | rw [evE] | rw [evL]
def compD (k : SK) (l : List D) (f : List D → RL) : Res := match items k l with
    | none => .bad
    | some xs => (f xs).bindN newL
@[simp] theorem ev_comp (k : SK) (args : List Ex) (tg : List Nat) (elt : Ex) : evE Γ (.comp k args tg elt) δ = (evL Γ args δ).bind fun l => compD k l fun xs => compL tg (evE Γ elt) (fun _ => .ok true) xs (wipeE δ tg) := by first | rfl | rw [evE] | rw [evL]
@[simp] theorem ev_compIf (k : SK) (args : List Ex) (tg : List Nat) (elt cond : Ex) : evE Γ (.compIf k args tg elt cond) δ = (evL Γ args δ).bind fun l => compD k l fun xs => compL tg (evE Γ elt) (fun δ => evT Γ cond δ) xs (wipeE δ tg) := by first | rfl | rw [evE] | rw [evL]
@[simp] theorem evL_nil : evL Γ [] δ = .ok [] := by first | rfl | rw [evE] | rw [evL]
def consR (r : Res) (q : RL) : RL := match r with
    | .ok d n => match q with
      | .ok l => .ok ((d, n) :: l)
      | .exn x => .exn x
      | .bad => .bad
    | .exn x => .exn x
    | .bad => .bad
@[simp] theorem evL_cons (e : Ex) (es : List Ex) : evL Γ (e :: es) δ = consR (evE Γ e δ) (evL Γ es δ) := by first | rfl | rw [evE] | rw [evL]
@[simp] theorem consR_ok (d : D) (n : Nat) (l : List (D × Nat)) : consR (.ok d n) (.ok l) = .ok ((d, n) :: l) := rfl
@[simp] theorem evT_eq (e : Ex) : evT Γ e δ = (evE Γ e δ).bindT truD := rfl
end
/-! ### operations -/
section
variable (i j : Int)
@[simp] theorem bin_add : binD .add (.int i) (.int j) = .ok (.int (i + j)) 0 := rfl
@[simp] theorem bin_sub : binD .sub (.int i) (.int j) = .ok (.int (i - j)) 0 := rfl
@[simp] theorem bin_mul : binD .mul (.int i) (.int j) = if mulOk i j then .ok (.int (i * j)) 0 else .bad := rfl
@[simp] theorem bin_fdiv : binD .fdiv (.int i) (.int j) = if divOk j then .ok (.int (i.fdiv j)) 0 else .bad := rfl
@[simp] theorem bin_mod : binD .mod (.int i) (.int j) = if j = 0 then .bad else .ok (.int (i.fmod j)) 0 := by
  show (if decide (j ≠ 0) then _ else _) = _
  by_cases h : j = 0 <;> simp [h]
@[simp] theorem bin_pow : binD .pow (.int i) (.int j) = if powOk i j then .ok (.int (i ^ j.toNat)) 0 else .bad := rfl
@[simp] theorem bin_addL (a b : List D) : binD .add (.lst a) (.lst b) = if decide (a.length + b.length ≤ szLine) then .ok (.lst (a ++ b)) 1 else .bad := rfl
@[simp] theorem bin_addT (a b : List D) : binD .add (.tup a) (.tup b) = if decide (a.length + b.length ≤ szLine) then .ok (.tup (a ++ b)) 0 else .bad := rfl
@[simp] theorem bin_mulL (a : List D) (k : Int) : binD .mul (.lst a) (.int k) = if smallI k && decide (a.length * k.toNat ≤ szLine) then .ok (.lst (List.replicate k.toNat a).flatten) 1 else .bad := rfl
@[simp] theorem bin_mulT (a : List D) (k : Int) : binD .mul (.tup a) (.int k) = if !a.isEmpty && decide (2 ≤ k) && decide (k ≤ 1000) && decide (a.length ≤ 1000) then .ok (.tup (List.replicate k.toNat a).flatten) 0 else .bad := rfl
@[simp] theorem ix_lst (l : List D) (k : Int) : ixD (.lst l) (.int k) = atD l k := rfl
@[simp] theorem ix_tup (l : List D) (k : Int) : ixD (.tup l) (.int k) = atD l k := rfl
theorem atD_nat (l : List D) (k : Nat) : atD l (k : Int) = match l[k]? with | some d => .ok d 0 | none => .bad := by
  unfold atD atI ixN
  rw [if_pos (by omega)]
  by_cases h : k < l.length
  · rw [if_pos (by omega)]
    show (match l[(k : Int).toNat]? with | some d => Res.ok d 0 | none => .bad) = _
    rw [Int.toNat_natCast]
  · rw [if_neg (by omega), List.getElem?_eq_none (by omega)]
    rfl
@[simp] theorem atD_0 (l : List D) : atD l 0 = match l[0]? with | some d => .ok d 0 | none => .bad := atD_nat l 0
@[simp] theorem atD_1 (l : List D) : atD l 1 = match l[1]? with | some d => .ok d 0 | none => .bad := atD_nat l 1
@[simp] theorem atD_2 (l : List D) : atD l 2 = match l[2]? with | some d => .ok d 0 | none => .bad := atD_nat l 2
@[simp] theorem atD_3 (l : List D) : atD l 3 = match l[3]? with | some d => .ok d 0 | none => .bad := atD_nat l 3
@[simp] theorem atD_4 (l : List D) : atD l 4 = match l[4]? with | some d => .ok d 0 | none => .bad := atD_nat l 4
@[simp] theorem cmp_lt : cmpD .lt (.int i) (.int j) = .ok (.bl (decide (i < j))) 0 := rfl
@[simp] theorem cmp_le : cmpD .le (.int i) (.int j) = .ok (.bl (decide (i ≤ j))) 0 := rfl
@[simp] theorem cmp_gt : cmpD .gt (.int i) (.int j) = .ok (.bl (decide (j < i))) 0 := rfl
@[simp] theorem cmp_ge : cmpD .ge (.int i) (.int j) = .ok (.bl (decide (j ≤ i))) 0 := rfl
@[simp] theorem cmp_eq (x y : D) : cmpD .eq x y = if shp 60 x && shp 60 y then .ok (.bl (eqD x y)) 0 else .bad := by unfold cmpD; rfl
@[simp] theorem cmp_ne (x y : D) : cmpD .ne x y = if shp 60 x && shp 60 y then .ok (.bl (!eqD x y)) 0 else .bad := by unfold cmpD; rfl
@[simp] theorem cmp_isN (x : D) : cmpD .isN x .non = .ok (.bl x.isNon) 0 := by unfold cmpD; rfl
@[simp] theorem cmp_notN (x : D) : cmpD .notN x .non = .ok (.bl (!x.isNon)) 0 := by unfold cmpD; rfl
@[simp] theorem cmp_isB (a b : Bool) : cmpD .isN (.bl a) (.bl b) = .ok (.bl (decide (a = b))) 0 := rfl
@[simp] theorem cmp_notB (a b : Bool) : cmpD .notN (.bl a) (.bl b) = .ok (.bl (!decide (a = b))) 0 := rfl
@[simp] theorem isNon_non : D.non.isNon = true := rfl
@[simp] theorem isNon_int : (D.int i).isNon = false := rfl
@[simp] theorem isNon_tup (l : List D) : (D.tup l).isNon = false := rfl
@[simp] theorem isNon_lst (l : List D) : (D.lst l).isNon = false := rfl
@[simp] theorem isNon_obj (c : Nat) (k : List Nat) (l : List D) : (D.obj c k l).isNon = false := rfl
@[simp] theorem shp_int (n : Nat) : shp n (.int i) = true := by unfold shp; rfl
@[simp] theorem shp_bl (n : Nat) (b : Bool) : shp n (.bl b) = true := by unfold shp; rfl
@[simp] theorem shp_non (n : Nat) : shp n .non = true := by unfold shp; rfl
@[simp] theorem eq_int : eqD (.int i) (.int j) = decide (i = j) := by unfold eqD; rfl
@[simp] theorem eq_bl (a b : Bool) : eqD (.bl a) (.bl b) = (a == b) := by unfold eqD; rfl
@[simp] theorem tru_bl (b : Bool) : truD (.bl b) = .ok b := rfl
@[simp] theorem tru_int : truD (.int i) = .ok (i != 0) := rfl
@[simp] theorem tru_non : truD .non = .ok false := rfl
@[simp] theorem tru_lst (l : List D) : truD (.lst l) = .ok (!l.isEmpty) := rfl
@[simp] theorem tru_tup (l : List D) : truD (.tup l) = .ok (!l.isEmpty) := rfl
@[simp] theorem imm_int (n : Nat) : immB n (.int i) = true := by cases n <;> (unfold immB; rfl)
@[simp] theorem imm_bl (n : Nat) (b : Bool) : immB n (.bl b) = true := by cases n <;> (unfold immB; rfl)
@[simp] theorem imm_non (n : Nat) : immB n .non = true := by cases n <;> (unfold immB; rfl)
@[simp] theorem imm_str (n : Nat) (s : Str) : immB n (.str s) = true := by cases n <;> (unfold immB; rfl)
@[simp] theorem imm_tup (n : Nat) (l : List D) : immB n (.tup l) = immBL n l := by cases n <;> (unfold immB; rfl)
@[simp] theorem immL_nil (n : Nat) : immBL n [] = true := by unfold immBL; rfl
@[simp] theorem immL_cons (n : Nat) (d : D) (l : List D) : immBL n (d :: l) = (immB n d && immBL n l) := by rw [immBL]
@[simp] theorem isi_int_int : isiD .int (.int i) = .ok (.bl true) 0 := rfl
@[simp] theorem isi_int_bl (b : Bool) : isiD .int (.bl b) = .ok (.bl true) 0 := rfl
@[simp] theorem isi_bool_bl (b : Bool) : isiD .bool (.bl b) = .ok (.bl true) 0 := rfl
@[simp] theorem isi_bool_int : isiD .bool (.int i) = .ok (.bl false) 0 := rfl
@[simp] theorem isi_tuple_tup (l : List D) : isiD .tuple (.tup l) = .ok (.bl true) 0 := rfl
@[simp] theorem isi_list_lst (l : List D) : isiD .list (.lst l) = .ok (.bl true) 0 := rfl
@[simp] theorem isi_tuple_int : isiD .tuple (.int i) = .ok (.bl false) 0 := rfl
@[simp] theorem isi_list_int : isiD .list (.int i) = .ok (.bl false) 0 := rfl
@[simp] theorem isi_int_tup (l : List D) : isiD .int (.tup l) = .ok (.bl false) 0 := rfl
@[simp] theorem isi_int_lst (l : List D) : isiD .int (.lst l) = .ok (.bl false) 0 := rfl
@[simp] theorem isi_tuple_lst (l : List D) : isiD .tuple (.lst l) = .ok (.bl false) 0 := rfl
@[simp] theorem isi_list_tup (l : List D) : isiD .list (.tup l) = .ok (.bl false) 0 := rfl
@[simp] theorem isi_bool_tup (l : List D) : isiD .bool (.tup l) = .ok (.bl false) 0 := rfl
@[simp] theorem isi_bool_lst (l : List D) : isiD .bool (.lst l) = .ok (.bl false) 0 := rfl
@[simp] theorem bi_len (l : List D) : biD .len [.lst l] = .ok (.int (l.length : Nat)) 0 := rfl
@[simp] theorem bi_lenT (l : List D) : biD .len [.tup l] = .ok (.int (l.length : Nat)) 0 := rfl
@[simp] theorem bi_abs : biD .abs [.int i] = .ok (.int (if i < 0 then -i else i)) 0 := rfl
@[simp] theorem bi_max2 : biD .max2 [.int i, .int j] = .ok (.int (if j > i then j else i)) 0 := rfl
@[simp] theorem bi_min2 : biD .min2 [.int i, .int j] = .ok (.int (if j < i then j else i)) 0 := rfl
@[simp] theorem bi_list (l : List D) : biD .list [.lst l] = .ok (.lst l) 1 := rfl
@[simp] theorem bi_listT (l : List D) : biD .list [.tup l] = .ok (.lst l) 1 := rfl
@[simp] theorem bi_tuple (l : List D) : biD .tuple [.lst l] = .ok (.tup l) 0 := rfl
@[simp] theorem bi_tupleT (l : List D) : biD .tuple [.tup l] = .ok (.tup l) 0 := rfl
@[simp] theorem bi_intI : biD .int [.int i] = .ok (.int i) 0 := rfl
@[simp] theorem bi_intB (b : Bool) : biD .int [.bl b] = .ok (.int (if b then 1 else 0)) 0 := rfl
theorem unI_lI : ∀ ns : List Int, unI (lI ns) = some ns
  | [] => rfl
  | n :: ns => by
    show (unI (lI ns)).map (n :: ·) = _
    rw [unI_lI ns]
    rfl
@[simp] theorem bi_sumI (ns : List Int) : biD .sum [.lst (lI ns)] = .ok (.int ns.sum) 0 := by
  show (match unI (lI ns) with | some ns => Res.ok (.int ns.sum) 0 | none => .bad) = _
  rw [unI_lI]
@[simp] theorem bi_sumT (ns : List Int) : biD .sum [.tup (lI ns)] = .ok (.int ns.sum) 0 := by
  show (match unI (lI ns) with | some ns => Res.ok (.int ns.sum) 0 | none => .bad) = _
  rw [unI_lI]
@[simp] theorem bi_max1 (n : Int) (ns : List Int) : biD .max1 [.lst (lI (n :: ns))] = .ok (.int (ns.foldl max n)) 0 := by
  show (match unI (lI (n :: ns)) with | some (n :: ns) => Res.ok (.int (ns.foldl max n)) 0 | _ => .bad) = _
  rw [unI_lI]
@[simp] theorem bi_min1 (n : Int) (ns : List Int) : biD .min1 [.lst (lI (n :: ns))] = .ok (.int (ns.foldl min n)) 0 := by
  show (match unI (lI (n :: ns)) with | some (n :: ns) => Res.ok (.int (ns.foldl min n)) 0 | _ => .bad) = _
  rw [unI_lI]
@[simp] theorem bi_reprI : biD .repr [.int i] = if decide (i.natAbs.log2 < 1920) then .ok (.str (toString i)) 0 else .bad := rfl
@[simp] theorem bi_reprN : biD .repr [.non] = .ok (.str "None") 0 := rfl
theorem unB_lB : ∀ ns : List Bool, unB (ns.map D.bl) = some ns
  | [] => rfl
  | n :: ns => by
    show (unB (ns.map D.bl)).map (n :: ·) = _
    rw [unB_lB ns]
    rfl
@[simp] theorem bi_allB (ns : List Bool) : biD .all [.lst (ns.map D.bl)] = .ok (.bl (ns.all id)) 0 := by
  show (match unB (ns.map D.bl) with | some ns => Res.ok (.bl (ns.all id)) 0 | none => .bad) = _
  rw [unB_lB]
@[simp] theorem bi_anyB (ns : List Bool) : biD .any [.lst (ns.map D.bl)] = .ok (.bl (ns.any id)) 0 := by
  show (match unB (ns.map D.bl) with | some ns => Res.ok (.bl (ns.any id)) 0 | none => .bad) = _
  rw [unB_lB]
theorem flat_lI (ns : List Int) : (lI ns).all flatD = true := by simp [lI, flatD]
theorem cnt_lI (i : Int) : ∀ ns : List Int, (lI ns).countP (fun e => eqD e (.int i)) = ns.count i
  | [] => rfl
  | n :: ns => by
    show (D.int n :: lI ns).countP _ = _
    rw [List.countP_cons, cnt_lI i ns, List.count_cons]
    congr 1
@[simp] theorem bm_count (ns : List Int) : bmD .count (lI ns) [.int i] = .ok (.int (ns.count i : Nat)) 0 := by
  show (if (lI ns).all flatD && flatD (.int i) then _ else _) = _
  rw [flat_lI, cnt_lI]
  rfl
theorem inD_lI : ∀ ns : List Int, inD (.int i) (lI ns) = decide (i ∈ ns)
  | [] => rfl
  | n :: ns => by
    show (eqD (.int n) (.int i) || inD (.int i) (lI ns)) = _
    rw [inD_lI ns]
    unfold eqD
    by_cases h : n = i
    · subst h; simp
    · have h' : ¬ i = n := fun e => h e.symm
      simp [h, h']
@[simp] theorem cmp_inI (ns : List Int) : cmpD .isin (.int i) (.lst (lI ns)) = .ok (.bl (decide (i ∈ ns))) 0 := by
  show (if flatD (.int i) && (lI ns).all flatD then Res.ok (.bl (inD (.int i) (lI ns))) 0 else .bad) = _
  rw [flat_lI, inD_lI]
  rfl
@[simp] theorem cmp_ninI (ns : List Int) : cmpD .notin (.int i) (.lst (lI ns)) = .ok (.bl (!decide (i ∈ ns))) 0 := by
  show (if flatD (.int i) && (lI ns).all flatD then Res.ok (.bl (!inD (.int i) (lI ns))) 0 else .bad) = _
  rw [flat_lI, inD_lI]
  rfl
@[simp] theorem sl_lst (l : List D) (lo hi : Option Int) : slD (.lst l) lo hi = .ok (.lst (cutD l lo hi)) 1 := rfl
@[simp] theorem sl_tup (l : List D) (lo hi : Option Int) : slD (.tup l) lo hi = .ok (.tup (cutD l lo hi)) 0 := rfl
@[simp] theorem optI_none (f : Option Int → Res) : optI none f = f none := rfl
@[simp] theorem optI_some (n : Nat) (f : Option Int → Res) : optI (some (.ok (.int i) n)) f = f (some i) := rfl
@[simp] theorem omit_omit : Ex.omit.isOmit = true := rfl
@[simp] theorem omit_var (k : Nat) : (Ex.var k).isOmit = false := rfl
@[simp] theorem omit_con (d : D) : (Ex.con d).isOmit = false := rfl
@[simp] theorem omit_bin (o : Bop) (a b : Ex) : (Ex.bin o a b).isOmit = false := rfl
@[simp] theorem omit_neg (a : Ex) : (Ex.neg a).isOmit = false := rfl
@[simp] theorem omit_ix (a b : Ex) : (Ex.ix a b).isOmit = false := rfl
@[simp] theorem omit_bi (b : Bi) (l : List Ex) : (Ex.bi b l).isOmit = false := rfl
@[simp] theorem omit_call (b : Nat) (l : List Ex) : (Ex.call b l).isOmit = false := rfl
end
/-- the usual cut -/
theorem cut_to (l : List D) (k : Nat) : cutD l none (some (k : Int)) = l.take k := by
  unfold cutD
  rw [HT.sIx_nat]
  show (l.drop 0).take (min k l.length - 0) = l.take k
  rw [List.drop_zero, Nat.sub_zero]
  by_cases h : k ≤ l.length
  · rw [Nat.min_eq_left h]
  · rw [Nat.min_eq_right (by omega), List.take_of_length_le (Nat.le_refl _), List.take_of_length_le (by omega)]
@[simp] theorem fn_add (Γ : Fe) (i j : Nat) (F : List D → Res) : (Γ.addFn i F).fn j = if j = i then F else Γ.fn j := rfl
end PL
/-! PL19: rows for simp: statements; loops by an invariant. -/
namespace PL
open PySem L2
section
variable (Γ : Fe) (ρ : En)
@[simp] theorem viewA_nil : viewA [] = [] := rfl
@[simp] theorem viewA_some (d : D) (n : Nat) (b : Bool) (ρ : En) : viewA (some ⟨d, n, b⟩ :: ρ) = some d :: viewA ρ := rfl
@[simp] theorem viewA_slot (s : Sl) (ρ : En) : viewA (some s :: ρ) = some s.d :: viewA ρ := rfl
@[simp] theorem viewA_none (ρ : En) : viewA (none :: ρ) = none :: viewA ρ := rfl
@[simp] theorem viewF_nil (l : List Nat) (k : Nat) : viewF l k [] = [] := rfl
@[simp] theorem viewF_z (l : List Nat) (k : Nat) (d : D) (b : Bool) (ρ : En) : viewF l k (some ⟨d, 0, b⟩ :: ρ) = some d :: viewF l (k + 1) ρ := by
  show (if (0 : Nat) = 0 ∨ l.contains k = true then some d else none) :: _ = _
  rw [if_pos (.inl rfl)]
theorem viewF_c (l : List Nat) (k : Nat) (s : Sl) (ρ : En) : viewF l k (some s :: ρ) = (if s.n = 0 ∨ l.contains k then some s.d else none) :: viewF l (k + 1) ρ := rfl
@[simp] theorem viewF_some (l : List Nat) (k : Nat) (d : D) (n : Nat) (b : Bool) (ρ : En) : viewF l k (some ⟨d, n, b⟩ :: ρ) = (if n = 0 ∨ l.contains k then some d else none) :: viewF l (k + 1) ρ := rfl
@[simp] theorem viewF_none (l : List Nat) (k : Nat) (ρ : En) : viewF l k (none :: ρ) = none :: viewF l (k + 1) ρ := rfl
@[simp] theorem frzs_nil (l : List Nat) (k : Nat) : frzs l k [] = [] := rfl
@[simp] theorem frzs_some (l : List Nat) (k : Nat) (d : D) (n : Nat) (b : Bool) (ρ : En) : frzs l k (some ⟨d, n, b⟩ :: ρ) = some ⟨d, if l.contains k then 0 else n, b⟩ :: frzs l (k + 1) ρ := by
  show (if l.contains k = true then some (Sl.mk d 0 b) else some ⟨d, n, b⟩) :: _ = _
  split <;> rfl
@[simp] theorem frzs_none (l : List Nat) (k : Nat) (ρ : En) : frzs l k (none :: ρ) = none :: frzs l (k + 1) ρ := rfl
@[simp] theorem locks_nil (l : List Nat) (v : Bool) (k : Nat) : locks l v k [] = [] := rfl
@[simp] theorem locks_some (l : List Nat) (v : Bool) (k : Nat) (d : D) (n : Nat) (b : Bool) (ρ : En) : locks l v k (some ⟨d, n, b⟩ :: ρ) = some ⟨d, n, if l.contains k then v else b⟩ :: locks l v (k + 1) ρ := by
  show (if l.contains k = true then some (Sl.mk d n v) else some ⟨d, n, b⟩) :: _ = _
  split <;> rfl
@[simp] theorem locks_none (l : List Nat) (v : Bool) (k : Nat) (ρ : En) : locks l v k (none :: ρ) = none :: locks l v (k + 1) ρ := rfl
def immP (r : Res) (ρ : En) : OP := match r with
    | .ok d n => if immB n d then .ok d n ρ else .bad
    | .exn x => .exn x
    | .bad => .bad
def fzP (r : Res) (ρ : En) : OP := match r with
    | .ok d n => .ok d n ρ
    | .exn x => .exn x
    | .bad => .bad
@[simp] theorem evP_imm (e : Ex) : evP Γ e .imm ρ = immP (evE Γ e (viewA ρ)) ρ := by unfold evP immP; rfl
@[simp] theorem evP_fz (e : Ex) (l : List Nat) : evP Γ e (.fz l) ρ = fzP (evE Γ e (viewF l 0 ρ)) (frzs l 0 ρ) := by unfold evP fzP; rfl
@[simp] theorem immP_ok (d : D) (n : Nat) : immP (.ok d n) ρ = if immB n d then .ok d n ρ else .bad := rfl
@[simp] theorem immP_exn (x : Exn) : immP (.exn x) ρ = .exn x := rfl
@[simp] theorem fzP_ok (d : D) (n : Nat) : fzP (.ok d n) ρ = .ok d n ρ := rfl
@[simp] theorem fzP_exn (x : Exn) : fzP (.exn x) ρ = .exn x := rfl
@[simp] theorem OP.bind_exn (x : Exn) (f : D → Nat → En → OS) : (OP.exn x).bind f = .exn x := rfl
@[simp] theorem putS_eq (i : Nat) (d : D) (n : Nat) : putS i d n ρ = if lockedAt i ρ then .bad else .nx (ρ.set i (some ⟨d, n, false⟩)) := rfl
@[simp] theorem locked_0n (ρ : En) : lockedAt 0 (none :: ρ) = false := rfl
@[simp] theorem locked_0 (d : D) (n : Nat) (b : Bool) (ρ : En) : lockedAt 0 (some ⟨d, n, b⟩ :: ρ) = b := rfl
@[simp] theorem locked_0s (s : Sl) (ρ : En) : lockedAt 0 (some s :: ρ) = s.lk := rfl
@[simp] theorem locked_s (i : Nat) (o : Option Sl) (ρ : En) : lockedAt (i + 1) (o :: ρ) = lockedAt i ρ := rfl
def lkO : Option Sl → Bool
  | none => false
  | some s => s.lk
@[simp] theorem lkO_none : lkO none = false := rfl
@[simp] theorem lkO_some (s : Sl) : lkO (some s) = s.lk := rfl
@[simp] theorem locked_0o (o : Option Sl) (ρ : En) : lockedAt 0 (o :: ρ) = lkO o := by cases o <;> rfl
@[simp] theorem viewA_cons (o : Option Sl) (ρ : En) : viewA (o :: ρ) = o.map Sl.d :: viewA ρ := rfl
theorem locked_num (i : Nat) [h : NeZero i] (o : Option Sl) (ρ : En) : lockedAt i (o :: ρ) = lockedAt (i - 1) ρ := by
  obtain ⟨j, rfl⟩ : ∃ j, i = j + 1 := ⟨i - 1, by have := h.out; omega⟩
  rfl
@[simp] theorem locked_1 (o : Option Sl) (ρ : En) : lockedAt 1 (o :: ρ) = lockedAt 0 ρ := rfl
@[simp] theorem locked_2 (o : Option Sl) (ρ : En) : lockedAt 2 (o :: ρ) = lockedAt 1 ρ := rfl
@[simp] theorem locked_3 (o : Option Sl) (ρ : En) : lockedAt 3 (o :: ρ) = lockedAt 2 ρ := rfl
@[simp] theorem locked_4 (o : Option Sl) (ρ : En) : lockedAt 4 (o :: ρ) = lockedAt 3 ρ := rfl
@[simp] theorem locked_5 (o : Option Sl) (ρ : En) : lockedAt 5 (o :: ρ) = lockedAt 4 ρ := rfl
@[simp] theorem locked_6 (o : Option Sl) (ρ : En) : lockedAt 6 (o :: ρ) = lockedAt 5 ρ := rfl
@[simp] theorem locked_7 (o : Option Sl) (ρ : En) : lockedAt 7 (o :: ρ) = lockedAt 6 ρ := rfl
@[simp] theorem locked_8 (o : Option Sl) (ρ : En) : lockedAt 8 (o :: ρ) = lockedAt 7 ρ := rfl
@[simp] theorem locked_9 (o : Option Sl) (ρ : En) : lockedAt 9 (o :: ρ) = lockedAt 8 ρ := rfl
@[simp] theorem locked_10 (o : Option Sl) (ρ : En) : lockedAt 10 (o :: ρ) = lockedAt 9 ρ := rfl
@[simp] theorem locked_11 (o : Option Sl) (ρ : En) : lockedAt 11 (o :: ρ) = lockedAt 10 ρ := rfl
@[simp] theorem locked_12 (o : Option Sl) (ρ : En) : lockedAt 12 (o :: ρ) = lockedAt 11 ρ := rfl

/-! ### statements -/
@[simp] theorem exB_nil : exB Γ [] ρ = .nx ρ := by unfold exB; rfl
@[simp] theorem exB_cons (s : St) (ss : List St) : exB Γ (s :: ss) ρ = (exS Γ s ρ).seq (exB Γ ss) := by rw [exB]
@[simp] theorem ex_asg (i : Nat) (e : Ex) (f : Fz) : exS Γ (.asg i e f) ρ = (evP Γ e f ρ).bind fun d n ρ1 => putS i d n ρ1 := by rw [exS]
def unpS (tg : List Nat) (d : D) (ρ1 : En) : OS := match d with
    | .tup l => (match bindS tg l ρ1 with | some ρ2 => .nx ρ2 | none => .bad)
    | .lst l => (match bindS tg l ρ1 with | some ρ2 => .nx ρ2 | none => .bad)
    | _ => .bad
@[simp] theorem ex_asgs (tg : List Nat) (e : Ex) (f : Fz) : exS Γ (.asgs tg e f) ρ = (evP Γ e f ρ).bind fun d n ρ1 => unpS tg d ρ1 := by rw [exS]; congr 1
@[simp] theorem unpS_tup (tg : List Nat) (l : List D) (ρ1 : En) : unpS tg (.tup l) ρ1 = match bindS tg l ρ1 with | some ρ2 => .nx ρ2 | none => .bad := rfl
@[simp] theorem unpS_lst (tg : List Nat) (l : List D) (ρ1 : En) : unpS tg (.lst l) ρ1 = match bindS tg l ρ1 with | some ρ2 => .nx ρ2 | none => .bad := rfl
@[simp] theorem bindS_nil : bindS [] [] ρ = some ρ := rfl
@[simp] theorem bindS_cons (i : Nat) (is : List Nat) (d : D) (ds : List D) : bindS (i :: is) (d :: ds) ρ = if lockedAt i ρ then none else bindS is ds (ρ.set i (some ⟨d, 0, false⟩)) := rfl
def parS (i j : Nat) (r : RL) (ρ : En) : OS := match r with
    | .ok [(d1, n1), (d2, n2)] => if immB n1 d1 && immB n2 d2 && decide (i ≠ j) then (putS i d1 n1 ρ).seq (putS j d2 n2) else .bad
    | .exn x => .exn x
    | _ => .bad
@[simp] theorem ex_par (i j : Nat) (a b : Ex) : exS Γ (.par i j a b) ρ = parS i j (evL Γ [a, b] (viewA ρ)) ρ := by rw [exS]; unfold parS; rfl
@[simp] theorem parS_ok (i j : Nat) (d1 d2 : D) (n1 n2 : Nat) : parS i j (.ok [(d1, n1), (d2, n2)]) ρ = if immB n1 d1 && immB n2 d2 && decide (i ≠ j) then (putS i d1 n1 ρ).seq (putS j d2 n2) else .bad := rfl
def retS (r : Res) : OS := match r with
    | .ok d n => .rt d n
    | .exn x => .exn x
    | .bad => .bad
@[simp] theorem retS_ok (d : D) (n : Nat) : retS (.ok d n) = .rt d n := rfl
@[simp] theorem retS_exn (x : Exn) : retS (.exn x) = .exn x := rfl
@[simp] theorem ex_ret (e : Ex) : exS Γ (.ret e) ρ = retS (evE Γ e (viewA ρ)) := by rw [exS]; unfold retS; rfl
@[simp] theorem ex_retv (i : Nat) : exS Γ (.retv i) ρ = match ρ[i]? with
    | some (some s) => .rt s.d s.n
    | _ => .bad := by first | (rw [exS]; done) | (rw [exS]; rfl)
@[simp] theorem ex_rett (l : List Nat) : exS Γ (.rett l) ρ = if decide l.Nodup && decide (l.length ≤ szLine) then (match slotsN ρ l with
      | some ds => .rt (.tup (ds.map (·.1))) (dep ds)
      | none => .bad) else .bad := by first | (rw [exS]; done) | (rw [exS]; rfl)
@[simp] theorem slotsN_nil : slotsN ρ [] = some [] := rfl
@[simp] theorem slotsN_cons (i : Nat) (is : List Nat) : slotsN ρ (i :: is) = match ρ[i]? with
    | some (some s) => (slotsN ρ is).map ((s.d, s.n) :: ·)
    | _ => none := rfl
@[simp] theorem ex_retN : exS Γ .retN ρ = .rt .non 0 := by rw [exS]
def iteS (r : RT) (a b : OS) : OS := match r with
    | .ok true => a
    | .ok false => b
    | .exn x => .exn x
    | .bad => .bad
@[simp] theorem iteS_ok (b : Bool) (x y : OS) : iteS (.ok b) x y = if b then x else y := by cases b <;> rfl
@[simp] theorem iteS_exn (e : Exn) (x y : OS) : iteS (.exn e) x y = .exn e := rfl
@[simp] theorem ex_ife (c : Ex) (a b : List St) : exS Γ (.ife c a b) ρ = iteS (evT Γ c (viewA ρ)) (exB Γ a ρ) (exB Γ b ρ) := by rw [exS]; unfold iteS; rfl
@[simp] theorem ex_whl (c : Ex) (b : List St) : exS Γ (.whl c b) ρ = whlC (fun ρ => evT Γ c (viewA ρ)) (exB Γ b) ρ := by rw [exS]
def exD (r : Res) (ρ : En) : OS := match r with
    | .ok _ _ => .nx ρ
    | .exn x => .exn x
    | .bad => .bad
@[simp] theorem exD_ok (d : D) (n : Nat) : exD (.ok d n) ρ = .nx ρ := rfl
@[simp] theorem exD_exn (x : Exn) : exD (.exn x) ρ = .exn x := rfl
@[simp] theorem ex_ex (e : Ex) : exS Γ (.ex e) ρ = exD (evE Γ e (viewA ρ)) ρ := by rw [exS]; unfold exD; rfl
@[simp] theorem ex_raise0 (c : Nat) : exS Γ (.raise c none) ρ = if Γ.rz c then .exn ⟨c, none⟩ else .bad := by rw [exS]
def raS (c : Nat) (r : Res) : OS := match r with
    | .ok d _ => if flatD d then .exn ⟨c, some d⟩ else .bad
    | .exn x => .exn x
    | .bad => .bad
@[simp] theorem raS_ok (c : Nat) (d : D) (n : Nat) : raS c (.ok d n) = if flatD d then .exn ⟨c, some d⟩ else .bad := rfl
@[simp] theorem raS_exn (c : Nat) (x : Exn) : raS c (.exn x) = .exn x := rfl
@[simp] theorem flatD_int (i : Int) : flatD (.int i) = true := rfl
@[simp] theorem ex_raise1 (c : Nat) (e : Ex) : exS Γ (.raise c (some e)) ρ = if Γ.ra c then raS c (evE Γ e (viewA ρ)) else .bad := by
  rw [exS]
  unfold raS
  rfl
def trS (r : Res) (k : Exn → OS) (ρ : En) : OS := match r with
    | .ok _ _ => .nx ρ
    | .exn x => k x
    | .bad => .bad
@[simp] theorem trS_ok (d : D) (n : Nat) (k : Exn → OS) : trS (.ok d n) k ρ = .nx ρ := rfl
@[simp] theorem trS_exn (x : Exn) (k : Exn → OS) : trS (.exn x) k ρ = k x := rfl
def trX (r : Option Bool) (a b : OS) : OS := match r with
    | some true => a
    | some false => b
    | none => .bad
@[simp] theorem trX_t (a b : OS) : trX (some true) a b = a := rfl
@[simp] theorem trX_f (a b : OS) : trX (some false) a b = b := rfl
def prS (o : OS) (k : En → OS) : OS := match o with
    | .nx ρ => k ρ
    | _ => .bad
@[simp] theorem prS_nx (ρ : En) (k : En → OS) : prS (.nx ρ) k = k ρ := rfl
@[simp] theorem ex_tr (p c : Nat) (e : Ex) (b : List St) : exS Γ (.tr p e c b) ρ = trS (evE Γ e (viewA ρ)) (fun x => trX (Γ.sub x.c c) (if lockedAt p ρ || !decide (p < ρ.length) then .bad else outS p (exB Γ b (ρ.set p (some ⟨.exc x.c x.a.toList, 0, false⟩)))) (.exn x)) ρ := by
  rw [exS]
  unfold trS trX
  rfl
@[simp] theorem ex_tra (pre : St) (p c : Nat) (e : Ex) (b : List St) : exS Γ (.tra pre p e c b) ρ = prS (exS Γ pre ρ) fun ρ => exS Γ (.tr p e c b) ρ := by
  rw [exS]
  unfold prS
  cases exS Γ pre ρ <;> first | rfl | (rw [exS])
@[simp] theorem outS_nx (p : Nat) : outS p (.nx ρ) = if (ρ.set p none).all nExO && !lockedAt p ρ then .nx (ρ.set p none) else .bad := rfl
@[simp] theorem outS_rt (p : Nat) (d : D) (n : Nat) : outS p (.rt d n) = if nEx d then .rt d n else .bad := rfl
@[simp] theorem nExO_none : nExO none = true := rfl
@[simp] theorem nExO_some (s : Sl) : nExO (some s) = nEx s.d := rfl
@[simp] theorem nEx_int (i : Int) : nEx (.int i) = true := by unfold nEx; rfl
@[simp] theorem nEx_bl (i : Bool) : nEx (.bl i) = true := by unfold nEx; rfl
@[simp] theorem nEx_str (i : Str) : nEx (.str i) = true := by unfold nEx; rfl
@[simp] theorem nEx_non : nEx .non = true := by unfold nEx; rfl
@[simp] theorem nEx_tup (l : List D) : nEx (.tup l) = nExL l := by rw [nEx]
@[simp] theorem nEx_lst (l : List D) : nEx (.lst l) = nExL l := by rw [nEx]
@[simp] theorem nEx_obj (c : Nat) (k : List Nat) (l : List D) : nEx (.obj c k l) = nExL l := by rw [nEx]
@[simp] theorem nExL_nil : nExL [] = true := by unfold nExL; rfl
@[simp] theorem nExL_cons (d : D) (l : List D) : nExL (d :: l) = (nEx d && nExL l) := by rw [nExL]
theorem nExL_all : ∀ {l : List D}, (∀ d ∈ l, nEx d = true) → nExL l = true
  | [], _ => nExL_nil
  | d :: l, h => by rw [nExL_cons, h d List.mem_cons_self, nExL_all fun x hx => h x (List.mem_cons_of_mem _ hx)]; rfl
@[simp] theorem nExL_lI (l : List Int) : nExL (lI l) = true := nExL_all fun d hd => by
  unfold lI at hd
  obtain ⟨i, _, rfl⟩ := List.mem_map.mp hd
  exact nEx_int i
@[simp] theorem ex_pass : exS Γ .pass ρ = .nx ρ := by rw [exS]
@[simp] theorem ex_brk : exS Γ .brk ρ = .bk ρ := by rw [exS]
@[simp] theorem ex_cont : exS Γ .cont ρ = .ct ρ := by rw [exS]
def itS (k : SK) (r : RL) (f : List D → OS) : OS := match r with
      | .ok l => (match items k (l.map (·.1)) with
        | some xs => f xs
        | none => .bad)
      | .exn x => .exn x
      | .bad => .bad
@[simp] theorem itS_ok (k : SK) (l : List (D × Nat)) (f : List D → OS) : itS k (.ok l) f = match items k (l.map (·.1)) with | some xs => f xs | none => .bad := rfl
@[simp] theorem ex_foR1 (args : List Ex) (tg lk : List Nat) (f : Fz) (b : List St) : exS Γ (.fo .rng1 args tg lk f b) ρ = itS .rng1 (evL Γ args (viewA ρ)) fun xs => forS tg (exB Γ b) xs ρ := by cases f <;> (rw [exS]; unfold itS; rfl)
@[simp] theorem ex_foR2 (args : List Ex) (tg lk : List Nat) (f : Fz) (b : List St) : exS Γ (.fo .rng2 args tg lk f b) ρ = itS .rng2 (evL Γ args (viewA ρ)) fun xs => forS tg (exB Γ b) xs ρ := by cases f <;> (rw [exS]; unfold itS; rfl)
@[simp] theorem ex_foR3 (args : List Ex) (tg lk : List Nat) (f : Fz) (b : List St) : exS Γ (.fo .rng3 args tg lk f b) ρ = itS .rng3 (evL Γ args (viewA ρ)) fun xs => forS tg (exB Γ b) xs ρ := by cases f <;> (rw [exS]; unfold itS; rfl)
@[simp] theorem ex_foF (k : SK) (hk : k.isRng = false) (args : List Ex) (tg lk q : List Nat) (b : List St) : exS Γ (.fo k args tg lk (.fz q) b) ρ = itS k (evL Γ args (viewF q 0 ρ)) fun xs => forS tg (exB Γ b) xs (frzs q 0 ρ) := by
  rw [exS]
  rw [hk]
  unfold itS
  rfl
@[simp] theorem ex_foI (k : SK) (hk : k.isRng = false) (args : List Ex) (tg lk : List Nat) (b : List St) : exS Γ (.fo k args tg lk .imm b) ρ = itS k (evL Γ args (viewF lk 0 ρ)) fun xs => if immBL 0 xs && !anyLocked lk ρ then (forS tg (exB Γ b) xs (locks lk true 0 ρ)).unlock lk else .bad := by
  rw [exS]
  rw [hk]
  unfold itS
  rfl
@[simp] theorem ex_foSq (args : List Ex) (tg lk q : List Nat) (b : List St) : exS Γ (.fo .seq args tg lk (.fz q) b) ρ = itS .seq (evL Γ args (viewF q 0 ρ)) fun xs => forS tg (exB Γ b) xs (frzs q 0 ρ) := ex_foF Γ ρ .seq rfl args tg lk q b
@[simp] theorem ex_foEn (args : List Ex) (tg lk q : List Nat) (b : List St) : exS Γ (.fo .enum args tg lk (.fz q) b) ρ = itS .enum (evL Γ args (viewF q 0 ρ)) fun xs => forS tg (exB Γ b) xs (frzs q 0 ρ) := ex_foF Γ ρ .enum rfl args tg lk q b
@[simp] theorem ex_foZi (args : List Ex) (tg lk q : List Nat) (b : List St) : exS Γ (.fo .zip args tg lk (.fz q) b) ρ = itS .zip (evL Γ args (viewF q 0 ρ)) fun xs => forS tg (exB Γ b) xs (frzs q 0 ρ) := ex_foF Γ ρ .zip rfl args tg lk q b
@[simp] theorem ex_foSqI (args : List Ex) (tg lk : List Nat) (b : List St) : exS Γ (.fo .seq args tg lk .imm b) ρ = itS .seq (evL Γ args (viewF lk 0 ρ)) fun xs => if immBL 0 xs && !anyLocked lk ρ then (forS tg (exB Γ b) xs (locks lk true 0 ρ)).unlock lk else .bad := ex_foI Γ ρ .seq rfl args tg lk b
@[simp] theorem rng_seq : SK.seq.isRng = false := rfl
@[simp] theorem rng_enum : SK.enum.isRng = false := rfl
@[simp] theorem rng_zip : SK.zip.isRng = false := rfl
@[simp] theorem items_seqL (l : List D) : items .seq [.lst l] = some l := rfl
@[simp] theorem items_seqT (l : List D) : items .seq [.tup l] = some l := rfl
@[simp] theorem items_rng1 (j : Int) : items .rng1 [.int j] = if smallI j then some (rngD 0 j.toNat) else none := rfl
@[simp] theorem items_rng2 (i j : Int) : items .rng2 [.int i, .int j] = if smallI i && smallI j then some (rngD i (j - i).toNat) else none := rfl
@[simp] theorem items_enum (l : List D) : items .enum [.lst l] = some (l.zipIdx.map fun p => .tup [.int (p.2 : Nat), p.1]) := rfl
@[simp] theorem items_zip (a b : List D) : items .zip [.lst a, .lst b] = some ((a.zip b).map fun p => .tup [p.1, p.2]) := rfl
@[simp] theorem takeS_one (i : Nat) (d : D) : takeS [i] d ρ = if lockedAt i ρ then none else some (ρ.set i (some ⟨d, 0, false⟩)) := by unfold takeS; rfl
@[simp] theorem takeS_two (i j : Nat) (l : List Nat) (ds : List D) : takeS (i :: j :: l) (.tup ds) ρ = bindS (i :: j :: l) ds ρ := by unfold takeS; rfl
@[simp] theorem takeE_one (i : Nat) (d : D) (δ : Ev) : takeE [i] d δ = some (δ.set i (some d)) := by unfold takeE; rfl
@[simp] theorem takeE_two (i j : Nat) (l : List Nat) (ds : List D) (δ : Ev) : takeE (i :: j :: l) (.tup ds) δ = bindE (i :: j :: l) ds δ := by unfold takeE; rfl
@[simp] theorem bindE_nil (δ : Ev) : bindE [] [] δ = some δ := rfl
@[simp] theorem bindE_cons (i : Nat) (is : List Nat) (d : D) (ds : List D) (δ : Ev) : bindE (i :: is) (d :: ds) δ = bindE is ds (δ.set i (some d)) := rfl
@[simp] theorem wipeE_nil (δ : Ev) : wipeE δ [] = δ := rfl
@[simp] theorem wipeE_cons (δ : Ev) (v : Nat) (vs : List Nat) : wipeE δ (v :: vs) = (wipeE δ vs).set v none := rfl
end
@[simp] theorem newL_eq (l : List (D × Nat)) : newL l = if decide (l.length ≤ szLine) then .ok (.lst (l.map (·.1))) (dep l + 1) else .bad := rfl
@[simp] theorem newT_eq (l : List (D × Nat)) : newT l = if decide (l.length ≤ szLine) then .ok (.tup (l.map (·.1))) (dep l) else .bad := rfl
@[simp] theorem dep_nil : dep [] = 9 := rfl
@[simp] theorem dep_cons (d : D) (n : Nat) (l : List (D × Nat)) : dep ((d, n) :: l) = if immB n d then dep l else min n (dep l) := rfl
/-- what a def answers -/
def endF (o : OS) : Res := match o with
    | .nx _ => .ok .non 0
    | .rt d n => .ok d n
    | .exn e => .exn e
    | _ => .bad
@[simp] theorem endF_nx (ρ : En) : endF (.nx ρ) = .ok .non 0 := rfl
@[simp] theorem endF_rt (d : D) (n : Nat) : endF (.rt d n) = .ok d n := rfl
@[simp] theorem endF_exn (e : Exn) : endF (.exn e) = .exn e := rfl
@[simp] theorem runF_eq (Γ : Fe) (slots np : Nat) (b : List St) (ds : List D) : runF Γ slots np b ds = if ds.length = np then endF (exB Γ b (ds.map (fun d => some ⟨d, 0, false⟩) ++ List.replicate (slots - np) none)) else .bad := by unfold runF endF; rfl

/-! ### changes of lists -/
section
variable (Γ : Fe) (ρ : En)
@[simp] theorem evPs_nil (δ : Ev) : evPs Γ δ [] = some [] := rfl
def ixP (r : Res) (q : Option (List PS1)) : Option (List PS1) := match r with
    | .ok (.int k) _ => q.map (.ix k :: ·)
    | _ => none
@[simp] theorem ixP_ok (k : Int) (n : Nat) (q : List PS1) : ixP (.ok (.int k) n) (some q) = some (.ix k :: q) := rfl
@[simp] theorem evPs_ix (δ : Ev) (e : Ex) (ps : List Pa) : evPs Γ δ (.ix e :: ps) = ixP (evE Γ e δ) (evPs Γ δ ps) := by rw [evPs]; unfold ixP; rfl
def appS (j : Nat) (qs : Option (List PS1)) (r : List PS1 → OS) (ρ : En) : OS := match qs with
    | some qs => if pathOk j qs ρ then r qs else .bad
    | none => .bad
@[simp] theorem appS_some (j : Nat) (qs : List PS1) (r : List PS1 → OS) : appS j (some qs) r ρ = if pathOk j qs ρ then r qs else .bad := rfl
@[simp] theorem ex_app (j : Nat) (ps : List Pa) (e : Ex) (f : Fz) : exS Γ (.app j ps e f) ρ = appS j (evPs Γ (viewA ρ) ps) (fun qs => (evP Γ e f ρ).bind fun d n ρ1 => mutS j qs d n (fun l => if decide (l.length < szLine) then some (l ++ [d]) else none) ρ1) ρ := by rw [exS]; unfold appS; rfl
def extS (j : Nat) (qs : List PS1) (r : Res) (ρ : En) : OS := match r with
      | .ok (.lst l2) _ => if l2.all flatD then mutS j qs .non 0 (fun l => if decide (l.length + l2.length ≤ szLine) then some (l ++ l2) else none) ρ else .bad
      | .exn x => .exn x
      | _ => .bad
@[simp] theorem ex_ext (j : Nat) (ps : List Pa) (e : Ex) : exS Γ (.ext j ps e) ρ = appS j (evPs Γ (viewA ρ) ps) (fun qs => extS j qs (evE Γ e (viewA ρ)) ρ) ρ := by rw [exS]; unfold appS extS; rfl
@[simp] theorem extS_ok (j n : Nat) (qs : List PS1) (l2 : List D) : extS j qs (.ok (.lst l2) n) ρ = if l2.all flatD then mutS j qs .non 0 (fun l => if decide (l.length + l2.length ≤ szLine) then some (l ++ l2) else none) ρ else .bad := rfl
@[simp] theorem ex_clr (j : Nat) (ps : List Pa) : exS Γ (.clr j ps) ρ = appS j (evPs Γ (viewA ρ) ps) (fun qs => mutS j qs .non 0 (fun _ => some []) ρ) ρ := by rw [exS]; unfold appS; rfl
theorem ex_setg (j a : Nat) (e : Ex) : exS Γ (.setg j a e) ρ = match ρ[j]? with
    | some (some ⟨.obj c ks vs, n + 1, lk⟩) => (match evE Γ e (viewF [j] 0 ρ) with
      | .ok d _ => if !lk && nObj d && Γ.fo c a && decide (ks.length < 1000) then
          .nx (ρ.set j (some ⟨if ks.contains a then .obj c ks (putF1 a d ks vs) else .obj c (ks ++ [a]) (vs ++ [d]), 1, false⟩)) else .bad
      | .exn x => .exn x
      | .bad => .bad)
    | _ => .bad := by first | (rw [exS]; done) | (rw [exS]; rfl)
theorem ex_chi (i j : Nat) (e : Ex) : exS Γ (.chi i j e) ρ = match ρ[j]? with
    | some (some ⟨.lst l, n + 1, lk⟩) => (match evE Γ e (viewA ρ) with
      | .ok (.int k) _ => (match atI l k with
        | some d => if lk || decide (i = j) then .bad else putS i d 0 (ρ.set j (some ⟨.lst l, 1, false⟩))
        | none => .bad)
      | _ => .bad)
    | _ => .bad := by first | (rw [exS]; done) | (rw [exS]; rfl)
def augS (i : Nat) (a : Int) (r : Res) (ρ : En) : OS := match r with
        | .ok (.int b) _ => putS i (.int (a + b)) 0 ρ
        | .exn x => .exn x
        | _ => .bad
@[simp] theorem augS_ok (i n : Nat) (a b : Int) : augS i a (.ok (.int b) n) ρ = putS i (.int (a + b)) 0 ρ := rfl
@[simp] theorem ex_aug (i : Nat) (e : Ex) : exS Γ (.aug i e) ρ = match ρ[i]? with
    | some (some s) => (match s.d with
      | .int a => augS i a (evE Γ e (viewA ρ)) ρ
      | _ => .bad)
    | _ => .bad := by rw [exS]; unfold augS; rfl
def setS (j : Nat) (qs : Option (List PS1)) (d : D) (n : Nat) (ρ1 : En) : OS := match qs with
    | some qs => match qs.getLast? with
      | some (.ix k) => mutS j qs.dropLast d n (fun l => match ixN l.length k with | some m => some (l.set m d) | none => none) ρ1
      | _ => .bad
    | none => .bad
@[simp] theorem setS_one (j : Nat) (k : Int) (d : D) (n : Nat) : setS j (some [.ix k]) d n ρ = mutS j [] d n (fun l => match ixN l.length k with | some m => some (l.set m d) | none => none) ρ := rfl
@[simp] theorem setS_two (j : Nat) (k k2 : Int) (d : D) (n : Nat) : setS j (some [.ix k, .ix k2]) d n ρ = mutS j [.ix k] d n (fun l => match ixN l.length k2 with | some m => some (l.set m d) | none => none) ρ := rfl
@[simp] theorem setS_three (j : Nat) (k k2 k3 : Int) (d : D) (n : Nat) : setS j (some [.ix k, .ix k2, .ix k3]) d n ρ = mutS j [.ix k, .ix k2] d n (fun l => match ixN l.length k3 with | some m => some (l.set m d) | none => none) ρ := rfl
@[simp] theorem ex_setp (j : Nat) (ps : List Pa) (i e : Ex) (f : Fz) : exS Γ (.setp j ps i e f) ρ = (evP Γ e f ρ).bind fun d n ρ1 => setS j (evPs Γ (viewA ρ1) (ps ++ [.ix i])) d n ρ1 := by rw [exS]; unfold setS; rfl
@[simp] theorem ex_setf (j a : Nat) (e : Ex) (f : Fz) : exS Γ (.setf j a e f) ρ = (evP Γ e f ρ).bind fun d n ρ1 => setA Γ.fo j a d n ρ1 := by rw [exS]
theorem setA_eq (fo : Nat → Nat → Bool) (j a : Nat) (v : D) (n : Nat) : setA fo j a v n ρ =
  match ρ[j]? with
  | some (some s) => if s.lk then .bad else match s.d with
    | .obj c ks vs => if fo c a && decide (0 < s.n) && decide (ks.length < 1000) then
        .nx (ρ.set j (some ⟨if ks.contains a then .obj c ks (putF1 a v ks vs) else .obj c (ks ++ [a]) (vs ++ [v]), if immB n v ∨ s.n ≤ 1 + n then s.n else 1 + n, false⟩))
      else .bad
    | _ => .bad
  | _ => .bad := rfl
theorem pathOk_eq (j : Nat) (qs : List PS1) : pathOk j qs ρ = match ρ[j]? with
  | some (some s) => (match getP s.d qs with | some (.lst _, u) => decide (u < s.n) | _ => false)
  | _ => false := rfl
theorem mutS_eq (j : Nat) (ps : List PS1) (v : D) (n : Nat) (f : List D → Option (List D)) : mutS j ps v n f ρ =
  match ρ[j]? with
  | some (some s) => if s.lk then .bad else match getP s.d ps with
    | some (.lst l, u) => match f l with
      | some l' => if u < s.n then
          .nx (ρ.set j (some ⟨putP (.lst l') s.d ps, if immB n v ∨ s.n ≤ u + 1 + n then s.n else u + 1 + n, false⟩))
        else .bad
      | none => .bad
    | _ => .bad
  | _ => .bad := rfl
@[simp] theorem getP_nil (d : D) : getP d [] = some (d, 0) := by cases d <;> rfl
@[simp] theorem putP_nil (e d : D) : putP e d [] = e := by cases d <;> rfl
end

/-! ### loops -/
theorem rngD_len (lo : Int) (n : Nat) : (rngD lo n).length = n := by unfold rngD; rw [List.length_map, List.length_range]
theorem rngD_at {lo : Int} {n i : Nat} {d : D} (h : (rngD lo n)[i]? = some d) : i < n ∧ d = .int (lo + (i : Nat)) := by
  have hi := (List.getElem?_eq_some_iff.mp h).1
  rw [rngD_len] at hi
  unfold rngD at h
  rw [List.getElem?_map, List.getElem?_range hi] at h
  exact ⟨hi, (Option.some.inj h).symm⟩
/-- a for that runs to its end -/
theorem forS_to {tg : List Nat} {b : En → OS} (I : Nat → En → Prop) : ∀ {xs : List D} {ρ : En} (k : Nat), I k ρ → (∀ i d ρ, xs[i]? = some d → I (k + i) ρ → ∃ ρ1 ρ2, takeS tg d ρ = some ρ1 ∧ (b ρ1 = .nx ρ2 ∨ b ρ1 = .ct ρ2) ∧ I (k + i + 1) ρ2) →
    ∃ ρ', forS tg b xs ρ = .nx ρ' ∧ I (k + xs.length) ρ'
  | [], ρ, k, h0, _ => ⟨ρ, rfl, h0⟩
  | x :: xs, ρ, k, h0, hs => by
    obtain ⟨ρ1, ρ2, e1, e2, h2⟩ := hs 0 x ρ rfl h0
    obtain ⟨ρ', e3, h3⟩ := forS_to (fun i => I i) (xs := xs) (ρ := ρ2) (k + 1) h2 fun i d ρ hd hi => by
      have := hs (i + 1) d ρ (by simpa using hd) (by rw [show k + (i + 1) = k + 1 + i by omega]; exact hi)
      rw [show k + (i + 1) + 1 = k + 1 + i + 1 by omega] at this
      exact this
    refine ⟨ρ', ?_, by rw [List.length_cons, show k + (xs.length + 1) = k + 1 + xs.length by omega]; exact h3⟩
    unfold forS
    rw [e1]
    dsimp only
    rcases e2 with e2 | e2 <;> rw [e2] <;> exact e3
/-- a for over a range -/
theorem for_rng {tg : List Nat} {b : En → OS} {lo : Int} {n : Nat} {ρ : En} (I : Nat → En → Prop) (h0 : I 0 ρ) (hs : ∀ i ρ, i < n → I i ρ → ∃ ρ1 ρ2, takeS tg (.int (lo + (i : Nat))) ρ = some ρ1 ∧ (b ρ1 = .nx ρ2 ∨ b ρ1 = .ct ρ2) ∧ I (i + 1) ρ2) :
    ∃ ρ', forS tg b (rngD lo n) ρ = .nx ρ' ∧ I n ρ' := by
  have := forS_to I (tg := tg) (b := b) (xs := rngD lo n) (ρ := ρ) 0 h0 fun i d ρ hd hi => by
    obtain ⟨h1, rfl⟩ := rngD_at hd
    rw [Nat.zero_add] at hi ⊢
    exact hs i ρ h1 hi
  rwa [Nat.zero_add, rngD_len] at this
/-- a comprehension -/
theorem compL_to {tg : List Nat} {elt : Ev → Res} {cnd : Ev → RT} {δ : Ev} (F : Nat → D × Nat) : ∀ {xs : List D} (k : Nat), (∀ i d, xs[i]? = some d → ∃ δ1, takeE tg d δ = some δ1 ∧ cnd δ1 = .ok true ∧ elt δ1 = .ok (F (k + i)).1 (F (k + i)).2) →
    compL tg elt cnd xs δ = .ok ((List.range xs.length).map fun i => F (k + i))
  | [], k, _ => rfl
  | x :: xs, k, h => by
    obtain ⟨δ1, e1, e2, e3⟩ := h 0 x rfl
    have ih := compL_to F (xs := xs) (k + 1) fun i d hd => by
      have := h (i + 1) d (by simpa using hd)
      rwa [show k + (i + 1) = k + 1 + i by omega] at this
    unfold compL
    rw [e1]
    dsimp only
    rw [e2]
    dsimp only
    rw [e3]
    dsimp only
    rw [ih]
    dsimp only
    rw [List.length_cons, List.range_succ_eq_map]
    simp only [List.map_cons, List.map_map, Nat.add_zero]
    congr 2
    apply List.map_congr_left
    intro a _
    show F (k + 1 + a) = F (k + (a + 1))
    rw [show k + 1 + a = k + (a + 1) by omega]
theorem compL_rng {tg : List Nat} {elt : Ev → Res} {cnd : Ev → RT} {δ : Ev} {lo : Int} {n : Nat} (F : Nat → D × Nat) (h : ∀ i, i < n → ∃ δ1, takeE tg (.int (lo + (i : Nat))) δ = some δ1 ∧ cnd δ1 = .ok true ∧ elt δ1 = .ok (F i).1 (F i).2) :
    compL tg elt cnd (rngD lo n) δ = .ok ((List.range n).map F) := by
  have := compL_to F (tg := tg) (elt := elt) (cnd := cnd) (δ := δ) (xs := rngD lo n) 0 fun i d hd => by
    obtain ⟨h1, rfl⟩ := rngD_at hd
    rw [Nat.zero_add]
    exact h i h1
  rw [rngD_len] at this
  simpa using this
/-- a comprehension that leaves out -/
theorem compL_if {tg : List Nat} {elt : Ev → Res} {cnd : Ev → RT} {δ : Ev} (P : Nat → Bool) (F : Nat → D × Nat) : ∀ {xs : List D} (k : Nat), (∀ i d, xs[i]? = some d → ∃ δ1, takeE tg d δ = some δ1 ∧ cnd δ1 = .ok (P (k + i)) ∧ (P (k + i) = true → elt δ1 = .ok (F (k + i)).1 (F (k + i)).2)) →
    compL tg elt cnd xs δ = .ok (((List.range' k xs.length).filter P).map F)
  | [], k, _ => rfl
  | x :: xs, k, h => by
    obtain ⟨δ1, e1, e2, e3⟩ := h 0 x rfl
    rw [Nat.add_zero] at e2 e3
    have ih := compL_if P F (xs := xs) (k + 1) fun i d hd => by
      have := h (i + 1) d (by simpa using hd)
      rwa [show k + (i + 1) = k + 1 + i by omega] at this
    unfold compL
    rw [e1]
    dsimp only
    rw [e2]
    rw [List.length_cons, List.range'_succ, List.filter_cons]
    cases hp : P k with
    | true =>
      dsimp only
      rw [e3 hp]
      dsimp only
      rw [ih]
      rfl
    | false =>
      dsimp only
      rw [ih]
      rfl
theorem compL_rngIf {tg : List Nat} {elt : Ev → Res} {cnd : Ev → RT} {δ : Ev} {lo : Int} {n : Nat} (P : Nat → Bool) (F : Nat → D × Nat) (h : ∀ i, i < n → ∃ δ1, takeE tg (.int (lo + (i : Nat))) δ = some δ1 ∧ cnd δ1 = .ok (P i) ∧ (P i = true → elt δ1 = .ok (F i).1 (F i).2)) :
    compL tg elt cnd (rngD lo n) δ = .ok (((List.range n).filter P).map F) := by
  have := compL_if P F (tg := tg) (elt := elt) (cnd := cnd) (δ := δ) (xs := rngD lo n) 0 fun i d hd => by
    obtain ⟨h1, rfl⟩ := rngD_at hd
    rw [Nat.zero_add]
    exact h i h1
  rw [rngD_len] at this
  rw [this, List.range_eq_range']
theorem dep_imm : ∀ {l : List (D × Nat)}, (∀ p ∈ l, immB p.2 p.1 = true) → dep l = 9
  | [], _ => rfl
  | (d, n) :: l, h => by
    rw [dep_cons, if_pos (h (d, n) List.mem_cons_self)]
    exact dep_imm fun p hp => h p (List.mem_cons_of_mem _ hp)
/-- a while that runs to its end -/
theorem whl_to {c : En → RT} {b : En → OS} (I : En → Prop) (m : En → Nat) (hs : ∀ ρ, I ρ → c ρ = .ok false ∨ (c ρ = .ok true ∧ ∃ ρ2, (b ρ = .nx ρ2 ∨ b ρ = .ct ρ2) ∧ I ρ2 ∧ m ρ2 < m ρ)) :
    ∀ (k : Nat) (ρ : En), m ρ ≤ k → I ρ → ∃ ρ', whlC c b ρ = .nx ρ' ∧ I ρ' ∧ c ρ' = .ok false := by
  intro k
  induction k with
  | zero =>
    intro ρ hm h
    rcases hs ρ h with e | ⟨e, ρ2, _, _, hl⟩
    · exact ⟨ρ, by rw [whlC_eq, e], h, e⟩
    · omega
  | succ k ih =>
    intro ρ hm h
    rcases hs ρ h with e | ⟨e, ρ2, e2, h2, hl⟩
    · exact ⟨ρ, by rw [whlC_eq, e], h, e⟩
    · obtain ⟨ρ', e3, r⟩ := ih ρ2 (by omega) h2
      refine ⟨ρ', ?_, r⟩
      rw [whlC_eq, e]
      rcases e2 with e2 | e2 <;> rw [e2] <;> exact e3
end PL
/-! PL20: sizes. -/
namespace PL
open PySem L2
/-- no more digits than a script's number may have -/
def sm (z : Int) : Prop := z.natAbs.log2 < 1048576
instance (z : Int) : Decidable (sm z) := inferInstanceAs (Decidable (z.natAbs.log2 < 1048576))
theorem log2_mono {m n : Nat} (h : m ≤ n) : m.log2 ≤ n.log2 := by
  by_cases hm : m = 0
  · subst hm; simp
  · exact (Nat.le_log2 (by omega)).mpr (Nat.le_trans (Nat.log2_self_le hm) h)
theorem sm_le {a b : Int} (h : a.natAbs ≤ b.natAbs) (hb : sm b) : sm a := Nat.lt_of_le_of_lt (log2_mono h) hb
theorem fdiv_abs_le {a b : Int} (hb : 0 < b) : (a.fdiv b).natAbs ≤ a.natAbs := by
  have e := Int.mul_fdiv_add_fmod a b
  have h1 := Int.fmod_nonneg_of_pos a hb
  have h2 := Int.fmod_lt_of_pos a hb
  generalize a.fdiv b = q at *
  generalize a.fmod b = r at *
  rcases Int.lt_trichotomy q 0 with hq | hq | hq
  · have : b * q ≤ 1 * q - (b - 1) := by
      have : (b - 1) * q ≤ (b - 1) * (-1) := Int.mul_le_mul_of_nonneg_left (by omega) (by omega)
      have e2 : b * q = (b - 1) * q + q := by rw [Int.sub_mul]; omega
      omega
    omega
  · omega
  · have : 1 * q ≤ b * q := Int.mul_le_mul_of_nonneg_right (by omega) (by omega)
    omega
theorem sm_fdiv {a b : Int} (hb : 0 < b) (h : sm a) : sm (a.fdiv b) := sm_le (fdiv_abs_le hb) h
theorem divOk_pos {j : Int} (h : j ≠ 0) (h2 : j.natAbs < 2 ^ 8999) : divOk j = true := by
  unfold divOk
  simp only [Bool.and_eq_true, decide_eq_true_eq]
  refine ⟨h, ?_⟩
  have := (Nat.log2_lt (n := j.natAbs) (k := 8999) (by omega)).mpr h2
  omega
theorem mulOk_of {i j : Int} {a b : Nat} (h1 : i.natAbs.log2 < a) (h2 : j.natAbs.log2 < b) (h : a + b ≤ 67108864) : mulOk i j = true := by
  unfold mulOk
  simp only [decide_eq_true_eq]
  have : (2 : Nat) ^ 26 = 67108864 := by decide
  omega
theorem log2_of_le {i : Int} {a : Nat} (h : i.natAbs < 2 ^ a) (ha : 0 < a) : i.natAbs.log2 < a := by
  by_cases h0 : i.natAbs = 0
  · rw [h0]; simpa using ha
  · exact (Nat.log2_lt h0).mpr h
theorem gcd_step {x y : Int} (hx : 0 ≤ x) (hy : 0 < y) : Int.gcd y (x.fmod y) = Int.gcd x y := by
  obtain ⟨m, rfl⟩ := Int.eq_ofNat_of_zero_le hx
  obtain ⟨n, rfl⟩ := Int.eq_ofNat_of_zero_le (Int.le_of_lt hy)
  rw [Int.fmod_eq_emod_of_nonneg _ (by omega)]
  show Nat.gcd n (m % n) = Nat.gcd m n
  rw [Nat.gcd_comm m n, Nat.gcd_rec n m, Nat.gcd_comm]
theorem gcd_abs (a b : Int) : Int.gcd (if a < 0 then -a else a) (if b < 0 then -b else b) = Int.gcd a b := by
  split <;> split <;> simp
theorem lI_at {l : List Int} {i : Nat} (h : i < l.length) : atD (lI l) (i : Nat) = .ok (.int (l[i])) 0 := by
  rw [atD_nat]
  unfold lI
  rw [List.getElem?_map, List.getElem?_eq_getElem h]
  rfl
theorem lI_at1 {l : List Int} {i : Nat} (h : i + 1 < l.length) : atD (lI l) ((i : Nat) + 1) = .ok (.int (l[i + 1])) 0 := lI_at (l := l) (i := i + 1) h
@[simp] theorem lI_app (a b : List Int) : lI (a ++ b) = lI a ++ lI b := List.map_append
@[simp] theorem lI_len (a : List Int) : (lI a).length = a.length := List.length_map _
theorem lI_take (a : List Int) (k : Nat) : cutD (lI a) none (some (k : Int)) = lI (a.take k) := by
  rw [cut_to]
  unfold lI
  rw [List.map_take]
theorem smallI_of {i : Int} (h1 : -(10 ^ 9) ≤ i) (h2 : i ≤ 10 ^ 9) : smallI i = true := by
  unfold smallI
  refine decide_eq_true ?_
  by_cases h0 : i.natAbs = 0
  · rw [h0]
    decide
  · exact (Nat.log2_lt h0).mpr (by omega)
/-- a fraction in its lowest form that is whole has the bottom 1 -/
theorem low_one {a b : Int} (hb : 0 < b) : 0 < b.fdiv (Int.gcd a b) ∧ ((a.fdiv (Int.gcd a b)).fmod (b.fdiv (Int.gcd a b)) = 0 → b.fdiv (Int.gcd a b) = 1) := by
  have hg : 0 < Int.gcd a b := Int.gcd_pos_of_ne_zero_right a (b := b) (by omega)
  obtain ⟨x, hx⟩ := Int.gcd_dvd_left a b
  obtain ⟨y, hy⟩ := Int.gcd_dvd_right a b
  generalize hG : Int.gcd a b = G at *
  have e1 : a.fdiv (G : Int) = x := by rw [hx]; exact Int.mul_fdiv_cancel_left x (by omega)
  have e2 : b.fdiv (G : Int) = y := by rw [hy]; exact Int.mul_fdiv_cancel_left y (by omega)
  rw [e1, e2]
  have hy0 : 0 < y := by
    rcases Int.lt_or_le 0 y with h | h
    · exact h
    · have : (G : Int) * y ≤ 0 := Int.mul_nonpos_of_nonneg_of_nonpos (by omega) h
      omega
  refine ⟨hy0, fun h => ?_⟩
  have hd : y ∣ x := Int.dvd_of_fmod_eq_zero h
  obtain ⟨k, rfl⟩ := hd
  have h1 : ((G : Int) * y) ∣ a := ⟨k, by rw [hx, Int.mul_assoc]⟩
  have h2 : ((G : Int) * y) ∣ b := ⟨1, by rw [hy]; simp⟩
  have h3 : ((G : Int) * y) ∣ (Int.gcd a b : Int) := Int.dvd_coe_gcd h1 h2
  rw [hG] at h3
  have h4 := Int.le_of_dvd (by omega) h3
  have h5 : (G : Int) * y ≤ G * 1 := by omega
  have := Int.le_of_mul_le_mul_left h5 (by omega)
  omega
end PL
/-! PL21: what helpers of many laws answer (each a body, whatever its surroundings). -/
namespace PL
open PySem L2
/-! ### the greatest common divisor -/
def sCommonC : Ex := .cmp .gt (.var 1) (.con (.int 0))
def sCommonL : List St := [.par 0 1 (.var 1) (.bin .mod (.var 0) (.var 1))]
def sCommon : List St := [.asg 0 (.bi .abs [.var 0]) .imm, .asg 1 (.bi .abs [.var 1]) .imm, .whl sCommonC sCommonL, .retv 0]
theorem common_ok (Γ : Fe) (a b : Int) : runF Γ 2 2 sCommon [.int a, .int b] = .ok (.int (Int.gcd a b)) 0 := by
  obtain ⟨ρ', e, ⟨x, y, rfl, hx, hy, hg⟩, ec⟩ := whl_to (c := fun ρ => evT Γ sCommonC (viewA ρ)) (b := exB Γ sCommonL)
    (fun ρ => ∃ x y : Int, ρ = [some ⟨.int x, 0, false⟩, some ⟨.int y, 0, false⟩] ∧ 0 ≤ x ∧ 0 ≤ y ∧ Int.gcd x y = Int.gcd a b) (fun ρ => match ρ with | [_, some ⟨.int y, _, _⟩] => y.toNat | _ => 0)
    (fun ρ ⟨x, y, e, hx, hy, hg⟩ => by
      subst e
      by_cases h0 : 0 < y
      · refine .inr ⟨by simp [sCommonC, h0], [some ⟨.int y, 0, false⟩, some ⟨.int (x.fmod y), 0, false⟩], .inl ?_, ⟨y, x.fmod y, rfl, by omega, Int.fmod_nonneg_of_pos _ h0, ?_⟩, ?_⟩
        · have : ¬ y = 0 := by omega
          simp [sCommonL, this]
        · rw [← hg, gcd_step hx h0]
        · have h1 := Int.fmod_nonneg_of_pos x h0
          have h2 := Int.fmod_lt_of_pos x h0
          show (x.fmod y).toNat < y.toNat
          omega
      · exact .inl (by simp [sCommonC, h0]))
    _ [some ⟨.int (if a < 0 then -a else a), 0, false⟩, some ⟨.int (if b < 0 then -b else b), 0, false⟩] (Nat.le_refl _) ⟨_, _, rfl, by split <;> omega, by split <;> omega, gcd_abs a b⟩
  have hy0 : y = 0 := by
    simp [sCommonC] at ec
    omega
  subst hy0
  simp [sCommon] at e ⊢
  rw [e]
  simp
  rw [← hg]
  simp
  omega
theorem small_div {b : Int} (hb : b ≠ 0) (h : b.natAbs ≤ 10 ^ 250) : divOk b = true := divOk_pos hb (Nat.lt_of_le_of_lt h (by decide))
theorem small_mul {a b : Int} (ha : a.natAbs ≤ 10 ^ 250) (hb : b.natAbs ≤ 10 ^ 250) : mulOk a b = true :=
  mulOk_of (a := 900) (b := 900) (log2_of_le (Nat.lt_of_le_of_lt ha (by decide)) (by decide)) (log2_of_le (Nat.lt_of_le_of_lt hb (by decide)) (by decide)) (by decide)
/-! ### a number by a cell -/
def sNumber : List St := [.ife (.cmp .eq (.bin .mod (.var 0) (.con (.int 3))) (.con (.int 0))) [.ret (.bin .sub (.bin .mod (.bin .fdiv (.var 0) (.con (.int 3))) (.con (.int 25))) (.con (.int 12)))] [], .asg 1 (.bin .add (.bin .mul (.con (.int 2)) (.bin .pow (.con (.int 10)) (.con (.int 59)))) (.con (.int 1))) .imm, .ret (.bin .sub (.bin .mod (.bin .mul (.bin .fdiv (.var 0) (.con (.int 3))) (.con (.int 27182818284590452353602874713526624977572470936999595749669))) (.var 1)) (.bin .pow (.con (.int 10)) (.con (.int 59))))]
theorem d3 : divOk 3 = true := by decide
theorem number_ok (Γ : Fe) (c : Int) (h : sm c) : ∃ z : Int, runF Γ 2 1 sNumber [.int c] = .ok (.int z) 0 ∧ -(10 ^ 60) ≤ z ∧ z ≤ 10 ^ 60 := by
  have hm : mulOk (c.fdiv 3) 27182818284590452353602874713526624977572470936999595749669 = true := mulOk_of (a := 1048576) (b := 200) (sm_fdiv (by decide) h) (by decide) (by decide)
  have p1 : powOk 10 59 = true := by decide
  have m2 : mulOk 2 (10 ^ 59) = true := by decide
  simp only [Int.reducePow] at m2
  by_cases h0 : c.fmod 3 = 0
  · refine ⟨(c.fdiv 3).fmod 25 - 12, ?_, ?_⟩
    · simp [sNumber, h0, d3]
    · have h1 := Int.fmod_nonneg_of_pos (c.fdiv 3) (b := 25) (by decide)
      have h2 := Int.fmod_lt_of_pos (c.fdiv 3) (b := 25) (by decide)
      omega
  · refine ⟨(c.fdiv 3 * 27182818284590452353602874713526624977572470936999595749669).fmod (2 * 10 ^ 59 + 1) - 10 ^ 59, ?_, ?_⟩
    · simp [sNumber, h0, d3, hm, p1, m2]
    · have h1 := Int.fmod_nonneg_of_pos (c.fdiv 3 * 27182818284590452353602874713526624977572470936999595749669) (b := 2 * 10 ^ 59 + 1) (by decide)
      have h2 := Int.fmod_lt_of_pos (c.fdiv 3 * 27182818284590452353602874713526624977572470936999595749669) (b := 2 * 10 ^ 59 + 1) (by decide)
      omega
/-! ### a whole number? -/
def sWhole : List St := [.ret (.and (.isi (.var 0) .int) (.not (.isi (.var 0) .bool)))]
theorem whole_ok (Γ : Fe) (a : Int) : runF Γ 1 1 sWhole [.int a] = .ok (.bl true) 0 := by
  simp [sWhole]
/-! ### a fraction in its lowest form -/
def sLowest (i : Nat) : List St := [.asg 2 (.call i [.var 0, .var 1]) (.fz [0, 1]), .ret (.tup [.bin .fdiv (.var 0) (.var 2), .bin .fdiv (.var 1) (.var 2)])]
/-- the fraction a by b in its lowest form is x by y -/
structure Low (a b x y : Int) : Prop where
  pos : 0 < y
  one : Int.gcd x y = 1
  eq : x * b = a * y
  lx : x.natAbs ≤ a.natAbs
  ly : y.natAbs ≤ b.natAbs
theorem low_of {a b : Int} (hb : b ≠ 0) : ∃ x y, Low a b x y ∧ (0 < b → a.fdiv (Int.gcd a b) = x ∧ b.fdiv (Int.gcd a b) = y) ∧ (b < 0 → a.fdiv (-(Int.gcd a b : Int)) = x ∧ b.fdiv (-(Int.gcd a b : Int)) = y) ∧ 0 < Int.gcd a b ∧ Int.gcd a b ≤ b.natAbs := by
  have hg : 0 < Int.gcd a b := Int.gcd_pos_of_ne_zero_right a hb
  have hle : Int.gcd a b ≤ b.natAbs := Nat.le_of_dvd (by omega) (Int.natAbs_dvd_natAbs.mpr (Int.gcd_dvd_right a b) |> fun h => by simpa using h)
  obtain ⟨x, hx⟩ := Int.gcd_dvd_left a b
  obtain ⟨y, hy⟩ := Int.gcd_dvd_right a b
  have h1 : Int.gcd x y = 1 := by
    have := Int.gcd_mul_left (Int.gcd a b : Int) x y
    rw [← hx, ← hy] at this
    simp only [Int.natAbs_natCast] at this
    have h2 : Int.gcd a b * 1 = Int.gcd a b * Int.gcd x y := by omega
    exact (Nat.eq_of_mul_eq_mul_left hg h2).symm
  generalize Int.gcd a b = G at *
  have lex : x.natAbs ≤ a.natAbs := by
    rw [hx, Int.natAbs_mul, Int.natAbs_natCast]
    exact Nat.le_mul_of_pos_left _ hg
  have ley : y.natAbs ≤ b.natAbs := by
    rw [hy, Int.natAbs_mul, Int.natAbs_natCast]
    exact Nat.le_mul_of_pos_left _ hg
  have e : x * b = a * y := by rw [hx, hy, Int.mul_left_comm, Int.mul_assoc]
  rcases Int.lt_or_gt_of_ne hb with h | h
  · have hy0 : y < 0 := by
      rcases Int.lt_or_le y 0 with z | z
      · exact z
      · have : 0 ≤ (G : Int) * y := Int.mul_nonneg (by omega) z
        omega
    refine ⟨-x, -y, ⟨by omega, by rw [Int.gcd_neg, Int.neg_gcd]; exact h1, by rw [Int.neg_mul, Int.mul_neg, e], by omega, by omega⟩, fun z => by omega, fun _ => ⟨?_, ?_⟩, hg, hle⟩
    · rw [hx, show (G : Int) * x = -(G : Int) * -x from (Int.neg_mul_neg _ _).symm]
      exact Int.mul_fdiv_cancel_left _ (by omega)
    · rw [hy, show (G : Int) * y = -(G : Int) * -y from (Int.neg_mul_neg _ _).symm]
      exact Int.mul_fdiv_cancel_left _ (by omega)
  · have hy0 : 0 < y := by
      rcases Int.lt_or_le 0 y with z | z
      · exact z
      · have : (G : Int) * y ≤ 0 := Int.mul_nonpos_of_nonneg_of_nonpos (by omega) z
        omega
    refine ⟨x, y, ⟨hy0, h1, e, lex, ley⟩, fun _ => ⟨?_, ?_⟩, fun z => by omega, hg, hle⟩
    · rw [hx]
      exact Int.mul_fdiv_cancel_left _ (by omega)
    · rw [hy]
      exact Int.mul_fdiv_cancel_left _ (by omega)
theorem lowest_ok {Γ : Fe} {i : Nat} (hc : ∀ a b, Γ.fn i [.int a, .int b] = .ok (.int (Int.gcd a b)) 0) {a b : Int} (hb : 0 < b) (hb2 : b.natAbs ≤ 10 ^ 250) : ∃ x y, runF Γ 3 2 (sLowest i) [.int a, .int b] = .ok (.tup [.int x, .int y]) 9 ∧ Low a b x y := by
  obtain ⟨x, y, L, h1, _, hg, hle⟩ := low_of (a := a) (b := b) (by omega)
  obtain ⟨rfl, rfl⟩ := h1 hb
  have d : divOk (Int.gcd a b : Int) = true := small_div (by omega) (by simpa using Nat.le_trans hle hb2)
  exact ⟨_, _, by simp [sLowest, hc, d], L⟩
/-- dueturns' made -/
def sMade (i : Nat) (r : St) : List St := [.ife (.cmp .eq (.var 1) (.con (.int 0))) [r] [], .asg 2 (.call i [.var 0, .var 1]) (.fz [0, 1]), .ife (.cmp .lt (.var 1) (.con (.int 0))) [.asg 2 (.neg (.var 2)) .imm] [], .ret (.tup [.bin .fdiv (.var 0) (.var 2), .bin .fdiv (.var 1) (.var 2)])]
theorem made_ok {Γ : Fe} {i : Nat} {r : St} (hc : ∀ a b, Γ.fn i [.int a, .int b] = .ok (.int (Int.gcd a b)) 0) {a b : Int} (hb : b ≠ 0) (hb2 : b.natAbs ≤ 10 ^ 250) : ∃ x y, runF Γ 3 2 (sMade i r) [.int a, .int b] = .ok (.tup [.int x, .int y]) 9 ∧ Low a b x y := by
  obtain ⟨x, y, L, h1, h2, hg, hle⟩ := low_of (a := a) hb
  have d : divOk (Int.gcd a b : Int) = true := small_div (by omega) (by simpa using Nat.le_trans hle hb2)
  have d2 : divOk (-(Int.gcd a b : Int)) = true := small_div (by omega) (by simpa using Nat.le_trans hle hb2)
  rcases Int.lt_or_gt_of_ne hb with h | h
  · obtain ⟨rfl, rfl⟩ := h2 h
    exact ⟨_, _, by simp [sMade, hc, d2, hb, h], L⟩
  · obtain ⟨rfl, rfl⟩ := h1 h
    have h' : ¬ b < 0 := by omega
    exact ⟨_, _, by simp [sMade, hc, d, hb, h'], L⟩
def sIsFraction (c w : Nat) : List St := [.ife (.or (.not (.isi (.var 0) .tuple)) (.or (.cmp .ne (.bi .len [.var 0]) (.con (.int 2))) (.or (.not (.call w [.ix (.var 0) (.con (.int 0))])) (.not (.call w [.ix (.var 0) (.con (.int 1))]))))) [.ret (.con (.bl false))] [], .ret (.and (.cmp .gt (.ix (.var 0) (.con (.int 1))) (.con (.int 0))) (.cmp .eq (.call c [.ix (.var 0) (.con (.int 0)), .ix (.var 0) (.con (.int 1))]) (.con (.int 1))))]
theorem isFraction_ok {Γ : Fe} {c w : Nat} (hc : ∀ a b, Γ.fn c [.int a, .int b] = .ok (.int (Int.gcd a b)) 0) (hw : ∀ a, Γ.fn w [.int a] = .ok (.bl true) 0) {x y : Int} (h : 0 < y) (h1 : Int.gcd x y = 1) : runF Γ 1 1 (sIsFraction c w) [.tup [.int x, .int y]] = .ok (.bl true) 0 := by
  simp [sIsFraction, hc, hw, h, h1]
def sIs (f : Nat) : List St := [.ret (.and (.call f [.var 0]) (.cmp .eq (.bin .mul (.ix (.var 0) (.con (.int 0))) (.var 2)) (.bin .mul (.var 1) (.ix (.var 0) (.con (.int 1))))))]
theorem is_ok {Γ : Fe} {f : Nat} {a b x y : Int} (L : Low a b x y) (hf : Γ.fn f [.tup [.int x, .int y]] = .ok (.bl true) 0) (ha : a.natAbs ≤ 10 ^ 250) (hb : b.natAbs ≤ 10 ^ 250) : runF Γ 3 3 (sIs f) [.tup [.int x, .int y], .int a, .int b] = .ok (.bl true) 0 := by
  have m1 : mulOk x b = true := small_mul (by have := L.lx; omega) hb
  have m2 : mulOk a y = true := small_mul ha (by have := L.ly; omega)
  simp [sIs, hf, m1, m2, L.eq]
end PL
namespace PL
open PySem L2 PyProof.Rows
/-- another instance named: nothing is owned otherwise -/
def G.at_ (g : G) (s : Option V) : G := { g with self := s }
mutual
theorem Own.self_ {g : G} {s : Option V} {H : Hp} {S : Rg} : ∀ {n : Nat} {d : D} {v : V} {A : Fp}, Own g H S n d v A → Own (g.at_ s) H S n d v A
  | _, .non, _, _, h => by unfold Own at h ⊢; exact h
  | _, .bl _, _, _, h => by unfold Own at h ⊢; exact h
  | _, .int _, _, _, h => by unfold Own at h ⊢; exact h
  | _, .str _, _, _, h => by unfold Own at h ⊢; exact h
  | _, .tup l, _, _, h => by unfold Own at h ⊢; obtain ⟨a, xs, e, t, tr, hl⟩ := h; exact ⟨a, xs, e, t, tr, OwnL.self_ hl⟩
  | 0, .lst l, _, _, h => by unfold Own at h ⊢; obtain ⟨a, xs, e, z, t, hl⟩ := h; exact ⟨a, xs, e, z, t, OwnL.self_ hl⟩
  | n + 1, .lst l, _, _, h => by unfold Own at h ⊢; obtain ⟨a, xs, B, e, t, e2, hl⟩ := h; exact ⟨a, xs, B, e, t, e2, OwnL.self_ hl⟩
  | 0, .dct ks vs, _, _, h => by unfold Own at h ⊢; obtain ⟨a, xs, e, z, t, e2, hl⟩ := h; exact ⟨a, xs, e, z, t, e2, OwnL.self_ hl⟩
  | n + 1, .dct ks vs, _, _, h => by unfold Own at h ⊢; obtain ⟨a, xs, B, e, t, e2, e3, hl⟩ := h; exact ⟨a, xs, B, e, t, e2, e3, OwnL.self_ hl⟩
  | 0, .obj c ks vs, _, _, h => by unfold Own at h ⊢; obtain ⟨a, dx, xs, e, z, t, e2, hl⟩ := h; exact ⟨a, dx, xs, e, z, t, e2, OwnL.self_ hl⟩
  | n + 1, .obj c ks vs, _, _, h => by unfold Own at h ⊢; obtain ⟨a, dx, xs, B, e, t, e2, e3, hl⟩ := h; exact ⟨a, dx, xs, B, e, t, e2, e3, OwnL.self_ hl⟩
  | _, .exc c vs, _, _, h => by unfold Own at h ⊢; obtain ⟨a, dd, xs, e, e2, e3, hq, hl⟩ := h; exact ⟨a, dd, xs, e, e2, e3, hq, OwnL.self_ hl⟩
theorem OwnL.self_ {g : G} {s : Option V} {H : Hp} {S : Rg} : ∀ {n : Nat} {ds : List D} {xs : List V} {A : Fp}, OwnL g H S n ds xs A → OwnL (g.at_ s) H S n ds xs A
  | _, [], _, _, h => by unfold OwnL at h ⊢; exact h
  | _, d :: ds, _, _, h => by unfold OwnL at h ⊢; obtain ⟨x, ys, B, C, e, e2, h1, h2⟩ := h; exact ⟨x, ys, B, C, e, e2, Own.self_ h1, OwnL.self_ h2⟩
end
theorem at_at (g : G) (s : Option V) : (g.at_ s).at_ g.self = g := rfl
theorem Own.back {g : G} {s : Option V} {H : Hp} {S : Rg} {n : Nat} {d : D} {v : V} {A : Fp} (h : Own (g.at_ s) H S n d v A) : Own g H S n d v A := by
  have := Own.self_ (s := g.self) h
  rwa [at_at] at this
theorem OwnL.back {g : G} {s : Option V} {H : Hp} {S : Rg} {n : Nat} {d : List D} {v : List V} {A : Fp} (h : OwnL (g.at_ s) H S n d v A) : OwnL g H S n d v A := by
  have := OwnL.self_ (s := g.self) h
  rwa [at_at] at this
theorem RF.self_ {g : G} {s : Option V} {xg : XG} {H : Hp} {S : Rg} {r : Res} {W : Value → Option Addr → Hp → Prop} {Q : VK} (h : RF (g.at_ s) xg H S r W Q) : RF g xg H S r W Q := by
  cases r with
  | ok d n => exact fun v H' S' T o => h v H' S' T ⟨o.ext, o.sub, o.new, o.sz, o.own.self_, o.nd, o.fr⟩
  | exn e => exact h
  | bad => exact h
theorem pSp_self {g : G} {s : Option V} {xg : XG} {F : List D → Res} {vs : List V} {H : Hp} {Q : VK} {E : XK} (h : pSp (g.at_ s) xg F vs H Q E) : pSp g xg F vs H Q E := by
  obtain ⟨S, ds, sz, ow, h⟩ := h
  exact ⟨S, ds, sz, ow.back, h.self_⟩
theorem iSp_self {g : G} {s : Option V} {xg : XG} {c : Nat} {F : List D → Res} {vs : List V} {H : Hp} {Q : VK} {E : XK} (h : iSp (g.at_ s) xg c F vs H Q E) : iSp g xg c F vs H Q E := by
  obtain ⟨S, ds, x, dx, ws, e, sz, hx, nS, ow, h⟩ := h
  refine ⟨S, ds, x, dx, ws, e, sz, hx, nS, ow.back, ?_⟩
  cases eF : F ds with
  | ok d n => rw [eF] at h; exact fun H' S' T k1 k2 k3 k4 o k5 k6 => h H' S' T k1 k2 k3 k4 o.self_ k5 k6
  | exn e => rw [eF] at h; exact h
  | bad => rw [eF] at h; exact h
/-- a maker: its own slot first -/
noncomputable def initF (Γ : Fe) (c slots np : Nat) (b : List St) (ds : List D) : Res :=
  if ds.length + 1 = np then match exB Γ b (some ⟨.obj c [] [], 9, false⟩ :: (ds.map (fun d => some ⟨d, 0, false⟩) ++ List.replicate (slots - np) none)) with
    | .nx (some ⟨.obj c' ks vs, n + 1, _⟩ :: _) => .ok (.obj c' ks vs) (n + 1)
    | .exn e => .exn e
    | _ => .bad
  else .bad
section
variable {g : G} {xg : XG} {Γ : Fe} {P : Program} {w : World} {K : PySem.W.Frag} {mg : Str → Option Value} {base : Heap} {k : Nat} {T : Tab}
def Tab.mk_ (T : Tab) (N : List Str) : Tab := { T with N := N, ini := true }
theorem Gok.cokI (G : Gok g xg Γ P w K mg base k T) {N ps : List Str} {qual : Str} {scope : Scope} {f : Addr} {cdv : Value} {A : Around} {outer : List Env} {s : Shared} {H : Hp} {E : XK} (x : Addr) (S : FnScope N ps scope) (hr : Room k (A.deeper (envOfC qual scope s.heap.objs.size f cdv))) :
    Cok (g.at_ (some (.ref x))) xg Γ (cxOf (L2.CX P w) P w K mg base N qual scope f cdv A outer s H E) (fun cls d _ H => E cls d H) (T.mk_ N) scope scope := by
  have C := G.cok (s := s) (H := H) (E := E) (outer := outer) S hr
  refine ⟨C.hK, C.hu, C.cl, C.hN, C.nd, C.sc, C.fn, C.tk, fun y c h => ?_, C.at_, C.inj, C.fo, fun y i h => ?_, (fun h => by cases h), C.ex0, C.ex1, ⟨C.xo.st, C.xo.sb⟩, C.em, C.rz, C.xv0, C.xcl⟩
  · have := C.gf y c h
    cases c with
    | fn i =>
      obtain ⟨f, fd, ps, k', F, r⟩ := this.is
      exact ⟨f, fd, ps, k', F.imp fun _ _ _ _ q => pSp_self q, r⟩
    | cls c =>
      obtain ⟨f, fd, ps, k', F, r⟩ := this.is
      exact ⟨f, fd, ps, k', F.imp fun _ _ _ _ q => iSp_self q, r⟩
    | con i =>
      obtain ⟨v, u, h1, h2, h3⟩ := this
      exact ⟨v, u, h1, h2, fun H S => (h3 H S).self_⟩
    | non => exact this
    | exc c => exact this
    | dead => exact this
  · obtain ⟨h1, h2⟩ := C.me y i h
    refine ⟨fun c hc => ?_, h2⟩
    obtain ⟨f, fd, ps, k', F, r⟩ := (h1 c hc).is
    exact ⟨f, fd, ps, k', F.imp fun _ _ _ _ q => pSp_self q, r⟩
theorem init_ok (G : Gok g xg Γ P w K mg base k T) {x0 qual : Str} {st : Stmt} {f : Addr} {fd : FuncData} {N ps : List Str} {xs : List PL.St} (c : Nat) (F : Fun K x0 qual st f fd) (S : FnScope N ps (defScope st)) (hc : ckB (ckS 60 (T.mk_ N) (defScope st)) (defBody st) xs = true) :
    FnOk P w K mg base (L2.CX P w) (k + 1) f fd ps (iSp g xg c (initF Γ c N.length ps.length xs)) := by
  have hN : ps.length ≤ N.length := by
    have := congrArg List.length S.pre
    rw [List.length_take] at this
    omega
  refine F.okX S (fun vs H Q E ⟨S0, ds, x, dx, ws, e, sz, hx, nS, ow, h⟩ => ?_) fun cdv A outer s H vs Q E hr ⟨S0, ds, x, dx, ws, e, sz, hx, nS, ow, h⟩ => ?_
  · have e2 := ow.length
    subst e
    unfold initF at h
    split at h
    · rename_i eq
      split at eq
      · rename_i hl
        rw [List.length_cons]
        omega
      · cases eq
    · rename_i eq
      split at eq
      · rename_i hl
        rw [List.length_cons]
        omega
      · cases eq
    · exact h.elim
  · subst e
    have e2 := ow.length
    refine ⟨RdB (g.at_ (some (.ref x))) xg Γ (fun cls d _ H => E cls d H) xs, ckB_ok (fun st' x' h' => ckS_ok 60 _ (T.mk_ N) _ st' x' _ _ (G.cokI x S hr) (fun _ => passes_of rfl) (fun _ c z => ⟨(G.ra c z).1, hr.mono (G.ra c z).2⟩) rfl rfl S.kind h') hc, ?_⟩
    unfold initF at h
    by_cases hl : ds.length + 1 = ps.length
    · rw [if_pos hl] at h
      have hflat : ([x] :: List.replicate (N.length - 1) ([] : Fp)).flatten = [x] := by rw [List.flatten_cons, flat_nil]; rfl
      have r0 : Rep (g.at_ (some (.ref x))) H S0 ([x] :: List.replicate (N.length - 1) []) (some ⟨.obj c [] [], 9, false⟩ :: (ds.map (fun d => some ⟨d, 0, false⟩) ++ List.replicate (N.length - ps.length) none)) (L2.start N (.ref x :: ws)) := by
        refine ⟨sz, ?_, ?_, fun i sl hi => ?_, fun i hi => ?_, by rw [hflat]; simp, fun a q => ?_, fun w hw => ?_⟩
        · unfold L2.start
          simp only [List.length_cons, List.length_append, List.length_map, List.length_replicate, e2]
          omega
        · simp only [List.length_cons, List.length_append, List.length_map, List.length_replicate]
          omega
        · cases i with
          | zero =>
            cases hi
            refine ⟨.ref x, [x], rfl, rfl, ?_⟩
            show Own _ H S0 (8 + 1) _ _ _
            unfold Own
            exact ⟨x, dx, [], [], rfl, hx, rfl, rfl, OwnL.nil⟩
          | succ i =>
            have hi' : (ds.map (fun d => some (Sl.mk d 0 false)) ++ List.replicate (N.length - ps.length) none)[i]? = some (some sl) := by simpa using hi
            have hid : i < ds.length := by
              rcases Nat.lt_or_ge i ds.length with z | z
              · exact z
              · rw [List.getElem?_append_right (by simpa using z), List.getElem?_replicate] at hi'
                split at hi' <;> cases hi'
            rw [List.getElem?_append_left (by simpa using hid), List.getElem?_map, List.getElem?_eq_getElem hid] at hi'
            simp only [Option.map_some, Option.some.injEq] at hi'
            subst hi'
            obtain ⟨v, B, h1, h2, _⟩ := ow.get (i := i) (d := ds[i]) (List.getElem?_eq_getElem hid)
            have := h2.zero
            subst this
            refine ⟨v, [], ?_, ?_, h2.self_⟩
            · unfold L2.start
              rw [List.getElem?_append_left (by simp; omega), List.getElem?_map, List.getElem?_cons_succ, h1]
              rfl
            · rw [List.getElem?_cons_succ, List.getElem?_replicate, if_pos (by omega)]
        · cases i with
          | zero => cases hi
          | succ i =>
            have hlt := (List.getElem?_eq_some_iff.mp hi).1
            simp only [List.length_cons, List.length_append, List.length_map, List.length_replicate] at hlt
            rw [List.getElem?_cons_succ, List.getElem?_replicate, if_pos (by omega)]
        · rw [hflat] at q
          rcases List.mem_cons.mp q with rfl | q
          · exact nS
          · cases q
        · cases hw
          rfl
      refine ⟨_, S0, _, r0, ?_⟩
      have ext : ∀ {H' : Hp} {ρ0 : En}, (∀ a o, H a = some o → (a ∉ ([x] :: List.replicate (N.length - 1) ([] : Fp)).flatten ∨ ∃ i, Lk ρ0 ([x] :: List.replicate (N.length - 1) []) i a) → H' a = some o) → ∀ a o, a ≠ x → H a = some o → H' a = some o :=
        fun {H' ρ0} k a o ne e => k a o e (.inl (by rw [hflat]; simpa using ne))
      cases eo : exB Γ xs (some ⟨.obj c [] [], 9, false⟩ :: (ds.map (fun d => some ⟨d, 0, false⟩) ++ List.replicate (N.length - ps.length) none)) with
      | nx ρ' =>
        rw [eo] at h
        intro σ' H' S' As' r' s'
        match ρ', h with
        | some ⟨.obj c' ks vs', n + 1, lk⟩ :: rest, h =>
          obtain ⟨v, A', h1, h2, o⟩ := r'.at_ 0 _ rfl
          have h3 := r'.slf _ rfl
          rw [h1] at h3
          cases h3
          have xA : x ∈ A' := by
            have o2 : Own (g.at_ (some (.ref x))) H' S' (n + 1) (.obj c' ks vs') (.ref x) A' := o
            unfold Own at o2
            obtain ⟨a, dx', ys, B, e5, _, _, e6, _⟩ := o2
            cases e5
            rw [e6]
            exact List.mem_cons_self
          have nSx : ¬ S' x := r'.dis x (mem_flat h2 xA)
          refine h H' S' A' (ext s'.fr) s'.sub (fun a q => ?_) r'.sz o.back (nd_one r'.nd h2) fun a q => ⟨?_, r'.dis a (mem_flat h2 q)⟩
          · rcases s'.new a q with z | z | z
            · exact .inl z
            · rw [hflat] at z
              have : a = x := by simpa using z
              subst this
              exact absurd q nSx
            · exact .inr z
          · rcases s'.ow a (mem_flat h2 q) with z | z
            · rw [hflat] at z
              exact .inr (by simpa using z)
            · exact .inl z
        | [], h => exact h.elim
        | none :: rest, h => exact h.elim
        | some ⟨d, 0, lk⟩ :: rest, h => cases d <;> exact h.elim
        | some ⟨.non, n + 1, lk⟩ :: rest, h => exact h.elim
        | some ⟨.bl _, n + 1, lk⟩ :: rest, h => exact h.elim
        | some ⟨.int _, n + 1, lk⟩ :: rest, h => exact h.elim
        | some ⟨.str _, n + 1, lk⟩ :: rest, h => exact h.elim
        | some ⟨.tup _, n + 1, lk⟩ :: rest, h => exact h.elim
        | some ⟨.lst _, n + 1, lk⟩ :: rest, h => exact h.elim
        | some ⟨.dct _ _, n + 1, lk⟩ :: rest, h => exact h.elim
      | exn e => rw [eo] at h; exact fun cls dd σ' H' k1 k2 => h cls dd H' (ext k1) k2
      | rt d n => rw [eo] at h; exact h.elim
      | bk ρ' => rw [eo] at h; exact h.elim
      | ct ρ' => rw [eo] at h; exact h.elim
      | bad => rw [eo] at h; exact h.elim
    · rw [if_neg hl] at h
      exact h.elim
end
end PL
/-! PL23: what is known of the module's names, with classes. -/
namespace PL
open PySem L2 PyProof.Rows
section
variable {g : G} {xg : XG} {Γ : Fe} {P : Program} {w : World} {K : PySem.W.Frag} {mg : Str → Option Value} {base : Heap} {k : Nat} {T : Tab}
theorem look_all {α : Type} {p : Str → α → Bool} : ∀ {l : List (Str × α)} {x : Str} {i : α}, l.lookup x = some i → (l.all fun q => p q.1 q.2) = true → p x i = true
  | [], _, _, h, _ => by cases h
  | (y, j) :: l, x, i, h, ha => by
    rw [List.lookup_cons] at h
    rw [List.all_cons, Bool.and_eq_true] at ha
    split at h
    · rename_i e
      cases h
      obtain rfl := eq_of_beq e
      exact ha.1
    · exact look_all h ha.2
/-- the start, with the tables of attributes and methods -/
theorem Gok.first2 {at_ me : List (Str × Nat)} (hK : g.K = K) (inj : ∀ i j, g.AN i = g.AN j → i = j) (ha : (at_.all fun q => decide (g.AN q.2 = q.1)) = true) (hm : ∀ x i, me.lookup x = some i → ∀ k, g.AN k ≠ x) (hmh : ∀ i c, Γ.mh i c = false)
    (hfo : ∀ c f, Γ.fo c f = true → Cls K (g.CA c) ∧ NoAttr K (g.CA c) (g.AN f)) (hs : g.self = none) (xf : XF g xg Γ K) (hra : ∀ c, Γ.ra c = true → (∃ C, xg.XV c = .ref C ∧ RaK K mg C) ∧ 3 ≤ k) : Gok g xg Γ P w K mg base k { N := [], gn := [], at_ := at_, me := me } :=
  ⟨hK, (fun _ _ h => nomatch h), (fun x i h => of_decide_eq_true (look_all (p := fun x i => decide (g.AN i = x)) h ha)), inj, hfo, (fun x i h => ⟨(fun c hc => absurd hc (by rw [hmh]; decide)), hm x i h⟩), hs, rfl, xf, hra⟩
theorem anOf_ne {l : List Str} {x : Str} (h1 : l.contains x = false) (h2 : x.cps.size < 1000) : ∀ k, anOf l k ≠ x := by
  intro k e
  unfold anOf at e
  split at e
  · rename_i y hy
    subst e
    have := List.mem_of_getElem? hy
    rw [← List.contains_iff_mem] at this
    rw [h1] at this
    cases this
  · subst e
    simp at h2
    omega
theorem anOf_nes {l : List Str} {me : List (Str × Nat)} (h : (me.all fun q => !l.contains q.1 && decide (q.1.cps.size < 1000)) = true) : ∀ x i, me.lookup x = some i → ∀ k, anOf l k ≠ x := fun x i hx => by
  have := look_all (p := fun x _ => !l.contains x && decide (x.cps.size < 1000)) hx h
  simp only [Bool.and_eq_true, Bool.not_eq_true', decide_eq_true_eq] at this
  exact anOf_ne this.1 this.2
def Fe.addMe (Γ : Fe) (i c : Nat) (F : List PL.D → Res) : Fe := { Γ with me := fun j d => if j = i ∧ d = c then F else Γ.me j d, mh := fun j d => decide (j = i ∧ d = c) || Γ.mh j d }
def Fe.addMk (Γ : Fe) (c : Nat) (F : List PL.D → Res) : Fe := { Γ with ma := fun d => if d = c then F else Γ.ma d }
theorem MF0.up {c : Nat} {m : Str} {F : List PL.D → Res} {k' : Nat} (hk : k ≤ k') (h : MF0 g xg P w K mg base k c m F) : MF0 g xg P w K mg base k' c m F := by
  obtain ⟨f, fd, ps, j, hj, r⟩ := h
  exact ⟨f, fd, ps, j, Nat.le_trans hj hk, r⟩
theorem Gok.up (G : Gok g xg Γ P w K mg base k T) {k' : Nat} (hk : k ≤ k') : Gok g xg Γ P w K mg base k' T :=
  ⟨G.hK, fun x c h => (G.gf x c h).up hk, G.at_, G.inj, G.fo, fun x i h => let ⟨h1, h2⟩ := G.me x i h; ⟨fun c hc => (h1 c hc).up hk, h2⟩, G.slf, G.sui, G.xf, fun c z => ⟨(G.ra c z).1, Nat.le_trans (G.ra c z).2 hk⟩⟩
/-- a method more -/
theorem Gok.addMe (G : Gok g xg Γ P w K mg base k T) {m : Str} {f : Addr} {fd : FuncData} {ps : List Str} {F : List PL.D → Res} (i c : Nat) (hF : FnOk P w K mg base (L2.CX P w) (k + 1) f fd ps (pSp g xg F)) (hc : Cls K (g.CA c)) (hm : Meth K (g.CA c) m f) (hb : Binds K fd ps [])
    (hi : (T.me.all fun q => !decide (q.2 = i) || decide (q.1 = m)) = true) : Gok g xg (Γ.addMe i c F) P w K mg base (k + 1) T := by
  have G' := G.up (Nat.le_succ k)
  refine ⟨G'.hK, fun x d h => ?_, G'.at_, G'.inj, G'.fo, fun x j h => ?_, G'.slf, G'.sui, ⟨G'.xf.exa, G'.xf.sb, G'.xf.em, G'.xf.rz, G'.xf.xv0, G'.xf.xcl⟩, G'.ra⟩
  · have := G'.gf x d h
    cases d with
    | fn i => exact this
    | cls c => exact this
    | con i => exact this
    | non => exact this
    | exc c => exact this
    | dead => exact this
  · obtain ⟨h1, h2⟩ := G'.me x j h
    refine ⟨fun d hd => ?_, h2⟩
    show MF0 g xg P w K mg base (k + 1) d x (if j = i ∧ d = c then F else Γ.me j d)
    by_cases q : j = i ∧ d = c
    · obtain ⟨rfl, rfl⟩ := q
      rw [if_pos ⟨rfl, rfl⟩]
      have := look_all (p := fun x i => !decide (i = j) || decide (x = m)) h hi
      simp at this
      subst this
      exact ⟨f, fd, ps, k + 1, Nat.le_refl _, hF, hc, hm, hb⟩
    · rw [if_neg q]
      refine h1 d ?_
      have hd' : (decide (j = i ∧ d = c) || Γ.mh j d) = true := hd
      rw [decide_eq_false q, Bool.false_or] at hd'
      exact hd'
/-- a maker more -/
theorem Gok.addMk (G : Gok g xg Γ P w K mg base k T) {x : Str} {f : Addr} {fd : FuncData} {ps : List Str} {F : List PL.D → Res} (c : Nat) (hF : FnOk P w K mg base (L2.CX P w) (k + 1) f fd ps (iSp g xg c F)) (hm : mg x = some (.ref (g.CA c))) (hk : Mk K (g.CA c) f) (hb : Binds K fd ps [])
    (hi : (T.gn.all fun p => !decide (p.2 = .cls c)) = true) : Gok g xg (Γ.addMk c F) P w K mg base (k + 2) { T with gn := (x, .cls c) :: T.gn } := by
  have G' := G.up (k' := k + 2) (by omega)
  refine ⟨G'.hK, fun y d h => ?_, G'.at_, G'.inj, G'.fo, fun y j h => G'.me y j h, G'.slf, G'.sui, ⟨G'.xf.exa, G'.xf.sb, G'.xf.em, G'.xf.rz, G'.xf.xv0, G'.xf.xcl⟩, G'.ra⟩
  have h' : List.lookup y ((x, GK.cls c) :: T.gn) = some d := h
  rw [List.lookup_cons] at h'
  split at h'
  · rename_i e
    cases h'
    obtain rfl := eq_of_beq e
    refine ⟨f, fd, ps, k + 1, Nat.le_refl _, ?_, hm, hk, hb⟩
    show FnOk P w K mg base (L2.CX P w) (k + 1) f fd ps (iSp g xg c (if c = c then F else Γ.ma c))
    rw [if_pos rfl]
    exact hF
  · have h0 := G'.gf y d h'
    cases d with
    | cls d =>
      have hne : d ≠ c := fun e => by
        subst e
        obtain ⟨z, hz⟩ := mem_lookup' h'
        have := List.all_eq_true.mp hi _ hz
        simp at this
      obtain ⟨f, fd, ps, j', hj, r, r2⟩ := h0
      refine ⟨f, fd, ps, j', hj, ?_, r2⟩
      show FnOk P w K mg base (L2.CX P w) j' f fd ps (iSp g xg d (if d = c then F else Γ.ma d))
      rw [if_neg hne]
      exact r
    | fn i => exact h0
    | con i => exact h0
    | non => exact h0
    | exc c => exact h0
    | dead => exact h0
/-- tables of classes -/
def subT : List (Nat × Nat × Bool) → Nat → Nat → Option Bool
  | [], _, _ => none
  | (i, j, b) :: l, x, y => if i = x ∧ j = y then some b else subT l x y
def AllT (P : Nat → Nat → Bool → Prop) : List (Nat × Nat × Bool) → Prop
  | [] => True
  | (i, j, b) :: l => P i j b ∧ AllT P l
theorem tbl_all {P : Nat → Nat → Bool → Prop} : ∀ {l : List (Nat × Nat × Bool)} (_ : AllT P l) {i j : Nat} {b : Bool}, subT l i j = some b → P i j b
  | [], _, _, _, _, h => by cases h
  | (i0, j0, b0) :: l, ha, i, j, b, h => by
    unfold subT at h
    split at h
    · rename_i e
      obtain ⟨rfl, rfl⟩ := e
      cases h
      exact ha.1
    · exact tbl_all ha.2 h
def rzT (l : List Nat) (c : Nat) : Bool := l.contains c
def AllR (P : Nat → Prop) : List Nat → Prop
  | [] => True
  | c :: l => P c ∧ AllR P l
theorem rz_all {P : Nat → Prop} : ∀ {l : List Nat} (_ : AllR P l) {c : Nat}, rzT l c = true → P c
  | [], _, _, h => by cases h
  | d :: l, ha, c, h => by
    unfold rzT at h
    rw [List.contains_cons, Bool.or_eq_true] at h
    rcases h with h | h
    · rw [eq_of_beq h]; exact ha.1
    · exact rz_all ha.2 h
end
end PL
set_option exponentiation.threshold 10000
/-! PL24: what helpers of many laws answer: draws, cells, runnings. -/
namespace PL
open PySem L2
/-! ### slots not known -/
def frzO (l : List Nat) (k : Nat) (o : Option Sl) : Option Sl := match o with
  | some s => if l.contains k then some { s with n := 0 } else some s
  | none => none
def vwO (l : List Nat) (k : Nat) (o : Option Sl) : Option D := match o with
  | some s => if s.n = 0 ∨ l.contains k then some s.d else none
  | none => none
def lksO (l : List Nat) (v : Bool) (k : Nat) (o : Option Sl) : Option Sl := match o with
  | some s => if l.contains k then some { s with lk := v } else some s
  | none => none
section
variable (l : List Nat) (k : Nat) (o : Option Sl) (ρ : En)
@[simp] theorem frzs_o : frzs l k (o :: ρ) = frzO l k o :: frzs l (k + 1) ρ := rfl
@[simp] theorem viewF_o : viewF l k (o :: ρ) = vwO l k o :: viewF l (k + 1) ρ := rfl
@[simp] theorem locks_o (v : Bool) : locks l v k (o :: ρ) = lksO l v k o :: locks l v (k + 1) ρ := rfl
@[simp] theorem frzO_none : frzO l k none = none := rfl
@[simp] theorem vwO_none : vwO l k none = none := rfl
@[simp] theorem lksO_none (v : Bool) : lksO l v k none = none := rfl
@[simp] theorem frzO_some (d : D) (n : Nat) (b : Bool) : frzO l k (some ⟨d, n, b⟩) = some ⟨d, if l.contains k then 0 else n, b⟩ := by unfold frzO; dsimp only; split <;> rfl
@[simp] theorem vwO_some (d : D) (n : Nat) (b : Bool) : vwO l k (some ⟨d, n, b⟩) = if n = 0 ∨ l.contains k then some d else none := rfl
@[simp] theorem lksO_some (v : Bool) (d : D) (n : Nat) (b : Bool) : lksO l v k (some ⟨d, n, b⟩) = some ⟨d, n, if l.contains k then v else b⟩ := by unfold lksO; dsimp only; split <;> rfl
@[simp] theorem lkO_frzO : lkO (frzO l k o) = lkO o := by
  cases o with
  | none => rfl
  | some s =>
    unfold frzO
    dsimp only
    split <;> rfl
@[simp] theorem d_frzO : (frzO l k o).map Sl.d = o.map Sl.d := by
  cases o with
  | none => rfl
  | some s =>
    unfold frzO
    dsimp only
    split <;> rfl
end
theorem step {Γ : Fe} {s : St} {ss : List St} {ρ ρ' : En} {o : OS} (h : exS Γ s ρ = .nx ρ') (k : exB Γ ss ρ' = o) : exB Γ (s :: ss) ρ = o := by
  rw [exB_cons, h]
  exact k
theorem stop {Γ : Fe} {s : St} {ss : List St} {ρ : En} {d : D} {n : Nat} (h : exS Γ s ρ = .rt d n) : exB Γ (s :: ss) ρ = .rt d n := by
  rw [exB_cons, h]
  rfl
theorem run_of {Γ : Fe} {slots np : Nat} {b : List St} {ds : List D} {d : D} {n : Nat} (hl : ds.length = np) (h : exB Γ b (ds.map (fun d => some ⟨d, 0, false⟩) ++ List.replicate (slots - np) none) = .rt d n) : runF Γ slots np b ds = .ok d n := by
  rw [runF_eq, if_pos hl, h]
  rfl
/-! ### a draw -/
def sDrawL : List St := [.asg 4 (.bin .fdiv (.var 4) (.var 2)) .imm]
def sDraw : List St := [.ife (.cmp .ge (.var 0) (.bin .pow (.con (.int 10)) (.con (.int 18)))) [.asg 4 (.var 0) (.fz [0]), .fo .rng1 [.var 1] [5] [] .imm sDrawL, .ret (.bin .mod (.var 4) (.var 2))] [], .asg 3 (.bin .mod (.bin .mul (.bin .add (.bin .add (.bin .mod (.var 0) (.con (.int 1000000007))) (.bin .mul (.con (.int 1009)) (.var 1))) (.con (.int 17))) (.con (.int 69621))) (.con (.int 2147483647))) .imm, .asg 3 (.bin .mod (.bin .add (.bin .add (.bin .mul (.var 3) (.var 3)) (.bin .mul (.con (.int 40503)) (.var 1))) (.con (.int 5))) (.con (.int 2147483629))) .imm, .ret (.bin .mod (.bin .fdiv (.bin .mod (.bin .mul (.var 3) (.con (.int 48271))) (.con (.int 2147483647))) (.con (.int 32))) (.var 2))]
theorem draw_ok (c k b : Int) (hk : 0 ≤ k) (hk2 : k ≤ 1000) (hb : 0 < b) (hb2 : b ≤ 10 ^ 60) : ∃ d, (∀ Γ, runF Γ 6 3 sDraw [.int c, .int k, .int b] = .ok (.int d) 0) ∧ 0 ≤ d ∧ d < b := by
  have p1 : powOk 10 18 = true := by decide
  have hb0 : ¬ b = 0 := by omega
  have dv : divOk b = true := small_div (by omega) (by omega)
  by_cases h0 : 1000000000000000000 ≤ c
  · have key : ∀ Γ : Fe, ∃ x : Int, ∃ o5, forS [5] (exB Γ sDrawL) (rngD 0 k.toNat) [some ⟨.int c, 0, false⟩, some ⟨.int k, 0, false⟩, some ⟨.int b, 0, false⟩, none, some ⟨.int c, 0, false⟩, none] = .nx [some ⟨.int c, 0, false⟩, some ⟨.int k, 0, false⟩, some ⟨.int b, 0, false⟩, none, some ⟨.int x, 0, false⟩, o5] ∧ x = (List.replicate k.toNat b).foldl Int.fdiv c := by
      intro Γ
      obtain ⟨ρ', e, x, o5, rfl, _, hx⟩ := for_rng (tg := [5]) (b := exB Γ sDrawL) (lo := 0) (n := k.toNat) (ρ := [some ⟨.int c, 0, false⟩, some ⟨.int k, 0, false⟩, some ⟨.int b, 0, false⟩, none, some ⟨.int c, 0, false⟩, none])
        (fun i ρ => ∃ x o5, ρ = [some ⟨.int c, 0, false⟩, some ⟨.int k, 0, false⟩, some ⟨.int b, 0, false⟩, none, some ⟨.int x, 0, false⟩, o5] ∧ lkO o5 = false ∧ x = (List.replicate i b).foldl Int.fdiv c)
        ⟨c, none, rfl, rfl, rfl⟩ fun i ρ hi ⟨x, o5, e, h5, hx⟩ => by
          subst e
          simp [sDrawL, h5, dv]
          exact ⟨_, _, ⟨rfl, rfl⟩, rfl, by rw [hx, List.replicate_succ', List.foldl_append]; rfl⟩
      exact ⟨x, o5, e, hx⟩
    refine ⟨((List.replicate k.toNat b).foldl Int.fdiv c).fmod b, fun Γ => ?_, Int.fmod_nonneg_of_pos _ hb, Int.fmod_lt_of_pos _ hb⟩
    obtain ⟨x, o5, e, hx⟩ := key Γ
    have sk : smallI k = true := smallI_of (by omega) (by omega)
    simp [sDraw, p1, h0, sk, e, hb0, hx]
  · have m1 : mulOk 1009 k = true := small_mul (by omega) (by omega)
    have a1 := Int.fmod_nonneg_of_pos c (b := 1000000007) (by decide)
    have a2 := Int.fmod_lt_of_pos c (b := 1000000007) (by decide)
    generalize e1 : c.fmod 1000000007 = x1 at *
    have m2 : mulOk (x1 + 1009 * k + 17) 69621 = true := small_mul (by omega) (by omega)
    have b1 := Int.fmod_nonneg_of_pos ((x1 + 1009 * k + 17) * 69621) (b := 2147483647) (by decide)
    have b2 := Int.fmod_lt_of_pos ((x1 + 1009 * k + 17) * 69621) (b := 2147483647) (by decide)
    generalize e2 : ((x1 + 1009 * k + 17) * 69621).fmod 2147483647 = x2 at *
    have m3 : mulOk x2 x2 = true := small_mul (by omega) (by omega)
    have m4 : mulOk 40503 k = true := small_mul (by omega) (by omega)
    have c1 := Int.fmod_nonneg_of_pos (x2 * x2 + 40503 * k + 5) (b := 2147483629) (by decide)
    have c2 := Int.fmod_lt_of_pos (x2 * x2 + 40503 * k + 5) (b := 2147483629) (by decide)
    generalize e3 : (x2 * x2 + 40503 * k + 5).fmod 2147483629 = x3 at *
    have m5 : mulOk x3 48271 = true := small_mul (by omega) (by omega)
    have d32 : divOk 32 = true := by decide
    refine ⟨(((x3 * 48271).fmod 2147483647).fdiv 32).fmod b, fun Γ => ?_, Int.fmod_nonneg_of_pos _ hb, Int.fmod_lt_of_pos _ hb⟩
    simp [sDraw, p1, h0, m1, e1, m2, e2, m3, m4, e3, m5, d32, hb0]
/-! ### a cell -/
def sCell : List St := [.ife (.cmp .lt (.var 1) (.bi .len [.var 0])) [.ret (.ix (.var 0) (.var 1))] [], .ret (.con (.int 0))]
theorem cell_ok (ns : List Int) (k : Int) (hk : 0 ≤ k) : ∃ z, ∀ Γ, runF Γ 2 2 sCell [.lst (lI ns), .int k] = .ok (.int z) 0 := by
  obtain ⟨j, rfl⟩ := Int.eq_ofNat_of_zero_le hk
  by_cases h : j < ns.length
  · have h' : j < (lI ns).length := by simpa [lI] using h
    have A := lI_at h
    exact ⟨ns[j], fun Γ => by simp [sCell, h, A]⟩
  · have h' : ¬ j < (lI ns).length := by simpa [lI] using h
    exact ⟨0, fun Γ => by simp [sCell, h]⟩
/-- all within 0 and m -/
def Wi (m : Int) (l : List Int) : Prop := ∀ x ∈ l, 0 ≤ x ∧ x < m
theorem Wi.app {m : Int} {a b : List Int} (h : Wi m a) (k : Wi m b) : Wi m (a ++ b) := fun x hx => (List.mem_append.mp hx).elim (h x) (k x)
theorem Wi.take {m : Int} {a : List Int} (h : Wi m a) (k : Nat) : Wi m (a.take k) := fun x hx => h x (List.mem_of_mem_take hx)
theorem Wi.drop {m : Int} {a : List Int} (h : Wi m a) (k : Nat) : Wi m (a.drop k) := fun x hx => h x (List.mem_of_mem_drop hx)
theorem Wi.rep {m : Int} {a : List Int} (h : Wi m a) : ∀ k : Nat, Wi m (List.replicate k a).flatten
  | 0 => fun x hx => by cases hx
  | k + 1 => by rw [List.replicate_succ, List.flatten_cons]; exact h.app (Wi.rep h k)
theorem lI_drop (a : List Int) (k : Nat) : (lI a).drop k = lI (a.drop k) := by simp [lI, List.map_drop]
theorem lI_tk (a : List Int) (k : Nat) : (lI a).take k = lI (a.take k) := by simp [lI, List.map_take]
theorem lI_rep (a : List Int) : ∀ k : Nat, (List.replicate k (lI a)).flatten = lI (List.replicate k a).flatten
  | 0 => rfl
  | k + 1 => by rw [List.replicate_succ, List.flatten_cons, lI_rep a k, List.replicate_succ, List.flatten_cons, lI_app]
@[simp] theorem lI_length (a : List Int) : (lI a).length = a.length := by simp [lI]
@[simp] theorem immL_lI (n : Nat) : ∀ a : List Int, immBL n (lI a) = true
  | [] => by simp [lI]
  | x :: a => by
    show immBL n (.int x :: lI a) = true
    rw [immL_cons, imm_int, immL_lI n a]
    rfl
@[simp] theorem imm_lI (n : Nat) (a : List Int) : immB (n + 1) (.lst (lI a)) = true := by unfold immB; exact immL_lI n a
@[simp] theorem immL_app (n : Nat) : ∀ a b : List D, immBL n (a ++ b) = (immBL n a && immBL n b)
  | [], b => by simp
  | x :: a, b => by rw [List.cons_append, immL_cons, immL_cons, immL_app n a b, Bool.and_assoc]
@[simp] theorem imm_lst1 (l : List D) : immB 1 (.lst l) = immBL 0 l := by rw [immB]
@[simp] theorem imm_lst0 (l : List D) : immB 0 (.lst l) = false := by unfold immB; rfl
@[simp] theorem imm_lI1 (a : List Int) : immB 1 (.lst (lI a)) = true := imm_lI 0 a
@[simp] theorem imm_lI2 (a : List Int) : immB 2 (.lst (lI a)) = true := imm_lI 1 a
@[simp] theorem imm_lI9 (a : List Int) : immB 9 (.lst (lI a)) = true := imm_lI 8 a
@[simp] theorem imm_lI10 (a : List Int) : immB 10 (.lst (lI a)) = true := imm_lI 9 a
/-! ### choices -/
def sChoicesL (d c : Nat) : List St := [.app 4 [] (.call d [.call c [.var 0, .bin .add (.var 1) (.bin .fdiv (.var 5) (.con (.int 12)))], .bin .add (.con (.int 3)) (.bin .mod (.var 5) (.con (.int 12))), .var 2]) .imm]
def sChoices (d c : Nat) : List St := [.asg 4 (.lst []) (.fz []), .fo .rng1 [.var 3] [5] [] .imm (sChoicesL d c), .retv 4]
theorem choices_ok {Γ : Fe} {d c : Nat} {Γd Γc : Fe} (hD : Γ.fn d = runF Γd 6 3 sDraw) (hC : Γ.fn c = runF Γc 2 2 sCell) (ns : List Int) (at_ many size : Int) (h1 : 0 ≤ at_) (h2 : 0 < many) (h3 : many ≤ 10 ^ 9) (h4 : 0 ≤ size) (h5 : size ≤ 1000000) :
    ∃ l, runF Γ 6 4 (sChoices d c) [.lst (lI ns), .int at_, .int many, .int size] = .ok (.lst (lI l)) 10 ∧ l.length = size.toNat ∧ Wi many l := by
  obtain ⟨ρ', e, l, o5, rfl, _, hl, hw⟩ := for_rng (tg := [5]) (b := exB Γ (sChoicesL d c)) (lo := 0) (n := size.toNat) (ρ := [some ⟨.lst (lI ns), 0, false⟩, some ⟨.int at_, 0, false⟩, some ⟨.int many, 0, false⟩, some ⟨.int size, 0, false⟩, some ⟨.lst [], 10, false⟩, none])
    (fun i ρ => ∃ l o5, ρ = [some ⟨.lst (lI ns), 0, false⟩, some ⟨.int at_, 0, false⟩, some ⟨.int many, 0, false⟩, some ⟨.int size, 0, false⟩, some ⟨.lst (lI l), 10, false⟩, o5] ∧ lkO o5 = false ∧ l.length = i ∧ Wi many l)
    ⟨[], none, rfl, rfl, rfl, fun x hx => by cases hx⟩ fun i ρ hi ⟨l, o5, e, h5', hl, hw⟩ => by
      subst e
      have d12 : divOk 12 = true := by decide
      have q1 := Int.fmod_nonneg_of_pos (i : Int) (b := 12) (by decide)
      have q2 := Int.fmod_lt_of_pos (i : Int) (b := 12) (by decide)
      have q3 : 0 ≤ (i : Int).fdiv 12 := Int.fdiv_nonneg (by omega) (by decide)
      obtain ⟨z, ez⟩ := cell_ok ns (at_ + (i : Int).fdiv 12) (by omega)
      obtain ⟨y, ey, y1, y2⟩ := draw_ok z (3 + (i : Int).fmod 12) many (by omega) (by omega) h2 (by omega)
      have hz : l.length < 16777216 := by omega
      have cz := ez Γc
      have cy := ey Γd
      simp [sChoicesL, h5', hC, hD, -runF_eq, cz, cy, d12, pathOk_eq, mutS_eq, hz]
      refine ⟨l ++ [y], _, ⟨by simp [lI], rfl⟩, rfl, by simp [hl], hw.app fun x hx => ?_⟩
      have : x = y := by simpa using hx
      subst this
      exact ⟨y1, y2⟩
  have sk : smallI size = true := smallI_of (by omega) (by omega)
  exact ⟨l, by simp [sChoices, sk, e], hl, hw⟩
end PL
/-! PL25: runnings: how they are drawn; the row of one. -/
namespace PL
open PySem L2
def sRunning (d c h : Nat) : List St := [.asg 3 (.call c [.var 0, .var 1]) (.fz [0, 1]), .asg 4 (.ix (.lst [.bin .add (.con (.int 1)) (.call d [.var 3, .con (.int 0), .con (.int 6)]), .bin .add (.con (.int 13)) (.call d [.var 3, .con (.int 0), .con (.int 36)])]) (.bi .int [.cmp .eq (.call d [.var 3, .con (.int 2), .con (.int 8)]) (.con (.int 1))])) (.fz [3]), .asg 5 (.call h [.var 0, .bin .add (.var 1) (.con (.int 1)), .var 2, .ix (.lst [.call d [.var 3, .con (.int 1), .con (.int 7)], .con (.int 20)]) (.bi .int [.cmp .eq (.call d [.var 3, .con (.int 2), .con (.int 8)]) (.con (.int 2))])]) (.fz [0, 1, 2, 3]), .asg 6 (.call h [.var 0, .bin .add (.var 1) (.con (.int 3)), .var 2, .var 4]) (.fz [0, 1, 2, 4]), .ife (.cmp .eq (.call d [.var 3, .con (.int 3), .con (.int 3)]) (.con (.int 1))) [.asg 6 (.bin .mul (.var 6) (.bin .add (.con (.int 1)) (.call d [.var 3, .con (.int 4), .con (.int 3)]))) .imm] [], .ife (.cmp .eq (.call d [.var 3, .con (.int 5), .con (.int 3)]) (.con (.int 1))) [.asg 7 (.call d [.var 3, .con (.int 6), .bin .add (.bi .len [.var 6]) (.con (.int 1))]) .imm, .asg 5 (.bin .add (.var 5) (.sl (.var 6) .omit (.var 7))) (.fz [5, 6, 7]), .asg 6 (.bin .add (.sl (.var 6) (.var 7) .omit) (.sl (.var 6) .omit (.var 7))) (.fz [6, 7])] [], .rett [5, 6]]
/-- a running of claimants below m -/
structure Rn (m : Int) (h l : List Int) : Prop where
  wh : Wi m h
  wl : Wi m l
  pos : 0 < l.length
  ll : l.length ≤ 150
  lh : h.length ≤ 170
theorem cut_from (l : List D) (k : Nat) : cutD l (some (k : Int)) none = l.drop k := by
  unfold cutD
  rw [HT.sIx_nat]
  show (l.drop (min k l.length)).take (l.length - min k l.length) = l.drop k
  by_cases h : k ≤ l.length
  · rw [Nat.min_eq_left h, List.take_of_length_le (by simp)]
  · rw [Nat.min_eq_right (by omega), List.drop_eq_nil_of_le (Nat.le_refl _), List.drop_eq_nil_of_le (by omega)]
    simp
theorem lI_cutT (a : List Int) {k : Int} (hk : 0 ≤ k) : cutD (lI a) none (some k) = lI (a.take k.toNat) := by
  obtain ⟨j, rfl⟩ := Int.eq_ofNat_of_zero_le hk
  exact lI_take a j
theorem lI_cutD (a : List Int) {k : Int} (hk : 0 ≤ k) : cutD (lI a) (some k) none = lI (a.drop k.toNat) := by
  obtain ⟨j, rfl⟩ := Int.eq_ofNat_of_zero_le hk
  rw [cut_from, lI_drop]
  rfl
theorem seq_seq (o : OS) (f g : En → OS) : (o.seq f).seq g = o.seq fun ρ => (f ρ).seq g := by cases o <;> rfl
theorem exB_app (Γ : Fe) : ∀ (a b : List St) (ρ : En), exB Γ (a ++ b) ρ = (exB Γ a ρ).seq (exB Γ b)
  | [], b, ρ => by rw [List.nil_append, exB_nil, OS.seq_nx]
  | s :: a, b, ρ => by
    rw [List.cons_append, exB_cons, exB_cons, seq_seq]
    congr 1
    funext ρ'
    exact exB_app Γ a b ρ'
theorem atD_if (p : Prop) [Decidable p] (a b : Int) : atD [.int a, .int b] (if p then 1 else 0) = .ok (.int (if p then b else a)) 0 := by
  split <;> rfl
theorem running_ok {Γ : Fe} {d c h : Nat} {Γd Γc Γh : Fe} {d' c' : Nat} (hD : Γ.fn d = runF Γd 6 3 sDraw) (hC : Γ.fn c = runF Γc 2 2 sCell) (hH : Γ.fn h = runF Γh 6 4 (sChoices d' c')) {Γd' Γc' : Fe} (hD' : Γh.fn d' = runF Γd' 6 3 sDraw) (hC' : Γh.fn c' = runF Γc' 2 2 sCell)
    (ns : List Int) (at_ many : Int) (h1 : 0 ≤ at_) (h2 : 0 < many) (h3 : many ≤ 10 ^ 9) : ∃ (hd lp : List Int), runF Γ 8 3 (sRunning d c h) [.lst (lI ns), .int at_, .int many] = .ok (.tup [.lst (lI hd), .lst (lI lp)]) 9 ∧ Rn many hd lp := by
  obtain ⟨z, ez⟩ := cell_ok ns at_ h1
  have cz := ez Γc
  obtain ⟨x0, e0, a0, b0⟩ := draw_ok z 0 6 (by decide) (by decide) (by decide) (by decide)
  obtain ⟨x1, e1, a1, b1⟩ := draw_ok z 0 36 (by decide) (by decide) (by decide) (by decide)
  obtain ⟨x2, e2, a2, b2⟩ := draw_ok z 2 8 (by decide) (by decide) (by decide) (by decide)
  obtain ⟨x3, e3, a3, b3⟩ := draw_ok z 1 7 (by decide) (by decide) (by decide) (by decide)
  obtain ⟨x4, e4, a4, b4⟩ := draw_ok z 3 3 (by decide) (by decide) (by decide) (by decide)
  obtain ⟨x5, e5, a5, b5⟩ := draw_ok z 4 3 (by decide) (by decide) (by decide) (by decide)
  obtain ⟨x6, e6, a6, b6⟩ := draw_ok z 5 3 (by decide) (by decide) (by decide) (by decide)
  replace e0 := e0 Γd
  replace e1 := e1 Γd
  replace e2 := e2 Γd
  replace e3 := e3 Γd
  replace e4 := e4 Γd
  replace e5 := e5 Γd
  replace e6 := e6 Γd
  obtain ⟨size, hsize, s1, s2⟩ : ∃ s : Int, s = (if x2 = 1 then 13 + x1 else 1 + x0) ∧ 1 ≤ s ∧ s ≤ 48 := ⟨_, rfl, by split <;> omega, by split <;> omega⟩
  obtain ⟨hsz, hhsz, t1, t2⟩ : ∃ s : Int, s = (if x2 = 2 then 20 else x3) ∧ 0 ≤ s ∧ s ≤ 20 := ⟨_, rfl, by split <;> omega, by split <;> omega⟩
  obtain ⟨hd, eh, lh, wh⟩ := choices_ok hD' hC' ns (at_ + 1) many hsz (by omega) h2 h3 (by omega) (by omega)
  obtain ⟨lp, el, ll, wl⟩ := choices_ok hD' hC' ns (at_ + 3) many size (by omega) h2 h3 (by omega) (by omega)
  subst hsize
  subst hhsz
  have base : ∃ (lp2 : List Int) (n : Nat), 0 < lp2.length ∧ lp2.length ≤ 150 ∧ Wi many lp2 ∧ 0 < n ∧ exB Γ ((sRunning d c h).take 5) [some ⟨.lst (lI ns), 0, false⟩, some ⟨.int at_, 0, false⟩, some ⟨.int many, 0, false⟩, none, none, none, none, none] =
      .nx [some ⟨.lst (lI ns), 0, false⟩, some ⟨.int at_, 0, false⟩, some ⟨.int many, 0, false⟩, some ⟨.int z, 0, false⟩, some ⟨.int (if x2 = 1 then 13 + x1 else 1 + x0), 0, false⟩, some ⟨.lst (lI hd), 10, false⟩, some ⟨.lst (lI lp2), n, false⟩, none] := by
    have hB : lp.length ≤ 48 := by omega
    have hA : (1 + x5).toNat ≤ 3 := by omega
    have hAB := Nat.mul_le_mul hB hA
    have hBA := Nat.mul_le_mul hA hB
    by_cases q4 : x4 = 1
    · refine ⟨(List.replicate (1 + x5).toNat lp).flatten, 1, ?_, ?_, wl.rep _, by decide, ?_⟩
      · rw [List.length_flatten, List.map_replicate, List.sum_replicate_nat]
        exact Nat.mul_pos (by omega) (by omega)
      · rw [List.length_flatten, List.map_replicate, List.sum_replicate_nat]
        omega
      · have sz : lp.length * (1 + x5).toNat ≤ 16777216 := by omega
        have r1 : smallI (1 + x5) = true := smallI_of (by omega) (by omega)
        simp [sRunning, hD, hC, hH, -runF_eq, cz, e0, e1, e2, e3, e4, e5, atD_if, eh, el, q4, sz, lI_rep, r1]
    · refine ⟨lp, 10, by omega, by omega, wl, by decide, ?_⟩
      simp [sRunning, hD, hC, hH, -runF_eq, cz, e0, e1, e2, e3, e4, e5, atD_if, eh, el, q4]
  obtain ⟨lp2, n, p1, p2, p3, p4, eb⟩ := base
  obtain ⟨n, rfl⟩ : ∃ k, n = k + 1 := ⟨n - 1, by omega⟩
  obtain ⟨x7, e7, a7, b7⟩ := draw_ok z 6 ((lp2.length : Int) + 1) (by decide) (by decide) (by omega) (by omega)
  replace e7 := e7 Γd
  have rest : ∀ ρ, exB Γ (sRunning d c h) ρ = (exB Γ ((sRunning d c h).take 5) ρ).seq (exB Γ ((sRunning d c h).drop 5)) := fun ρ => by
    rw [← exB_app, List.take_append_drop]
  rw [runF_eq]
  simp only [List.length_cons, List.length_nil, if_true]
  by_cases q6 : x6 = 1
  · refine ⟨hd ++ lp2.take x7.toNat, lp2.drop x7.toNat ++ lp2.take x7.toNat, ?_, wh.app (p3.take _), (p3.drop _).app (p3.take _), by simp; omega, by simp; omega, by simp; omega⟩
    have z1 : hd.length + min x7.toNat lp2.length ≤ 16777216 := by omega
    have z2 : lp2.length - x7.toNat + min x7.toNat lp2.length ≤ 16777216 := by omega
    simp [rest, eb]
    simp [sRunning, hD, -runF_eq, e6, e7, q6, lI_cutT _ a7, lI_cutD _ a7, z1, z2]
  · refine ⟨hd, lp2, ?_, wh, p3, p1, p2, by omega⟩
    simp [rest, eb]
    simp [sRunning, hD, -runF_eq, e6, q6]
/-! ### the row of a running -/
def ch (h l : List Int) (i : Nat) : Int := if i < h.length then h.getD i 0 else l.getD ((i - h.length) % l.length) 0
def rw_ (h l : List Int) (n : Nat) : List Int := (List.range n).map (ch h l)
@[simp] theorem rw_len (h l : List Int) (n : Nat) : (rw_ h l n).length = n := by simp [rw_]
theorem rw_take (h l : List Int) {n k : Nat} (hk : k ≤ n) : (rw_ h l n).take k = rw_ h l k := by
  unfold rw_
  rw [← List.map_take, List.take_range, Nat.min_eq_left hk]
theorem rw_at (h l : List Int) {n i : Nat} (hi : i < n) : (rw_ h l n)[i]'(by simpa using hi) = ch h l i := by
  unfold rw_
  simp
theorem rw_head (h l : List Int) {n : Nat} (hn : n ≤ h.length) : rw_ h l n = h.take n := by
  apply List.ext_getElem
  · simp [hn]
  · intro i h1 h2
    have hi : i < n := by simpa using h1
    rw [rw_at h l hi, List.getElem_take]
    unfold ch
    rw [if_pos (by omega), List.getD_eq_getElem?_getD, List.getElem?_eq_getElem (by omega)]
    rfl
theorem gd_l {a b : List Int} {i : Nat} {d : Int} (h : i < a.length) : (a ++ b).getD i d = a.getD i d := by
  rw [List.getD_eq_getElem?_getD, List.getD_eq_getElem?_getD, List.getElem?_append_left h]
theorem gd_r {a b : List Int} {i : Nat} {d : Int} (h : a.length ≤ i) : (a ++ b).getD i d = b.getD (i - a.length) d := by
  rw [List.getD_eq_getElem?_getD, List.getD_eq_getElem?_getD, List.getElem?_append_right h]
theorem rw_laps {h l : List Int} (hl : 0 < l.length) (k r : Nat) (hr : r ≤ l.length) : rw_ h l (h.length + (k * l.length + r)) = h ++ ((List.replicate k l).flatten ++ l.take r) := by
  have fl : (List.replicate k l).flatten.length = k * l.length := by rw [List.length_flatten, List.map_replicate, List.sum_replicate_nat]
  have rp : ∀ (k i : Nat) (hi : i < k * l.length), (List.replicate k l).flatten.getD i 0 = l.getD (i % l.length) 0 := by
    intro k
    induction k with
    | zero => intro i hi; omega
    | succ k ih =>
      intro i hi
      rw [List.replicate_succ, List.flatten_cons]
      rw [Nat.succ_mul] at hi
      by_cases q : i < l.length
      · rw [gd_l q, Nat.mod_eq_of_lt q]
      · rw [gd_r (by omega), ih (i - l.length) (by omega)]
        congr 1
        rw [← Nat.mod_eq_sub_mod (by omega)]
  apply List.ext_getElem
  · simp [fl]; omega
  · intro i h1 h2
    have hi : i < h.length + (k * l.length + r) := by simpa using h1
    rw [rw_at h l hi]
    have e : ∀ (a : List Int) (j : Nat) (q : j < a.length), a[j] = a.getD j 0 := fun a j q => by rw [List.getD_eq_getElem?_getD, List.getElem?_eq_getElem q]; rfl
    rw [e]
    unfold ch
    by_cases q : i < h.length
    · rw [if_pos q, gd_l q]
    · rw [if_neg q, gd_r (by omega)]
      by_cases q2 : i - h.length < k * l.length
      · rw [gd_l (by omega), rp _ _ q2]
      · rw [gd_r (by omega), fl]
        have : i - h.length - k * l.length < r := by omega
        have e2 : (i - h.length) % l.length = i - h.length - k * l.length := by
          obtain ⟨j, hj⟩ : ∃ j, i - h.length = j + k * l.length := ⟨i - h.length - k * l.length, by omega⟩
          rw [hj, Nat.add_sub_cancel, Nat.mul_comm, Nat.add_mul_mod_self_left]
          exact Nat.mod_eq_of_lt (by omega)
        rw [e2, List.getD_eq_getElem?_getD, List.getD_eq_getElem?_getD, List.getElem?_take, if_pos this]
theorem rw_wi {m : Int} {h l : List Int} (R : Rn m h l) (n : Nat) : Wi m (rw_ h l n) := by
  intro x hx
  obtain ⟨i, hi, rfl⟩ := List.mem_map.mp hx
  unfold ch
  split
  · rename_i q
    rw [List.getD_eq_getElem?_getD, List.getElem?_eq_getElem q]
    exact R.wh _ (List.getElem_mem q)
  · have q : (i - h.length) % l.length < l.length := Nat.mod_lt _ R.pos
    rw [List.getD_eq_getElem?_getD, List.getElem?_eq_getElem q]
    exact R.wl _ (List.getElem_mem q)
/-- a row written out -/
def sUnrolledC : Ex := .cmp .lt (.bi .len [.var 2]) (.var 1)
def sUnrolledL : List St := [.ext 2 [] (.ix (.var 0) (.con (.int 1)))]
def sUnrolled : List St := [.asg 2 (.bi .list [.ix (.var 0) (.con (.int 0))]) (.fz [0]), .whl sUnrolledC sUnrolledL, .ret (.sl (.var 2) .omit (.var 1))]
theorem unrolled_ok {Γ : Fe} {h l : List Int} (hl : 0 < l.length) (hl2 : l.length ≤ 100000) (hh : h.length ≤ 100000) (n : Nat) (hn : n ≤ 1000000) : runF Γ 3 2 sUnrolled [.tup [.lst (lI h), .lst (lI l)], .int n] = .ok (.lst (lI (rw_ h l n))) 1 := by
  obtain ⟨ρ', e, ⟨k, rfl, _⟩, ec⟩ := whl_to (c := fun ρ => evT Γ sUnrolledC (viewA ρ)) (b := exB Γ sUnrolledL)
    (fun ρ => ∃ k, ρ = [some ⟨.tup [.lst (lI h), .lst (lI l)], 0, false⟩, some ⟨.int n, 0, false⟩, some ⟨.lst (lI (rw_ h l (h.length + k * l.length))), 1, false⟩] ∧ h.length + k * l.length ≤ 2000000) (fun ρ => match ρ with | [_, _, some ⟨.lst x, _, _⟩] => n - x.length | _ => 0)
    (fun ρ ⟨k, e, hk⟩ => by
      subst e
      by_cases h0 : h.length + k * l.length < n
      · have h0' : (h.length : Int) + k * l.length < n := by exact_mod_cast h0
        have e2 : rw_ h l (h.length + (k + 1) * l.length) = rw_ h l (h.length + k * l.length) ++ l := by
          have a1 := rw_laps (h := h) hl (k + 1) 0 (Nat.zero_le _)
          have a2 := rw_laps (h := h) hl k 0 (Nat.zero_le _)
          simp only [Nat.add_zero, List.take_zero, List.append_nil] at a1 a2
          rw [a1, a2, List.replicate_succ', List.flatten_append, List.append_assoc]
          simp
        have sz : h.length + k * l.length + l.length ≤ 16777216 := by omega
        have hkk : (k + 1) * l.length = k * l.length + l.length := Nat.succ_mul _ _
        refine .inr ⟨by simp [sUnrolledC, h0'], _, .inl ?_, ⟨k + 1, rfl, by omega⟩, ?_⟩
        · simp [sUnrolledL, pathOk_eq, mutS_eq, flat_lI, sz, e2]
        · simp
          omega
      · have h0' : ¬ (h.length : Int) + k * l.length < n := by exact_mod_cast h0
        exact .inl (by simp [sUnrolledC, h0']))
    _ [some ⟨.tup [.lst (lI h), .lst (lI l)], 0, false⟩, some ⟨.int n, 0, false⟩, some ⟨.lst (lI h), 1, false⟩] (Nat.le_refl _) ⟨0, by rw [Nat.zero_mul, Nat.add_zero, rw_head h l (Nat.le_refl _), List.take_length], by omega⟩
  have hn2 : n ≤ h.length + k * l.length := by
    simp [sUnrolledC] at ec
    exact_mod_cast ec
  simp only [evT_eq] at e
  simp [sUnrolled, e, lI_take, rw_take h l hn2]
end PL
/-! PL26: what dueturns' runnings answer. -/
namespace PL
open PySem L2
@[simp] theorem shp_lI (n : Nat) (a : List Int) : shp (n + 1) (.lst (lI a)) = true := by
  unfold shp
  induction a with
  | nil => unfold shpL; rfl
  | cons x a ih =>
    show shpL n (.int x :: lI a) = true
    unfold shpL
    rw [shp_int, ih]
    rfl
@[simp] theorem shp_lI60 (a : List Int) : shp 60 (.lst (lI a)) = true := shp_lI 59 a
@[simp] theorem shp_lI59 (a : List Int) : shp 59 (.lst (lI a)) = true := shp_lI 58 a
@[simp] theorem shp_lI58 (a : List Int) : shp 58 (.lst (lI a)) = true := shp_lI 57 a
theorem eqL_lI : ∀ a b : List Int, eqDL (lI a) (lI b) = decide (a = b)
  | [], [] => by unfold lI eqDL; rfl
  | [], y :: b => by unfold lI; simp only [List.map_nil, List.map_cons]; unfold eqDL; simp
  | x :: a, [] => by unfold lI; simp only [List.map_nil, List.map_cons]; unfold eqDL; simp
  | x :: a, y :: b => by
    show eqDL (.int x :: lI a) (.int y :: lI b) = _
    unfold eqDL
    rw [eq_int, eqL_lI a b]
    by_cases h : x = y <;> by_cases h2 : a = b <;> simp [h, h2]
@[simp] theorem eq_lI (a b : List Int) : eqD (.lst (lI a)) (.lst (lI b)) = decide (a = b) := by
  unfold eqD
  exact eqL_lI a b
@[simp] theorem eqL_lIs (a b : List Int) : eqDL (lI a) (lI b) = decide (a = b) := eqL_lI a b
@[simp] theorem eqL_lI0 (a : List Int) : eqDL (lI a) [] = decide (a = []) := eqL_lI a []
@[simp] theorem eq_lI0 (a : List Int) : eqD (.lst (lI a)) (.lst []) = decide (a = []) := eq_lI a []
@[simp] theorem shp_lst0 : shp 60 (.lst []) = true := shp_lI60 []
@[simp] theorem shp_tup (n : Nat) (l : List D) : shp (n + 1) (.tup l) = shpL n l := by unfold shp; rfl
@[simp] theorem shp_tup60 (l : List D) : shp 60 (.tup l) = shpL 59 l := shp_tup 59 l
@[simp] theorem shp_tup59 (l : List D) : shp 59 (.tup l) = shpL 58 l := shp_tup 58 l
@[simp] theorem shp_tup58 (l : List D) : shp 58 (.tup l) = shpL 57 l := shp_tup 57 l
@[simp] theorem shpL_nil (n : Nat) : shpL n [] = true := by unfold shpL; rfl
@[simp] theorem shpL_cons (n : Nat) (d : D) (l : List D) : shpL n (d :: l) = (shp n d && shpL n l) := by rw [shpL]
@[simp] theorem eq_tup (a b : List D) : eqD (.tup a) (.tup b) = eqDL a b := by unfold eqD; rfl
@[simp] theorem eq_lst (a b : List D) : eqD (.lst a) (.lst b) = eqDL a b := by unfold eqD; rfl
@[simp] theorem eqL_nil : eqDL [] [] = true := by unfold eqDL; rfl
@[simp] theorem eqL_cons (x y : D) (a b : List D) : eqDL (x :: a) (y :: b) = (eqD x y && eqDL a b) := by rw [eqDL]
@[simp] theorem all_rep (n : Nat) : biD .all [.lst (List.replicate n (.bl true))] = .ok (.bl true) 0 := by
  have := bi_allB (List.replicate n true)
  rw [List.map_replicate] at this
  rw [this]
  simp
/-- a comprehension that tells True of each int -/
theorem comp_lI {Γ : Fe} {elt : Ex} {δ : Ev} {i : Nat} {l : List Int} (h : ∀ x ∈ l, evE Γ elt ((wipeE δ [i]).set i (some (.int x))) = .ok (.bl true) 0) : compL [i] (evE Γ elt) (fun _ => .ok true) (lI l) (wipeE δ [i]) = .ok (List.replicate l.length (.bl true, 0)) := by
  have := compL_to (fun _ => (PL.D.bl true, 0)) (tg := [i]) (elt := evE Γ elt) (cnd := fun _ => .ok true) (δ := wipeE δ [i]) (xs := lI l) 0 fun j d hd => by
    unfold lI at hd
    rw [List.getElem?_map] at hd
    cases e : l[j]? with
    | none => rw [e] at hd; cases hd
    | some x =>
      rw [e] at hd
      cases hd
      exact ⟨_, takeE_one _ _ _, rfl, h x (List.mem_of_getElem? e)⟩
  rw [this, lI_len]
  congr 1
  apply List.ext_getElem
  · simp
  · intro i h1 h2
    simp
theorem dep_rep (d : D) (n : Nat) (h : immB n d = true) (k : Nat) : dep (List.replicate k (d, n)) = 9 := dep_imm fun p hp => by
  rw [(List.mem_replicate.mp hp).2]
  exact h
theorem dep_ints {α : Type} (l : List α) (f : α → Int) : dep (l.map fun i => (D.int (f i), 0)) = 9 := dep_imm fun p hp => by
  obtain ⟨i, _, rfl⟩ := List.mem_map.mp hp
  simp
theorem newL_ints {T : List Int} (h : T.length ≤ 16777216) : newL (T.map fun z => (D.int z, 0)) = .ok (.lst (lI T)) 10 := by
  rw [newL_eq, dep_ints T fun z => z]
  simp [h, lI]
theorem newL_trues {n : Nat} (h : n ≤ 16777216) : newL (List.replicate n (D.bl true, 0)) = .ok (.lst (List.replicate n (.bl true))) 10 := by
  rw [newL_eq, dep_rep _ _ (imm_bl _ _)]
  simp [h]
/-! ### checks -/
def sWithin (w : Nat) : List St := [.ret (.and (.call w [.var 0]) (.cmp2 .le .le (.var 1) (.var 0) (.var 2)))]
theorem within_ok {Γ : Fe} {w : Nat} (hw : ∀ a, Γ.fn w [.int a] = .ok (.bl true) 0) {a lo hi : Int} (h1 : lo ≤ a) (h2 : a ≤ hi) : runF Γ 3 3 (sWithin w) [.int a, .int lo, .int hi] = .ok (.bl true) 0 := by
  simp [sWithin, hw, h1, h2]
def sClaimX (v : Nat) : Ex := .call v [.var 2, .con (.int 0), .bin .sub (.var 1) (.con (.int 1))]
def sClaim (v : Nat) : List St := [.ret (.and (.isi (.var 0) .list) (.bi .all [.comp .seq [.var 0] [2] (sClaimX v)]))]
theorem claim_ok {Γ : Fe} {v : Nat} (hv : ∀ a lo hi : Int, lo ≤ a → a ≤ hi → Γ.fn v [.int a, .int lo, .int hi] = .ok (.bl true) 0) {l : List Int} {m : Int} (h : Wi m l) (hl : l.length ≤ 16777216) : runF Γ 3 2 (sClaim v) [.lst (lI l), .int m] = .ok (.bl true) 0 := by
  have k := comp_lI (Γ := Γ) (elt := sClaimX v) (δ := [some (.lst (lI l)), some (.int m), none]) (i := 2) (l := l) fun x hx => by
    obtain ⟨h1, h2⟩ := h x hx
    have := hv x 0 (m - 1) h1 (by omega)
    simp [sClaimX, this]
  simp at k
  simp [sClaim, compD, k, hl]
def sIsRunning (c g : Nat) : List St := [.ife (.or (.not (.isi (.var 0) .tuple)) (.or (.cmp .ne (.bi .len [.var 0]) (.con (.int 2))) (.not (.call c [.ix (.var 0) (.con (.int 0)), .glo g])))) [.ret (.con (.bl false))] [], .ret (.and (.call c [.ix (.var 0) (.con (.int 1)), .glo g]) (.cmp .gt (.bi .len [.ix (.var 0) (.con (.int 1))]) (.con (.int 0))))]
theorem isRunning_ok {Γ : Fe} {c g : Nat} {h l : List Int} (hg : Γ.gl g = .int 6) (h1 : Γ.fn c [.lst (lI h), .int 6] = .ok (.bl true) 0) (h2 : Γ.fn c [.lst (lI l), .int 6] = .ok (.bl true) 0) (hl : 0 < l.length) : runF Γ 1 1 (sIsRunning c g) [.tup [.lst (lI h), .lst (lI l)]] = .ok (.bl true) 0 := by
  simp [sIsRunning, hg, h1, h2, hl]
def sCheck1 (c : Nat) (r : St) : List St := [.ife (.not (.call c [.var 0])) [r] []]
theorem check1_ok {Γ : Fe} {c : Nat} {r : St} {d : D} (h : Γ.fn c [d] = .ok (.bl true) 0) : runF Γ 1 1 (sCheck1 c r) [d] = .ok .non 0 := by
  simp [sCheck1, h]
/-! ### who is chosen -/
def sChoice : List St := [.asgs [2, 3] (.var 0) (.fz [0]), .ife (.cmp .le (.var 1) (.bi .len [.var 2])) [.ret (.ix (.var 2) (.bin .sub (.var 1) (.con (.int 1))))] [], .ret (.ix (.var 3) (.bin .mod (.bin .sub (.bin .sub (.var 1) (.bi .len [.var 2])) (.con (.int 1))) (.bi .len [.var 3])))]
theorem fmod_nat (a b : Nat) : (a : Int).fmod (b : Int) = ((a % b : Nat) : Int) := by
  rw [Int.fmod_eq_emod_of_nonneg _ (by omega)]
  rfl
theorem fdiv_nat (a b : Nat) : (a : Int).fdiv (b : Int) = ((a / b : Nat) : Int) := by
  rw [Int.fdiv_eq_ediv_of_nonneg _ (by omega)]
  rfl
theorem gd_at {l : List Int} {i : Nat} (h : i < l.length) : l.getD i 0 = l[i] := by
  rw [List.getD_eq_getElem?_getD, List.getElem?_eq_getElem h]
  rfl
theorem choice_ok {Γ : Fe} {h l : List Int} (hl : 0 < l.length) (i : Nat) : runF Γ 4 2 sChoice [.tup [.lst (lI h), .lst (lI l)], .int ((i : Int) + 1)] = .ok (.int (ch h l i)) 0 := by
  by_cases q : i < h.length
  · have q' : (i : Int) + 1 ≤ h.length := by omega
    have A := lI_at q
    simp [sChoice, q', A, ch, q, gd_at q]
  · have q' : ¬ (i : Int) + 1 ≤ h.length := by omega
    have q2 : (i - h.length) % l.length < l.length := Nat.mod_lt _ hl
    have e : ((i : Int) + 1 - (h.length : Int) - 1).fmod (l.length : Int) = (((i - h.length) % l.length : Nat) : Int) := by
      rw [show (i : Int) + 1 - (h.length : Int) - 1 = ((i - h.length : Nat) : Int) by omega, fmod_nat]
    have z : ¬ l = [] := by rintro rfl; simp at hl
    have c : ch h l i = l.getD ((i - h.length) % l.length) 0 := if_neg q
    rw [c]
    generalize (i - h.length) % l.length = j at q2 e
    have A := lI_at q2
    rw [gd_at q2]
    simp [sChoice, q', e, A, z]
/-! ### how often -/
def sCountIn : List St := [.asgs [4, 5] (.var 0) (.fz [0]), .ife (.cmp .le (.var 2) (.bi .len [.var 4])) [.ret (.bm .count (.sl (.var 4) .omit (.var 2)) [.var 1])] [], .asg 3 (.bin .sub (.var 2) (.bi .len [.var 4])) .imm, .ret (.bin .add (.bin .add (.bm .count (.var 4) [.var 1]) (.bin .mul (.bin .fdiv (.var 3) (.bi .len [.var 5])) (.bm .count (.var 5) [.var 1]))) (.bm .count (.sl (.var 5) .omit (.bin .mod (.var 3) (.bi .len [.var 5]))) [.var 1]))]
theorem count_rep (l : List Int) (x : Int) : ∀ k : Nat, (List.replicate k l).flatten.count x = k * l.count x
  | 0 => by simp
  | k + 1 => by rw [List.replicate_succ, List.flatten_cons, List.count_append, count_rep l x k, Nat.succ_mul]; omega
/-- by whole laps -/
theorem rw_div {h l : List Int} (hl : 0 < l.length) {n : Nat} (hn : h.length ≤ n) : rw_ h l n = h ++ ((List.replicate ((n - h.length) / l.length) l).flatten ++ l.take ((n - h.length) % l.length)) := by
  have e := Nat.div_add_mod (n - h.length) l.length
  rw [Nat.mul_comm] at e
  rw [← rw_laps hl _ _ (Nat.le_of_lt (Nat.mod_lt _ hl)), e]
  congr 1
  omega
theorem rw_count {h l : List Int} (hl : 0 < l.length) {n : Nat} (hn : h.length ≤ n) (x : Int) : (rw_ h l n).count x = h.count x + ((n - h.length) / l.length * l.count x + (l.take ((n - h.length) % l.length)).count x) := by
  rw [rw_div hl hn, List.count_append, List.count_append, count_rep]
theorem countIn_ok {Γ : Fe} {h l : List Int} (hl : 0 < l.length) (hl2 : l.length ≤ 1000000) (x : Int) (n : Nat) (hn : n ≤ 10 ^ 60) : runF Γ 6 3 sCountIn [.tup [.lst (lI h), .lst (lI l)], .int x, .int n] = .ok (.int ((rw_ h l n).count x : Nat)) 0 := by
  by_cases q : n ≤ h.length
  · have q' : (n : Int) ≤ h.length := by omega
    simp [sCountIn, q, q', lI_take, rw_head h l q]
  · have q' : ¬ (n : Int) ≤ h.length := by omega
    have e : (n : Int) - (h.length : Int) = ((n - h.length : Nat) : Int) := by omega
    have z : ¬ l = [] := by rintro rfl; simp at hl
    have dv : divOk (l.length : Int) = true := small_div (by omega) (by omega)
    have c1 : l.count x ≤ l.length := List.count_le_length
    have c2 : (n - h.length) / l.length ≤ n - h.length := Nat.div_le_self _ _
    have c3 : ((n : Int) - (h.length : Int)).fdiv (l.length : Int) = ((n - h.length) / l.length : Nat) := by rw [e, fdiv_nat]
    have c4 : ((n : Int) - (h.length : Int)).fmod (l.length : Int) = ((n - h.length) % l.length : Nat) := by rw [e, fmod_nat]
    rw [rw_count hl (Nat.le_of_not_le q) x]
    generalize (n - h.length) / l.length = a at c2 c3
    generalize (n - h.length) % l.length = b at c4
    have m : mulOk (a : Int) (l.count x : Int) = true := small_mul (by omega) (by omega)
    simp [sCountIn, q', c3, c4, dv, z, m, lI_take]
    omega
/-! ### the places -/
def pls (l : List Int) (x : Int) : List Int := ((List.range l.length).filter fun i => l.getD i 0 == x).map fun i : Nat => ((i : Nat) : Int) + 1
def sPlacesX : Ex := .bin .add (.var 2) (.con (.int 1))
def sPlacesY : Ex := .cmp .eq (.var 3) (.var 1)
def sPlaces : List St := [.ret (.compIf .enum [.var 0] [2, 3] sPlacesX sPlacesY)]
theorem places_ok {Γ : Fe} (l : List Int) (x : Int) (hl : l.length ≤ 16777216) : runF Γ 4 2 sPlaces [.lst (lI l), .int x] = .ok (.lst (lI (pls l x))) 10 := by
  have k := compL_if (fun i => l.getD i 0 == x) (fun i => (PL.D.int ((i : Int) + 1), 0)) (tg := [2, 3]) (elt := evE Γ sPlacesX) (cnd := fun δ => evT Γ sPlacesY δ) (δ := [some (.lst (lI l)), some (.int x), none, none]) (xs := (lI l).zipIdx.map fun p => .tup [.int (p.2 : Nat), p.1]) 0 fun i d hd => by
    rw [List.getElem?_map, List.getElem?_zipIdx] at hd
    unfold lI at hd
    rw [List.getElem?_map] at hd
    cases e : l[i]? with
    | none => rw [e] at hd; cases hd
    | some y =>
      rw [e] at hd
      simp at hd
      subst hd
      have gy : l.getD i 0 = y := by rw [List.getD_eq_getElem?_getD, e]; rfl
      refine ⟨_, rfl, ?_, fun _ => ?_⟩
      · rw [Nat.zero_add, gy]
        by_cases hy : y = x <;> simp [sPlacesY, hy]
      · simp [sPlacesX]
  have ln : (((List.range l.length).filter fun i => l.getD i 0 == x)).length ≤ l.length := Nat.le_trans (List.length_filter_le _ _) (by simp)
  rw [List.length_map, List.length_zipIdx, lI_len, ← List.range_eq_range'] at k
  have hp : pls l x = ((List.range l.length).filter fun i => l.getD i 0 == x).map fun i : Nat => ((i : Nat) : Int) + 1 := rfl
  rw [hp]
  generalize ((List.range l.length).filter fun i => l.getD i 0 == x) = X at k ln
  have ln' := Nat.le_trans ln hl
  simp only [evT_eq] at k
  simp [sPlaces, compD, k, dep_ints, ln']
  simp [lI]
theorem pls_app (a b : List Int) (x : Int) : pls (a ++ b) x = pls a x ++ (pls b x).map (· + (a.length : Int)) := by
  unfold pls
  rw [List.length_append, List.range_add, List.filter_append, List.map_append, List.filter_map, List.map_map, List.map_map]
  congr 1
  · congr 1
    apply List.filter_congr
    intro i hi
    rw [gd_l (List.mem_range.mp hi)]
  · rw [show ((fun i => (a ++ b).getD i 0 == x) ∘ fun x => a.length + x) = (fun i => b.getD i 0 == x) from by
      funext i
      show ((a ++ b).getD (a.length + i) 0 == x) = _
      rw [gd_r (Nat.le_add_right _ _), Nat.add_sub_cancel_left]]
    apply List.map_congr_left
    intro i _
    show (((a.length + i : Nat) : Int) + 1) = (i : Int) + 1 + a.length
    omega
theorem pls_nil {l : List Int} {x : Int} (h : x ∉ l) : pls l x = [] := by
  unfold pls
  rw [List.filter_eq_nil_iff.mpr]
  · rfl
  · intro i hi
    have := List.mem_range.mp hi
    rw [gd_at this]
    intro e
    exact h (by rw [← eq_of_beq e]; exact List.getElem_mem this)
theorem pls_one (y x : Int) : pls [y] x = if y = x then [1] else [] := by
  unfold pls
  by_cases h : y = x <;> simp [List.range_succ, h]
theorem pls_le (l : List Int) (x : Int) : (pls l x).length ≤ l.length := by
  unfold pls
  rw [List.length_map]
  exact Nat.le_trans (List.length_filter_le _ _) (by simp)
/-! ### the turn of a choice -/
def sTurnOf (c9 c15 c10 c18 g : Nat) : List St := [.ex (.call c9 [.var 0]), .ex (.call c15 [.var 1, .glo g]), .ex (.call c10 [.var 2, .con (.int 1)]), .asgs [6, 7] (.var 0) (.fz [0]), .asg 3 (.call c18 [.var 6, .var 1]) (.fz [1, 6]), .ife (.cmp .le (.var 2) (.bi .len [.var 3])) [.ret (.ix (.var 3) (.bin .sub (.var 2) (.con (.int 1))))] [], .asg 4 (.call c18 [.var 7, .var 1]) (.fz [1, 7]), .ife (.cmp .eq (.var 4) (.lst [])) [.ret (.con .non)] [], .asg 5 (.bin .sub (.bin .sub (.var 2) (.bi .len [.var 3])) (.con (.int 1))) .imm, .ret (.bin .add (.bin .add (.bi .len [.var 6]) (.bin .mul (.bin .fdiv (.var 5) (.bi .len [.var 4])) (.bi .len [.var 7]))) (.ix (.var 4) (.bin .mod (.var 5) (.bi .len [.var 4]))))]
/-- what turn_of tells: of the choice number k + 1 -/
def tn (h l : List Int) (x : Int) (k : Nat) : D := if k < (pls h x).length then .int ((pls h x).getD k 0) else if pls l x = [] then .non else .int ((h.length : Int) + ((k - (pls h x).length) / (pls l x).length : Nat) * l.length + (pls l x).getD ((k - (pls h x).length) % (pls l x).length) 0)
theorem turnOf_ok {Γ : Fe} {c9 c15 c10 c18 g : Nat} {h l : List Int} (hg : Γ.gl g = .int 6) (hl2 : l.length ≤ 1000000) (hh2 : h.length ≤ 1000000) (x : Int) (k : Nat) (hk : k ≤ 10 ^ 60) (e9 : Γ.fn c9 [.tup [.lst (lI h), .lst (lI l)]] = .ok .non 0) (e15 : Γ.fn c15 [.int x, .int 6] = .ok .non 0) (e10 : Γ.fn c10 [.int ((k : Int) + 1), .int 1] = .ok .non 0)
    (e18 : ∀ a, a.length ≤ 1000000 → Γ.fn c18 [.lst (lI a), .int x] = .ok (.lst (lI (pls a x))) 10) : runF Γ 8 3 (sTurnOf c9 c15 c10 c18 g) [.tup [.lst (lI h), .lst (lI l)], .int x, .int ((k : Int) + 1)] = .ok (tn h l x k) 0 := by
  have p1 := e18 h hh2
  have p2 := e18 l hl2
  have n1 := pls_le h x
  have n2 := pls_le l x
  unfold tn
  generalize pls h x = P at p1 n1
  generalize pls l x = T at p2 n2
  by_cases q : k < P.length
  · have q' : (k : Int) + 1 ≤ P.length := by omega
    have A := lI_at q
    simp [sTurnOf, hg, e9, e15, e10, p1, q', A, q]
  · have q' : ¬ (k : Int) + 1 ≤ P.length := by omega
    by_cases z : T = []
    · subst z
      simp [sTurnOf, hg, e9, e15, e10, p1, p2, q', q]
    · have hT : 0 < T.length := List.length_pos_iff.mpr z
      have e : (k : Int) + 1 - (P.length : Int) - 1 = ((k - P.length : Nat) : Int) := by omega
      have c2 : (k - P.length) / T.length ≤ k - P.length := Nat.div_le_self _ _
      have c3 : ((k : Int) + 1 - (P.length : Int) - 1).fdiv (T.length : Int) = ((k - P.length) / T.length : Nat) := by rw [e, fdiv_nat]
      have c4 : ((k : Int) + 1 - (P.length : Int) - 1).fmod (T.length : Int) = ((k - P.length) % T.length : Nat) := by rw [e, fmod_nat]
      have c5 : (k - P.length) % T.length < T.length := Nat.mod_lt _ hT
      rw [if_neg q, if_neg z]
      generalize (k - P.length) / T.length = a at c2 c3
      generalize (k - P.length) % T.length = b at c4 c5
      have A := lI_at c5
      rw [gd_at c5]
      have dv : divOk (T.length : Int) = true := small_div (by omega) (by omega)
      have m : mulOk (a : Int) (l.length : Int) = true := small_mul (by omega) (by omega)
      simp [sTurnOf, hg, e9, e15, e10, p1, p2, q', z, c3, c4, dv, m, A]
end PL
/-! PL27: periods; the least form of a running. -/
namespace PL
open PySem L2
theorem least_ex {P : Nat → Prop} (h : ∃ n, P n) : ∃ n, P n ∧ ∀ m, P m → n ≤ m := by
  obtain ⟨n, hn⟩ := h
  induction n using Nat.strongRecOn with
  | ind n ih =>
    by_cases q : ∃ m, P m ∧ m < n
    · obtain ⟨m, hm, hl⟩ := q
      exact ih m hl hm
    · refine ⟨n, hn, fun m hm => Nat.le_of_not_lt fun hl => q ⟨m, hm, hl⟩⟩
/-- the lap for ever -/
def cl (l : List Int) (k : Nat) : Int := l.getD (k % l.length) 0
def Per (l : List Int) (s : Nat) : Prop := ∀ k, cl l (k + s) = cl l k
theorem per_len (l : List Int) : Per l l.length := fun k => by unfold cl; rw [Nat.add_mod_right]
theorem Per.mul {l : List Int} {s : Nat} (h : Per l s) (k : Nat) : ∀ n, cl l (k + s * n) = cl l k
  | 0 => rfl
  | n + 1 => by rw [Nat.mul_succ, ← Nat.add_assoc, h, h.mul k n]
/-- the least period -/
structure LP (l : List Int) (p : Nat) : Prop where
  pos : 0 < p
  per : Per l p
  min : ∀ s, 0 < s → Per l s → p ≤ s
theorem lp_ex {l : List Int} (hl : 0 < l.length) : ∃ p, LP l p := by
  obtain ⟨p, ⟨h1, h2⟩, h3⟩ := least_ex (P := fun s => 0 < s ∧ Per l s) ⟨l.length, hl, per_len l⟩
  exact ⟨p, h1, h2, fun s a b => h3 s ⟨a, b⟩⟩
theorem LP.le {l : List Int} {p : Nat} (L : LP l p) (hl : 0 < l.length) : p ≤ l.length := L.min _ hl (per_len l)
theorem LP.dvd {l : List Int} {p : Nat} (L : LP l p) (hl : 0 < l.length) : l.length % p = 0 := by
  rcases Nat.eq_zero_or_pos (l.length % p) with h | h
  · exact h
  · have h2 : Per l (l.length % p) := fun k => by
      have e := Nat.mod_add_div l.length p
      rw [← L.per.mul (k + l.length % p) (l.length / p), Nat.add_assoc, e]
      exact per_len l k
    have := L.min _ h h2
    have := Nat.mod_lt l.length L.pos
    omega
/-- a period is seen along one lap -/
theorem per_of {l : List Int} (hl : 0 < l.length) {s : Nat} (h : ∀ k, k < l.length → cl l (k + s) = cl l k) : Per l s := fun k => by
  have e : ∀ j, cl l j = cl l (j % l.length) := fun j => by unfold cl; rw [Nat.mod_mod]
  rw [e (k + s), ← Nat.mod_add_mod, ← e, h _ (Nat.mod_lt _ hl), ← e]
theorem cl_at {l : List Int} {i : Nat} (h : i < l.length) : cl l i = l.getD i 0 := by unfold cl; rw [Nat.mod_eq_of_lt h]
theorem ch_nil (l : List Int) (i : Nat) : ch [] l i = cl l i := by
  unfold ch cl
  rw [if_neg (by simp)]
  simp
theorem ch_far {h l : List Int} (k : Nat) : ch h l (h.length + k) = cl l k := by
  unfold ch cl
  rw [if_neg (by omega), Nat.add_sub_cancel_left]
theorem rep_rw (m : List Int) (hm : 0 < m.length) (k : Nat) : (List.replicate k m).flatten = rw_ [] m (k * m.length) := by
  have := rw_laps (h := []) hm k 0 (Nat.zero_le _)
  simpa using this.symm
/-- a lap is what its beginning of s tells, told over and over -/
theorem told_over {l : List Int} (hl : 0 < l.length) {s : Nat} (h0 : 0 < s) (hs : s ≤ l.length) : (List.replicate (l.length / s) (l.take s)).flatten = l ↔ l.length % s = 0 ∧ Per l s := by
  have hm : (l.take s).length = s := by rw [List.length_take]; omega
  rw [rep_rw (l.take s) (by omega), hm]
  have at_ : ∀ i, i < s → (l.take s).getD i 0 = l.getD i 0 := fun i hi => by
    rw [List.getD_eq_getElem?_getD, List.getD_eq_getElem?_getD, List.getElem?_take, if_pos hi]
  have g : ∀ i, ch [] (l.take s) i = l.getD (i % s) 0 := fun i => by
    rw [ch_nil]
    unfold cl
    rw [hm]
    exact at_ _ (Nat.mod_lt _ h0)
  constructor
  · intro e
    have e1 := congrArg List.length e
    rw [rw_len] at e1
    have hd : l.length % s = 0 := by
      have := Nat.mod_add_div l.length s
      rw [Nat.mul_comm] at e1
      omega
    have e2 : ∀ i, i < l.length → l.getD i 0 = l.getD (i % s) 0 := fun i hi => by
      rw [← g i]
      have q : i < (rw_ [] (l.take s) (l.length / s * s)).length := by rw [rw_len]; omega
      have := rw_at [] (l.take s) (n := l.length / s * s) (i := i) (by omega)
      rw [← this, gd_at hi]
      simp only [e]
    refine ⟨hd, fun k => ?_⟩
    have md : ∀ j, j % l.length % s = j % s := fun j => Nat.mod_mod_of_dvd j (Nat.dvd_of_mod_eq_zero hd)
    unfold cl
    rw [e2 _ (Nat.mod_lt _ hl), e2 (k % l.length) (Nat.mod_lt _ hl), md, md, Nat.add_mod_right]
  · rintro ⟨hd, hp⟩
    have e1 : l.length / s * s = l.length := by
      have := Nat.mod_add_div l.length s
      rw [Nat.mul_comm]
      omega
    rw [e1]
    apply List.ext_getElem
    · rw [rw_len]
    · intro i h1 h2
      rw [rw_at _ _ h2, g, ← gd_at h2, ← cl_at h2, ← cl_at (Nat.lt_of_lt_of_le (Nat.mod_lt _ h0) hs)]
      have := hp.mul (i % s) (i / s)
      rw [Nat.mod_add_div] at this
      exact this.symm
/-- where the row begins to come again -/
structure St0 (h l : List Int) (p q : Nat) : Prop where
  le : q ≤ h.length
  go : ∀ k, q ≤ k → ch h l (k + p) = ch h l k
  min : ∀ t, (∀ k, t ≤ k → ch h l (k + p) = ch h l k) → q ≤ t
theorem far_go {h l : List Int} {p : Nat} (L : LP l p) {k : Nat} (hk : h.length ≤ k) : ch h l (k + p) = ch h l k := by
  obtain ⟨j, rfl⟩ : ∃ j, k = h.length + j := ⟨k - h.length, by omega⟩
  rw [Nat.add_assoc, ch_far, ch_far, L.per]
theorem st_ex {h l : List Int} {p : Nat} (L : LP l p) : ∃ q, St0 h l p q := by
  obtain ⟨q, h1, h2⟩ := least_ex (P := fun t => ∀ k, t ≤ k → ch h l (k + p) = ch h l k) ⟨h.length, fun k hk => far_go L hk⟩
  exact ⟨q, h2 _ fun k hk => far_go L hk, h1, h2⟩
/-- p choices from turn j on -/
def seg (h l : List Int) (p j : Nat) : List Int := (List.range p).map fun i => ch h l (j + i)
theorem seg_len (h l : List Int) (p j : Nat) : (seg h l p j).length = p := by simp [seg]
end PL
/-! PL28: what root_of and least_of answer. -/
namespace PL
open PySem L2
theorem atD_m1 {a : List Int} (h : 0 < a.length) : atD (lI a) (-1) = .ok (.int (a.getD (a.length - 1) 0)) 0 := by
  have A := lI_at (l := a) (i := a.length - 1) (by omega)
  rw [gd_at (by omega), ← A]
  unfold atD atI ixN
  rw [lI_len, if_neg (by omega), if_pos (by omega), if_pos (by omega), if_pos (by omega)]
  have e : (-1 + (a.length : Int)).toNat = ((a.length - 1 : Nat) : Int).toNat := by omega
  rw [e]
theorem cut_m1t (a : List Int) : cutD (lI a) none (some (-1)) = lI (a.take (a.length - 1)) := by
  unfold cutD
  have e : HT.sIx (lI a).length (lI a).length (some (-1)) = a.length - 1 := by
    unfold HT.sIx
    rw [lI_len]
    simp only [show (-1 : Int) < 0 by decide, if_true]
    omega
  rw [e, HT.sIx_none, List.drop_zero, Nat.sub_zero, lI_tk]
theorem cut_m1d (a : List Int) : cutD (lI a) (some (-1)) none = lI (a.drop (a.length - 1)) := by
  unfold cutD
  have e : HT.sIx (lI a).length 0 (some (-1)) = a.length - 1 := by
    unfold HT.sIx
    rw [lI_len]
    simp only [show (-1 : Int) < 0 by decide, if_true]
    omega
  rw [e, HT.sIx_none, lI_len, List.take_of_length_le (by simp), lI_drop]
theorem cut_mid (a : List Int) {i j : Nat} (h1 : i ≤ j) (h2 : j ≤ a.length) : cutD (lI a) (some (i : Int)) (some (j : Int)) = lI ((a.drop i).take (j - i)) := by
  unfold cutD
  rw [HT.sIx_nat, HT.sIx_nat, lI_len, Nat.min_eq_left (Nat.le_trans h1 h2), Nat.min_eq_left h2, lI_drop, lI_tk]
/-! ### the root of a lap -/
def sRootC : Ex := .cmp .ne (.bin .mul (.sl (.var 0) .omit (.var 1)) (.bin .fdiv (.bi .len [.var 0]) (.var 1))) (.var 0)
def sRootL : List St := [.aug 1 (.con (.int 1))]
def sRoot : List St := [.asg 1 (.con (.int 1)) .imm, .whl sRootC sRootL, .ret (.sl (.var 0) .omit (.var 1))]
theorem root_ok {Γ : Fe} {l : List Int} {p : Nat} (hl : 0 < l.length) (hl2 : l.length ≤ 4000) (L : LP l p) : runF Γ 2 1 sRoot [.lst (lI l)] = .ok (.lst (lI (l.take p))) 1 := by
  have hp := L.le hl
  have cond : ∀ s : Nat, 0 < s → s ≤ p → evT Γ sRootC [some (.lst (lI l)), some (.int s)] = .ok (!decide ((List.replicate (l.length / s) (l.take s)).flatten = l)) := fun s h1 h2 => by
    have c1 : l.length / s ≤ l.length := Nat.div_le_self _ _
    have c3 : (l.length : Int).fdiv (s : Int) = (l.length / s : Nat) := fdiv_nat _ _
    have dv : divOk (s : Int) = true := small_div (by omega) (by omega)
    generalize l.length / s = a at *
    have sk : smallI (a : Int) = true := smallI_of (by omega) (by omega)
    have sz : min s l.length * a ≤ 16777216 := by
      have := Nat.mul_le_mul (show min s l.length ≤ 4000 by omega) (show a ≤ 4000 by omega)
      omega
    simp [sRootC, c3, dv, lI_take, sk, sz, lI_rep]
  obtain ⟨ρ', e, ⟨s, rfl, h1, h2⟩, ec⟩ := whl_to (c := fun ρ => evT Γ sRootC (viewA ρ)) (b := exB Γ sRootL)
    (fun ρ => ∃ s : Nat, ρ = [some ⟨.lst (lI l), 0, false⟩, some ⟨.int s, 0, false⟩] ∧ 0 < s ∧ s ≤ p) (fun ρ => match ρ with | [_, some ⟨.int y, _, _⟩] => p - y.toNat | _ => 0)
    (fun ρ ⟨s, e, h1, h2⟩ => by
      subst e
      have c := cond s h1 h2
      by_cases q : (List.replicate (l.length / s) (l.take s)).flatten = l
      · exact .inl (by rw [show viewA _ = [some (.lst (lI l)), some (.int s)] from rfl, c]; simp [q])
      · refine .inr ⟨by rw [show viewA _ = [some (.lst (lI l)), some (.int s)] from rfl, c]; simp [q], [some ⟨.lst (lI l), 0, false⟩, some ⟨.int ((s + 1 : Nat) : Int), 0, false⟩], .inl ?_, ⟨s + 1, rfl, by omega, ?_⟩, ?_⟩
        · simp [sRootL]
        · rcases Nat.lt_or_ge s p with z | z
          · exact z
          · have : s = p := by omega
            subst this
            exact absurd ((told_over hl h1 hp).mpr ⟨L.dvd hl, L.per⟩) q
        · show p - ((s + 1 : Nat) : Int).toNat < p - (s : Int).toNat
          rcases Nat.lt_or_ge s p with z | z
          · omega
          · have : s = p := by omega
            subst this
            exact absurd ((told_over hl h1 hp).mpr ⟨L.dvd hl, L.per⟩) q)
    _ [some ⟨.lst (lI l), 0, false⟩, some ⟨.int 1, 0, false⟩] (Nat.le_refl _) ⟨1, rfl, by decide, L.pos⟩
  have c := cond s h1 h2
  rw [show viewA _ = [some (.lst (lI l)), some (.int s)] from rfl, c] at ec
  have q : (List.replicate (l.length / s) (l.take s)).flatten = l := by simpa using ec
  have : p ≤ s := L.min s h1 ((told_over hl h1 (by omega)).mp q).2
  have : s = p := by omega
  subst this
  simp only [evT_eq] at e
  simp [sRoot, e, lI_take]
/-! ### the least form -/
theorem seg_back {h l : List Int} {p j : Nat} (hp : 0 < p) (hj : 0 < j) (e : ch h l (j - 1 + p) = ch h l (j - 1)) : (seg h l p j).drop (p - 1) ++ (seg h l p j).take (p - 1) = seg h l p (j - 1) := by
  unfold seg
  apply List.ext_getElem
  · simp only [List.length_append, List.length_drop, List.length_take, List.length_map, List.length_range]
    omega
  · intro i h1 h2
    have hi : i < p := by simpa using h2
    by_cases z : i = 0
    · subst z
      rw [List.getElem_append_left (by simp; omega)]
      simp only [List.getElem_drop, List.getElem_map, List.getElem_range]
      rw [show j + (p - 1 + 0) = j - 1 + p by omega, e]
      rfl
    · rw [List.getElem_append_right (by simp; omega)]
      simp only [List.getElem_take, List.getElem_map, List.getElem_range, List.length_drop, List.length_map, List.length_range]
      congr 1
      omega
def sLeastC : Ex := .and (.cmp .ne (.var 1) (.lst [])) (.cmp .eq (.ix (.var 1) (.neg (.con (.int 1)))) (.ix (.var 2) (.neg (.con (.int 1)))))
def sLeastL : List St := [.asg 1 (.sl (.var 1) .omit (.neg (.con (.int 1)))) (.fz [1]), .asg 2 (.bin .add (.sl (.var 2) (.neg (.con (.int 1))) .omit) (.sl (.var 2) .omit (.neg (.con (.int 1))))) (.fz [2])]
def sLeast (c r : Nat) : List St := [.ex (.call c [.var 0]), .asg 1 (.bi .list [.ix (.var 0) (.con (.int 0))]) (.fz [0]), .asg 2 (.call r [.bi .list [.ix (.var 0) (.con (.int 1))]]) (.fz [0]), .whl sLeastC sLeastL, .rett [1, 2]]
theorem least_ok {Γ : Fe} {c r : Nat} {h l : List Int} {p q : Nat} (hl : 0 < l.length) (hl2 : l.length ≤ 4000) (hh2 : h.length ≤ 4000) (L : LP l p) (Q : St0 h l p q) (hc : Γ.fn c [.tup [.lst (lI h), .lst (lI l)]] = .ok .non 0) (hr : Γ.fn r [.lst (lI l)] = .ok (.lst (lI (l.take p))) 1) :
    runF Γ 3 1 (sLeast c r) [.tup [.lst (lI h), .lst (lI l)]] = .ok (.tup [.lst (lI (h.take q)), .lst (lI (seg h l p q))]) 9 := by
  have hp := L.le hl
  have hp0 := L.pos
  have hq := Q.le
  have s0 : seg h l p h.length = l.take p := by
    unfold seg
    apply List.ext_getElem
    · simp
      omega
    · intro i h1 h2
      have hi : i < p := by simpa using h1
      simp only [List.getElem_map, List.getElem_range, List.getElem_take]
      rw [ch_far, cl_at (by omega), gd_at (by omega)]
  have cond : ∀ j : Nat, j ≤ h.length → evT Γ sLeastC [some (.tup [.lst (lI h), .lst (lI l)]), some (.lst (lI (h.take j))), some (.lst (lI (seg h l p j)))] = .ok (decide (0 < j) && decide (ch h l (j - 1) = ch h l (j - 1 + p))) := fun j hj => by
    have sl := seg_len h l p j
    by_cases z : 0 < j
    · have A := atD_m1 (a := h.take j) (by simp; omega)
      have B := atD_m1 (a := seg h l p j) (by omega)
      have e1 : (h.take j).getD ((h.take j).length - 1) 0 = ch h l (j - 1) := by
        have q : (h.take j).length - 1 < (h.take j).length := by simp; omega
        have e0 : (h.take j).length - 1 = j - 1 := by simp; omega
        rw [gd_at q, List.getElem_take]
        unfold ch
        simp only [e0]
        rw [if_pos (by omega), gd_at (by omega)]
      have e2 : (seg h l p j).getD ((seg h l p j).length - 1) 0 = ch h l (j - 1 + p) := by
        rw [gd_at (by omega)]
        unfold seg
        simp only [List.getElem_map, List.getElem_range, List.length_map, List.length_range]
        congr 1
        omega
      rw [e1] at A
      rw [e2] at B
      have ne : ¬ h.take j = [] := fun e => by
        have := congrArg List.length e
        rw [List.length_take, List.length_nil] at this
        omega
      have z' : ¬ j = 0 := by omega
      have hh : ¬ h = [] := fun e => by subst e; simp at hj; omega
      simp [sLeastC, A, B, z, z', hh]
    · have : j = 0 := by omega
      subst this
      simp [sLeastC]
  obtain ⟨ρ', e, ⟨j, rfl, h1, h2⟩, ec⟩ := whl_to (c := fun ρ => evT Γ sLeastC (viewA ρ)) (b := exB Γ sLeastL)
    (fun ρ => ∃ j : Nat, ρ = [some ⟨.tup [.lst (lI h), .lst (lI l)], 0, false⟩, some ⟨.lst (lI (h.take j)), 1, false⟩, some ⟨.lst (lI (seg h l p j)), 1, false⟩] ∧ q ≤ j ∧ j ≤ h.length) (fun ρ => match ρ with | [_, some ⟨.lst y, _, _⟩, _] => y.length | _ => 0)
    (fun ρ ⟨j, e, h1, h2⟩ => by
      subst e
      have c := cond j h2
      by_cases z : 0 < j ∧ ch h l (j - 1) = ch h l (j - 1 + p)
      · have sb := seg_back (h := h) (l := l) hp0 z.1 z.2.symm
        have sl := seg_len h l p j
        refine .inr ⟨by rw [show viewA _ = [some (.tup [.lst (lI h), .lst (lI l)]), some (.lst (lI (h.take j))), some (.lst (lI (seg h l p j)))] from rfl, c, decide_eq_true z.1, decide_eq_true z.2]; rfl, [some ⟨.tup [.lst (lI h), .lst (lI l)], 0, false⟩, some ⟨.lst (lI (h.take (j - 1))), 1, false⟩, some ⟨.lst (lI (seg h l p (j - 1))), 1, false⟩], .inl ?_, ⟨j - 1, rfl, ?_, by omega⟩, ?_⟩
        · have t1 : (h.take j).take (min j h.length - 1) = h.take (j - 1) := by rw [List.take_take]; congr 1; omega
          have sz : p ≤ 16777216 := by omega
          have sz2 : p - (p - 1) + min (p - 1) p ≤ 16777216 := by omega
          rw [← sb]
          simp [sLeastL, cut_m1t, cut_m1d, sl, sz, sz2, t1]
        · rcases Nat.lt_or_ge q j with y | y
          · omega
          · exfalso
            have : q = j := by omega
            subst this
            have := Q.min (q - 1) fun k hk => by
              rcases Nat.lt_or_ge k q with x | x
              · have : k = q - 1 := by omega
                subst this
                exact z.2.symm
              · exact Q.go k x
            omega
        · show (lI (h.take (j - 1))).length < (lI (h.take j)).length
          rw [lI_len, lI_len, List.length_take, List.length_take]
          omega
      · refine .inl ?_
        rw [show viewA _ = [some (.tup [.lst (lI h), .lst (lI l)]), some (.lst (lI (h.take j))), some (.lst (lI (seg h l p j)))] from rfl, c]
        rcases Decidable.not_and_iff_or_not.mp z with y | y
        · rw [decide_eq_false y, Bool.false_and]
        · rw [decide_eq_false y, Bool.and_false])
    _ [some ⟨.tup [.lst (lI h), .lst (lI l)], 0, false⟩, some ⟨.lst (lI h), 1, false⟩, some ⟨.lst (lI (l.take p)), 1, false⟩] (Nat.le_refl _) ⟨h.length, by rw [s0, List.take_length], hq, Nat.le_refl _⟩
  have c := cond j h2
  rw [show viewA _ = [some (.tup [.lst (lI h), .lst (lI l)]), some (.lst (lI (h.take j))), some (.lst (lI (seg h l p j)))] from rfl, c] at ec
  have : j = q := by
    rcases Nat.lt_or_ge q j with y | y
    · have : ch h l (j - 1) = ch h l (j - 1 + p) := (Q.go _ (by omega)).symm
      have z : 0 < j := by omega
      rw [decide_eq_true z, decide_eq_true this] at ec
      cases ec
    · omega
  subst this
  simp only [evT_eq] at e
  simp [sLeast, hc, hr, e]
end PL
set_option exponentiation.threshold 10000
/-! PL29: fractions as pairs; spells drawn. -/
namespace PL
open PySem L2
abbrev Fr := Int × Int
def dF (p : Fr) : D := .tup [.int p.1, .int p.2]
def lowF (a b : Int) : Fr := (a.fdiv (Int.gcd a b), b.fdiv (Int.gcd a b))
theorem lowF_low {a b : Int} (hb : 0 < b) : Low a b (lowF a b).1 (lowF a b).2 := by
  obtain ⟨x, y, L, h1, _⟩ := low_of (a := a) (b := b) (by omega)
  obtain ⟨e1, e2⟩ := h1 hb
  unfold lowF
  rw [e1, e2]
  exact L
theorem Low.uniqN {a b c d x y x' y' : Int} (L : Low a b x y) (M : Low c d x' y') (hb : b ≠ 0) (hd : d ≠ 0) (e : a * d = c * b) : x = x' ∧ y = y' := by
  have e1 := L.eq
  have e2 := M.eq
  have p1 := L.pos
  have p2 := M.pos
  have k : x * y' = x' * y := by
    have : (x * y') * (b * d) = (x' * y) * (b * d) := by
      calc (x * y') * (b * d) = (x * b) * (y' * d) := by ac_rfl
        _ = (a * y) * (y' * d) := by rw [e1]
        _ = (a * d) * (y * y') := by ac_rfl
        _ = (c * b) * (y * y') := by rw [e]
        _ = (c * y') * (b * y) := by ac_rfl
        _ = (x' * d) * (b * y) := by rw [e2]
        _ = (x' * y) * (b * d) := by ac_rfl
    exact Int.eq_of_mul_eq_mul_right (fun z => (Int.mul_eq_zero.mp z).elim hb hd) this
  have kn : x.natAbs * y'.natAbs = x'.natAbs * y.natAbs := by
    have := congrArg Int.natAbs k
    rwa [Int.natAbs_mul, Int.natAbs_mul] at this
  have c1 : Nat.Coprime y.natAbs x.natAbs := by
    have := L.one
    unfold Int.gcd at this
    rw [Nat.coprime_comm]
    exact this
  have c2 : Nat.Coprime y'.natAbs x'.natAbs := by
    have := M.one
    unfold Int.gcd at this
    rw [Nat.coprime_comm]
    exact this
  have d1 : y.natAbs ∣ y'.natAbs := c1.dvd_of_dvd_mul_left ⟨x'.natAbs, by rw [kn, Nat.mul_comm]⟩
  have d2 : y'.natAbs ∣ y.natAbs := c2.dvd_of_dvd_mul_left ⟨x.natAbs, by rw [← kn, Nat.mul_comm]⟩
  have ey : y = y' := by
    have := Nat.dvd_antisymm d1 d2
    omega
  subst ey
  exact ⟨Int.eq_of_mul_eq_mul_right (by omega) k, rfl⟩
theorem Low.uniq {a b c d x y x' y' : Int} (L : Low a b x y) (M : Low c d x' y') (hb : 0 < b) (hd : 0 < d) (e : a * d = c * b) : x = x' ∧ y = y' := L.uniqN M (by omega) (by omega) e
theorem lowF_eq {a b c d : Int} (hb : 0 < b) (hd : 0 < d) (e : a * d = c * b) : lowF a b = lowF c d := by
  obtain ⟨h1, h2⟩ := (lowF_low (a := a) hb).uniq (lowF_low (a := c) hd) hb hd e
  exact Prod.ext h1 h2
/-- what is in lowest terms stays -/
theorem lowF_id {a b : Int} (hb : 0 < b) (h : Int.gcd a b = 1) : lowF a b = (a, b) := by
  unfold lowF
  rw [h]
  simp
theorem madeF_ok {Γ : Fe} {i : Nat} {r : St} (hc : ∀ a b, Γ.fn i [.int a, .int b] = .ok (.int (Int.gcd a b)) 0) {a b : Int} (hb : 0 < b) (hb2 : b.natAbs ≤ 10 ^ 250) : runF Γ 3 2 (sMade i r) [.int a, .int b] = .ok (dF (lowF a b)) 9 := by
  obtain ⟨x, y, L, h1, h2, hg, hle⟩ := low_of (a := a) (b := b) (by omega)
  have d : divOk (Int.gcd a b : Int) = true := small_div (by omega) (by simpa using Nat.le_trans hle hb2)
  have h' : ¬ b < 0 := by omega
  have h'' : ¬ b = 0 := by omega
  simp [sMade, hc, d, h', h'', dF, lowF]
theorem lowestF_ok {Γ : Fe} {i : Nat} (hc : ∀ a b, Γ.fn i [.int a, .int b] = .ok (.int (Int.gcd a b)) 0) {a b : Int} (hb : 0 < b) (hb2 : b.natAbs ≤ 10 ^ 250) : runF Γ 3 2 (sLowest i) [.int a, .int b] = .ok (dF (lowF a b)) 9 := by
  obtain ⟨x, y, L, h1, h2, hg, hle⟩ := low_of (a := a) (b := b) (by omega)
  have d : divOk (Int.gcd a b : Int) = true := small_div (by omega) (by simpa using Nat.le_trans hle hb2)
  simp [sLowest, hc, d, dF, lowF]
/-- a fraction in lowest terms, no greater than B above and below -/
structure FB (B : Int) (p : Fr) : Prop where
  pos : 0 < p.2
  top : p.1.natAbs ≤ B
  low : p.2 ≤ B
  one : Int.gcd p.1 p.2 = 1
theorem lowF_fb {a b B : Int} (hb : 0 < b) (ha : a.natAbs ≤ B) (hb2 : b ≤ B) : FB B (lowF a b) := by
  have L := lowF_low (a := a) hb
  have h1 := L.lx
  have h2 := L.ly
  have h3 := L.pos
  exact ⟨L.pos, by omega, by omega, L.one⟩
/-! ### spells -/
def sWeight (d : Nat) : List St := [.asg 2 (.call d [.var 0, .var 1, .con (.int 9)]) .imm, .ret (.ix (.lst [.con (.int 0), .con (.int 1), .con (.int 1), .con (.int 2), .con (.int 3), .con (.int 5), .con (.int 7), .bin .add (.con (.int 1)) (.call d [.var 0, .bin .add (.var 1) (.con (.int 40)), .con (.int 30)]), .call d [.var 0, .bin .add (.var 1) (.con (.int 41)), .con (.int 1001)]]) (.var 2))]
theorem nine_at (l : List D) (h : l.length = 9) {k : Int} (h0 : 0 ≤ k) (h9 : k < 9) : ∃ d, l[k.toNat]? = some d ∧ atD l k = .ok d 0 := by
  obtain ⟨j, rfl⟩ := Int.eq_ofNat_of_zero_le h0
  have hj : j < l.length := by omega
  exact ⟨l[j], by simpa using List.getElem?_eq_getElem hj, by rw [atD_nat, List.getElem?_eq_getElem hj]⟩
theorem weight_ok {Γ : Fe} {d : Nat} {Γd : Fe} (hD : Γ.fn d = runF Γd 6 3 sDraw) (c k : Int) (hk : 0 ≤ k) (hk2 : k ≤ 900) : ∃ w : Int, runF Γ 3 2 (sWeight d) [.int c, .int k] = .ok (.int w) 0 ∧ 0 ≤ w ∧ w ≤ 1000 := by
  obtain ⟨x, ex, x1, x2⟩ := draw_ok c k 9 hk (by omega) (by decide) (by decide)
  obtain ⟨y, ey, y1, y2⟩ := draw_ok c (k + 40) 30 (by omega) (by omega) (by decide) (by decide)
  obtain ⟨z, ez, z1, z2⟩ := draw_ok c (k + 41) 1001 (by omega) (by omega) (by decide) (by decide)
  replace ex := ex Γd
  replace ey := ey Γd
  replace ez := ez Γd
  obtain ⟨v, hv, ev⟩ := nine_at [.int 0, .int 1, .int 1, .int 2, .int 3, .int 5, .int 7, .int (1 + y), .int z] rfl x1 x2
  have : ∃ w : Int, v = .int w ∧ 0 ≤ w ∧ w ≤ 1000 := by
    have hx : x.toNat < 9 := by omega
    generalize x.toNat = j at hv hx
    match j, hx, hv with
    | 0, _, hv => cases hv; exact ⟨_, rfl, by decide, by decide⟩
    | 1, _, hv => cases hv; exact ⟨_, rfl, by decide, by decide⟩
    | 2, _, hv => cases hv; exact ⟨_, rfl, by decide, by decide⟩
    | 3, _, hv => cases hv; exact ⟨_, rfl, by decide, by decide⟩
    | 4, _, hv => cases hv; exact ⟨_, rfl, by decide, by decide⟩
    | 5, _, hv => cases hv; exact ⟨_, rfl, by decide, by decide⟩
    | 6, _, hv => cases hv; exact ⟨_, rfl, by decide, by decide⟩
    | 7, _, hv => cases hv; exact ⟨_, rfl, by omega, by omega⟩
    | 8, _, hv => cases hv; exact ⟨_, rfl, by omega, by omega⟩
    | j + 9, hx, _ => omega
  obtain ⟨w, rfl, w1, w2⟩ := this
  exact ⟨w, run_of rfl (by simp [sWeight, hD, -runF_eq, ex, ey, ez, ev]), w1, w2⟩
abbrev Sps := List (Nat × List Int)
def dS (p : Nat × List Int) : D := .tup [.int p.1, .lst (lI p.2)]
/-- a spell of m claimants, at most M turns -/
structure SpOk (m M : Nat) (p : Nat × List Int) : Prop where
  t1 : 1 ≤ p.1
  t2 : p.1 ≤ M
  len : p.2.length = m
  w : ∀ x ∈ p.2, 0 ≤ x ∧ x ≤ 1000
  pos : 0 < p.2.sum
/-- a plan's spells -/
structure SpsOk (m M : Nat) (s : Sps) : Prop where
  ne : 0 < s.length
  le : s.length ≤ 3
  m1 : 1 ≤ m
  m6 : m ≤ 6
  sp : ∀ p ∈ s, SpOk m M p
def sSpellsX (w : Nat) : Ex := .call w [.var 1, .bin .add (.bin .mul (.con (.int 7)) (.var 5)) (.var 7)]
def sSpellsL (w d : Nat) : List St := [.asg 6 (.comp .rng1 [.var 3] [7] (sSpellsX w)) (.fz [1, 3, 5]), .ife (.cmp .eq (.bi .sum [.var 6]) (.con (.int 0))) [.setp 6 [] (.call d [.var 1, .bin .add (.con (.int 30)) (.var 5), .var 3]) (.con (.int 1)) .imm] [], .app 4 [] (.tup [.bin .add (.con (.int 1)) (.call d [.var 0, .bin .add (.con (.int 4)) (.var 5), .var 2]), .var 6]) (.fz [0, 2, 5, 6])]
def sSpells (w d : Nat) : List St := [.asg 3 (.bin .add (.con (.int 2)) (.call d [.var 0, .con (.int 0), .con (.int 4)])) .imm, .ife (.cmp .eq (.call d [.var 0, .con (.int 1), .con (.int 8)]) (.con (.int 1))) [.asg 3 (.ix (.lst [.con (.int 1), .con (.int 6)]) (.call d [.var 0, .con (.int 2), .con (.int 2)])) (.fz [0])] [], .asg 4 (.lst []) (.fz []), .fo .rng1 [.bin .add (.con (.int 1)) (.call d [.var 0, .con (.int 3), .con (.int 3)])] [5] [] .imm (sSpellsL w d), .retv 4]
theorem sum_set1 {l : List Int} (h0 : ∀ x ∈ l, 0 ≤ x ∧ x ≤ 1000) {k : Nat} (hk : k < l.length) : (∀ x ∈ l.set k 1, 0 ≤ x ∧ x ≤ 1000) ∧ 0 < (l.set k 1).sum := by
  have h1 : ∀ x ∈ l.set k 1, 0 ≤ x ∧ x ≤ 1000 := fun x hx => by
    rcases List.mem_or_eq_of_mem_set hx with h | h
    · exact h0 x h
    · subst h; omega
  refine ⟨h1, ?_⟩
  have : ∀ (a : List Int), (∀ x ∈ a, 0 ≤ x ∧ x ≤ 1000) → ∀ y ∈ a, y ≤ a.sum := by
    intro a
    induction a with
    | nil => intro _ y hy; cases hy
    | cons x a ih =>
      intro h y hy
      have hs : 0 ≤ a.sum := by
        cases a with
        | nil => simp
        | cons z a => exact Int.le_trans (h z (by simp)).1 (ih (fun x hx => h x (List.mem_cons_of_mem _ hx)) z List.mem_cons_self)
      have hx := h x List.mem_cons_self
      rw [List.sum_cons]
      rcases List.mem_cons.mp hy with rfl | hy
      · omega
      · have := ih (fun x hx => h x (List.mem_cons_of_mem _ hx)) y hy
        omega
  have m : (1 : Int) ∈ l.set k 1 := by
    have := List.mem_iff_getElem.mpr ⟨k, by simpa using hk, List.getElem_set_self (l := l) (a := (1 : Int)) (i := k) (by simpa using hk)⟩
    exact this
  have := this _ h1 _ m
  omega
theorem sum_nn {l : List Int} (h : ∀ x ∈ l, 0 ≤ x ∧ x ≤ 1000) : 0 ≤ l.sum ∧ l.sum ≤ 1000 * l.length := by
  induction l with
  | nil => simp
  | cons x l ih =>
    obtain ⟨h1, h2⟩ := ih fun x hx => h x (List.mem_cons_of_mem _ hx)
    have := h x List.mem_cons_self
    rw [List.sum_cons, List.length_cons]
    omega
theorem set_int (l : List Int) (k : Nat) (x : Int) : (lI l).set k (.int x) = lI (l.set k x) := by
  unfold lI
  rw [List.map_set]
theorem ixN_nat {n : Nat} {k : Int} (h0 : 0 ≤ k) (h : k < n) : ixN n k = some k.toNat := by
  unfold ixN
  rw [if_pos h0, if_pos h]
theorem comp_ints {tg : List Nat} {elt : Ev → Res} {δ : Ev} {lo : Int} {n : Nat} (P : Int → Prop) (h : ∀ i, i < n → ∃ δ1 w, takeE tg (.int (lo + (i : Nat))) δ = some δ1 ∧ elt δ1 = .ok (.int w) 0 ∧ P w) :
    ∃ l : List Int, l.length = n ∧ (∀ x ∈ l, P x) ∧ compL tg elt (fun _ => .ok true) (rngD lo n) δ = .ok (l.map fun z => (D.int z, 0)) := by
  classical
  have h' : ∀ i, ∃ w : Int, i < n → (∃ δ1, takeE tg (.int (lo + (i : Nat))) δ = some δ1 ∧ elt δ1 = .ok (.int w) 0) ∧ P w := fun i => by
    by_cases q : i < n
    · obtain ⟨δ1, w, h1, h2, h3⟩ := h i q
      exact ⟨w, fun _ => ⟨⟨δ1, h1, h2⟩, h3⟩⟩
    · exact ⟨0, fun z => absurd z q⟩
  obtain ⟨f, hf⟩ := Classical.axiomOfChoice h'
  refine ⟨(List.range n).map f, by simp, fun x hx => ?_, ?_⟩
  · obtain ⟨i, hi, rfl⟩ := List.mem_map.mp hx
    exact (hf i (List.mem_range.mp hi)).2
  · rw [compL_rng (fun i => (D.int (f i), 0)) fun i hi => ?_, List.map_map]
    · rfl
    · obtain ⟨⟨δ1, h1, h2⟩, _⟩ := hf i hi
      exact ⟨δ1, h1, rfl, h2⟩
theorem spells_ok {Γ : Fe} {w d : Nat} {Γw Γd Γd' : Fe} {d' : Nat} (hD : Γ.fn d = runF Γd 6 3 sDraw) (hW : Γ.fn w = runF Γw 3 2 (sWeight d')) (hD' : Γw.fn d' = runF Γd' 6 3 sDraw) (c o : Int) (M : Nat) (hM : 1 ≤ M) (hM2 : M ≤ 100) :
    ∃ m s, SpsOk m M s ∧ runF Γ 8 3 (sSpells w d) [.int c, .int o, .int M] = .ok (.lst (s.map dS)) 1 := by
  obtain ⟨x0, e0, a0, b0⟩ := draw_ok c 0 4 (by decide) (by decide) (by decide) (by decide)
  obtain ⟨x1, e1, a1, b1⟩ := draw_ok c 1 8 (by decide) (by decide) (by decide) (by decide)
  obtain ⟨x2, e2, a2, b2⟩ := draw_ok c 2 2 (by decide) (by decide) (by decide) (by decide)
  obtain ⟨x3, e3, a3, b3⟩ := draw_ok c 3 3 (by decide) (by decide) (by decide) (by decide)
  replace e0 := e0 Γd
  replace e1 := e1 Γd
  replace e2 := e2 Γd
  replace e3 := e3 Γd
  obtain ⟨m, hm, m1, m6⟩ : ∃ m : Nat, (m : Int) = (if x1 = 1 then (if x2 = 0 then 1 else 6) else 2 + x0) ∧ 1 ≤ m ∧ m ≤ 6 := by
    refine ⟨(if x1 = 1 then (if x2 = 0 then 1 else 6) else 2 + x0).toNat, ?_, ?_, ?_⟩ <;> (split <;> (try split) <;> omega)
  have turn : ∀ (i : Nat), i < 10 → ∀ (s : Sps) (n : Nat) (o5 o6 o7 : Option Sl), 0 < n → lkO o6 = false → s.length < 10 → (n = 10 ∨ n = 1) → ∃ p q7, SpOk m M p ∧ exB Γ (sSpellsL w d) [some ⟨.int c, 0, false⟩, some ⟨.int o, 0, false⟩, some ⟨.int M, 0, false⟩, some ⟨.int m, 0, false⟩, some ⟨.lst (s.map dS), n, false⟩, some ⟨.int i, 0, false⟩, o6, o7] =
      .nx [some ⟨.int c, 0, false⟩, some ⟨.int o, 0, false⟩, some ⟨.int M, 0, false⟩, some ⟨.int m, 0, false⟩, some ⟨.lst ((s ++ [p]).map dS), 1, false⟩, some ⟨.int i, 0, false⟩, some ⟨.lst (lI p.2), 0, false⟩, q7] := by
    intro i hi s n o5 o6 o7 hn k6 hs hn2
    obtain ⟨ws, l1, l2, l3⟩ := comp_ints (tg := [7]) (elt := evE Γ (sSpellsX w)) (lo := 0) (n := m) (δ := [some (.int c), some (.int o), some (.int M), some (.int m), if n = 0 then some (.lst (s.map dS)) else none, some (.int i), vwO [1, 3, 5] 6 o6, none]) (fun x => 0 ≤ x ∧ x ≤ 1000) fun j hj => by
      obtain ⟨y, ey, y1, y2⟩ := weight_ok hD' o (7 * (i : Int) + (0 + (j : Int))) (by omega) (by omega)
      rw [← hW] at ey
      have m7 : mulOk 7 (i : Int) = true := small_mul (by omega) (by omega)
      rw [Int.zero_add] at ey
      exact ⟨_, y, takeE_one _ _ _, by simp [sSpellsX, ey, m7], y1, y2⟩
    have hn0 : ¬ n = 0 := by omega
    rw [if_neg hn0] at l3
    have nR := newL_ints (T := ws) (by omega)
    have smm : smallI (m : Int) = true := smallI_of (by omega) (by omega)
    obtain ⟨t, et, t1, t2⟩ := draw_ok c (4 + (i : Int)) (M : Int) (by omega) (by omega) (by omega) (by omega)
    replace et := et Γd
    obtain ⟨u, eu, u1, u2⟩ := draw_ok o (30 + (i : Int)) (m : Int) (by omega) (by omega) (by omega) (by omega)
    replace eu := eu Γd
    -- the weights, one put where all are 0
    obtain ⟨ws2, v1, v2, v3, v4⟩ : ∃ ws2 : List Int, ws2.length = m ∧ (∀ x ∈ ws2, 0 ≤ x ∧ x ≤ 1000) ∧ 0 < ws2.sum ∧ (if ws.sum = 0 then ws.set u.toNat 1 else ws) = ws2 := by
      by_cases z : ws.sum = 0
      · obtain ⟨a, b⟩ := sum_set1 l2 (k := u.toNat) (by omega)
        exact ⟨ws.set u.toNat 1, by simpa using l1, a, b, by rw [if_pos z]⟩
      · have := sum_nn l2
        exact ⟨ws, l1, l2, by omega, by rw [if_neg z]⟩
    have sz : s.length < 16777216 := by omega
    have t1' : (((1 + t).toNat : Nat) : Int) = 1 + t := by omega
    refine ⟨((1 + t).toNat, ws2), frzO [0, 2, 5, 6] 7 (frzO [1, 3, 5] 7 o7), ⟨by omega, by omega, v1, v2, v3⟩, ?_⟩
    refine step (ρ' := [some ⟨.int c, 0, false⟩, some ⟨.int o, 0, false⟩, some ⟨.int M, 0, false⟩, some ⟨.int m, 0, false⟩, some ⟨.lst (s.map dS), n, false⟩, some ⟨.int i, 0, false⟩, some ⟨.lst (lI ws), 10, false⟩, frzO [1, 3, 5] 7 o7]) ?_ (step (ρ' := [some ⟨.int c, 0, false⟩, some ⟨.int o, 0, false⟩, some ⟨.int M, 0, false⟩, some ⟨.int m, 0, false⟩, some ⟨.lst (s.map dS), n, false⟩, some ⟨.int i, 0, false⟩, some ⟨.lst (lI ws2), 10, false⟩, frzO [1, 3, 5] 7 o7]) ?_ (step ?_ (exB_nil _ _)))
    · simp [-newL_eq, compD, smm, hn0, l3, nR, k6]
    · by_cases z : ws.sum = 0
      · rw [if_pos z] at v4
        have ix := ixN_nat (n := ws.length) (k := u) u1 (by omega)
        have st := set_int ws u.toNat 1
        rw [v4] at st
        simp [hD, -runF_eq, z, eu, mutS_eq, ix, st]
      · rw [if_neg z] at v4
        subst v4
        simp [z]
    · have dd : (if n ≤ 1 then n else 1) = 1 := by rcases hn2 with h | h <;> subst h <;> rfl
      simp [hD, -runF_eq, et, pathOk_eq, mutS_eq, sz, hn, hn0, dd, dS, t1']
  obtain ⟨ρ', e, s, n, o5, o6, o7, rfl, hs, hp, _, hn1, k5, k6⟩ := for_rng (tg := [5]) (b := exB Γ (sSpellsL w d)) (lo := 0) (n := (1 + x3).toNat) (ρ := [some ⟨.int c, 0, false⟩, some ⟨.int o, 0, false⟩, some ⟨.int M, 0, false⟩, some ⟨.int m, 0, false⟩, some ⟨.lst [], 10, false⟩, none, none, none])
    (fun i ρ => ∃ (s : Sps) (n : Nat) (o5 o6 o7 : Option Sl), ρ = [some ⟨.int c, 0, false⟩, some ⟨.int o, 0, false⟩, some ⟨.int M, 0, false⟩, some ⟨.int m, 0, false⟩, some ⟨.lst (s.map dS), n, false⟩, o5, o6, o7] ∧ s.length = i ∧ (∀ p ∈ s, SpOk m M p) ∧ (i = 0 → n = 10) ∧ (0 < i → n = 1) ∧ lkO o5 = false ∧ lkO o6 = false)
    ⟨[], 10, none, none, none, rfl, rfl, (fun p hp => nomatch hp), fun _ => rfl, fun h => absurd h (by decide), rfl, rfl⟩ fun i ρ hi ⟨s, n, o5, o6, o7, e, hs, hp, h0, h1, k5, k6⟩ => by
      subst e
      have hn : n = 10 ∨ n = 1 := by
        rcases Nat.eq_zero_or_pos i with z | z
        · exact .inl (h0 z)
        · exact .inr (h1 z)
      obtain ⟨p, q7, P, e⟩ := turn i (by omega) s n none o6 o7 (by omega) k6 (by omega) hn
      refine ⟨_, _, by simp [k5], .inl e, s ++ [p], 1, _, _, _, rfl, by simp [hs], fun x hx => ?_, fun h => absurd h (by omega), fun _ => rfl, rfl, rfl⟩
      rcases List.mem_append.mp hx with z | z
      · exact hp x z
      · have : x = p := by simpa using z
        subst this
        exact P
  have hn := hn1 (by omega)
  subst hn
  refine ⟨m, s, ⟨by omega, by omega, m1, m6, hp⟩, ?_⟩
  have sk : smallI (1 + x3) = true := smallI_of (by omega) (by omega)
  refine run_of rfl (step (ρ' := [some ⟨.int c, 0, false⟩, some ⟨.int o, 0, false⟩, some ⟨.int M, 0, false⟩, some ⟨.int (2 + x0), 0, false⟩, none, none, none, none]) ?_ (step (ρ' := [some ⟨.int c, 0, false⟩, some ⟨.int o, 0, false⟩, some ⟨.int M, 0, false⟩, some ⟨.int m, 0, false⟩, none, none, none, none]) ?_
    (step (ρ' := [some ⟨.int c, 0, false⟩, some ⟨.int o, 0, false⟩, some ⟨.int M, 0, false⟩, some ⟨.int m, 0, false⟩, some ⟨.lst [], 10, false⟩, none, none, none]) ?_ (step (ρ' := [some ⟨.int c, 0, false⟩, some ⟨.int o, 0, false⟩, some ⟨.int M, 0, false⟩, some ⟨.int m, 0, false⟩, some ⟨.lst (s.map dS), 1, false⟩, o5, o6, o7]) ?_ (stop ?_)))))
  · simp [hD, -runF_eq, e0]
  · by_cases z : x1 = 1
    · rw [if_pos z] at hm
      have : x2 = 0 ∨ x2 = 1 := by omega
      rcases this with y | y
      · rw [if_pos y] at hm
        subst y
        simp [hD, -runF_eq, e1, e2, z, hm]
      · rw [if_neg (by omega)] at hm
        subst y
        simp [hD, -runF_eq, e1, e2, z, hm]
    · rw [if_neg z] at hm
      simp [hD, -runF_eq, e1, z, hm]
  · simp
  · simp [hD, -runF_eq, e3, sk]
    exact e
  · simp
end PL
set_option exponentiation.threshold 10000
/-! PL30: dues, in the program and in the laws. -/
namespace PL
open PySem L2
@[simp] theorem fldD_obj (fo : Nat → Nat → Bool) (f c : Nat) (ks : List Nat) (vs : List D) : fldD fo f (.obj c ks vs) = if fo c f then (match fldL f ks vs with | some d => .ok d 0 | none => .bad) else .bad := rfl
@[simp] theorem fldL_cons (f k : Nat) (ks : List Nat) (v : D) (vs : List D) : fldL f (k :: ks) (v :: vs) = if k = f then some v else fldL f ks vs := rfl
@[simp] theorem methD_obj (Γ : Fe) (m c : Nat) (ks : List Nat) (vs : List D) (r : RL) : methD Γ m (.obj c ks vs) r = if Γ.mh m c then r.bind fun l => Γ.me m c (.obj c ks vs :: l) else .bad := rfl
def lF (l : List Fr) : List D := l.map dF
def lT (T : List (List Fr)) : List D := T.map fun r => .lst (lF r)
@[simp] theorem lF_len (l : List Fr) : (lF l).length = l.length := by simp [lF]
@[simp] theorem lT_len (l : List (List Fr)) : (lT l).length = l.length := by simp [lT]
@[simp] theorem imm_dF (n : Nat) (p : Fr) : immB n (dF p) = true := by simp [dF]
theorem immL_lF (n : Nat) : ∀ l : List Fr, immBL n (lF l) = true
  | [] => by simp [lF]
  | x :: a => by
    show immBL n (dF x :: lF a) = true
    rw [immL_cons, imm_dF, immL_lF n a]
    rfl
@[simp] theorem imm_lF (n : Nat) (l : List Fr) : immB (n + 1) (.lst (lF l)) = true := by unfold immB; exact immL_lF n l
@[simp] theorem imm_lF1 (l : List Fr) : immB 1 (.lst (lF l)) = true := imm_lF 0 l
@[simp] theorem imm_lF10 (l : List Fr) : immB 10 (.lst (lF l)) = true := imm_lF 9 l
@[simp] theorem imm_lF9 (l : List Fr) : immB 9 (.lst (lF l)) = true := imm_lF 8 l
@[simp] theorem immL_lFs (n : Nat) (l : List Fr) : immBL n (lF l) = true := immL_lF n l
theorem dep_frs {α : Type} (l : List α) (f : α → Fr) : dep (l.map fun i => (dF (f i), 9)) = 9 := dep_imm fun p hp => by
  obtain ⟨i, _, rfl⟩ := List.mem_map.mp hp
  simp
theorem newL_frs {T : List Fr} (h : T.length ≤ 16777216) : newL (T.map fun p => (dF p, 9)) = .ok (.lst (lF T)) 10 := by
  rw [newL_eq, dep_frs T fun z => z]
  simp [h, lF]
/-- a child of a list of rows -/
theorem lT_last {T : List (List Fr)} (h : T ≠ []) : atI (lT T) (-1) = some (.lst (lF (T.getLastD []))) := by
  have hl : 0 < T.length := List.length_pos_iff.mpr h
  have e : ixN (lT T).length (-1) = some (T.length - 1) := by
    unfold ixN
    rw [lT_len, if_neg (by omega), if_pos (by omega)]
    congr 1
    omega
  unfold atI
  rw [e]
  show (lT T)[T.length - 1]? = _
  unfold lT
  rw [List.getElem?_map, List.getElem?_eq_getElem (by omega), List.getLastD_eq_getLast?, List.getLast?_eq_getElem?, List.getElem?_eq_getElem (by omega)]
  rfl
theorem lF_at {l : List Fr} {i : Nat} (h : i < l.length) : atD (lF l) (i : Nat) = .ok (dF (l.getD i (0, 1))) 0 := by
  rw [atD_nat]
  unfold lF
  rw [List.getElem?_map, List.getElem?_eq_getElem h, List.getD_eq_getElem?_getD, List.getElem?_eq_getElem h]
  rfl
/-! ### the sum of two fractions -/
def sPlus (m : Nat) : List St := [.ret (.call m [.bin .add (.bin .mul (.ix (.var 0) (.con (.int 0))) (.ix (.var 1) (.con (.int 1)))) (.bin .mul (.ix (.var 1) (.con (.int 0))) (.ix (.var 0) (.con (.int 1)))), .bin .mul (.ix (.var 0) (.con (.int 1))) (.ix (.var 1) (.con (.int 1)))])]
theorem nab_mul {a b A B : Int} (ha : a.natAbs ≤ A) (hb : b.natAbs ≤ B) : (a * b).natAbs ≤ A * B := by
  rw [Int.natAbs_mul]
  have hA : 0 ≤ A := by omega
  have := Int.mul_le_mul ha hb (by omega) hA
  exact_mod_cast this
theorem plusF_ok {Γ : Fe} {m : Nat} (hm : ∀ a b : Int, 0 < b → b.natAbs ≤ 10 ^ 250 → Γ.fn m [.int a, .int b] = .ok (dF (lowF a b)) 9) {p q : Fr} {B : Int} (P : FB B p) (Q : FB B q) (hB : B ≤ 10 ^ 100) : runF Γ 2 2 (sPlus m) [dF p, dF q] = .ok (dF (lowF (p.1 * q.2 + q.1 * p.2) (p.2 * q.2))) 9 := by
  have a1 := P.pos
  have a2 := P.top
  have a3 := P.low
  have b1 := Q.pos
  have b2 := Q.top
  have b3 := Q.low
  have hp := Int.mul_pos a1 b1
  have hb : (p.2 * q.2).natAbs ≤ 10 ^ 250 := by
    have := nab_mul (a := p.2) (b := q.2) (A := 10 ^ 100) (B := 10 ^ 100) (by omega) (by omega)
    omega
  have e := hm (p.1 * q.2 + q.1 * p.2) (p.2 * q.2) hp hb
  have m1 : mulOk p.1 q.2 = true := small_mul (by omega) (by omega)
  have m2 : mulOk q.1 p.2 = true := small_mul (by omega) (by omega)
  have m3 : mulOk p.2 q.2 = true := small_mul (by omega) (by omega)
  refine run_of rfl ?_
  simp [sPlus, dF, m1, m2, m3]
  rw [e]
  rfl
/-! ### dues -/
def stp (p : Fr) (i w whole : Int) : Fr := lowF (p.1 * whole + i * w * p.2) (p.2 * whole)
theorem stp_eq {p : Fr} {i w whole : Int} (hp : 0 < p.2) (hw : 0 < whole) : lowF (p.1 * (lowF (i * w) whole).2 + (lowF (i * w) whole).1 * p.2) (p.2 * (lowF (i * w) whole).2) = stp p i w whole := by
  have L := lowF_low (a := i * w) hw
  refine lowF_eq (Int.mul_pos hp L.pos) (Int.mul_pos hp hw) ?_
  have e := L.eq
  generalize (lowF (i * w) whole).1 = x at *
  generalize (lowF (i * w) whole).2 = y at *
  calc (p.1 * y + x * p.2) * (p.2 * whole) = p.1 * y * (p.2 * whole) + (x * whole) * (p.2 * p.2) := by rw [Int.add_mul]; congr 1; ac_rfl
    _ = p.1 * y * (p.2 * whole) + (i * w * y) * (p.2 * p.2) := by rw [e]
    _ = (p.1 * whole + i * w * p.2) * (p.2 * y) := by rw [Int.add_mul]; congr 1 <;> ac_rfl
def rowF (first : List Fr) (i : Int) (ws : List Int) : List Fr := (List.range ws.length).map fun who => stp (first.getD who (0, 1)) i (ws.getD who 0) ws.sum
def spellR (first : List Fr) (t : Nat) (ws : List Int) : List (List Fr) := (List.range t).map fun i => rowF first (1 + (i : Nat)) ws
def addSp (T : List (List Fr)) (p : Nat × List Int) : List (List Fr) := T ++ spellR (T.getLastD []) p.1 p.2
def duesF (m : Nat) (s : Sps) : List (List Fr) := s.foldl addSp [List.replicate m (0, 1)]
/-- a table of rows of m fractions -/
structure TB (B : Int) (m : Nat) (T : List (List Fr)) : Prop where
  ne : T ≠ []
  len : ∀ r ∈ T, r.length = m
  fb : ∀ r ∈ T, ∀ p ∈ r, FB B p
theorem FB.mono {B C : Int} {p : Fr} (h : FB B p) (hc : B ≤ C) : FB C p := ⟨h.pos, Int.le_trans h.top hc, Int.le_trans h.low hc, h.one⟩
theorem last_mem {T : List (List Fr)} (h : T ≠ []) : T.getLastD [] ∈ T := by
  cases T with
  | nil => exact absurd rfl h
  | cons a T => simp only [List.getLastD_cons]; rw [List.getLastD_eq_getLast?]; cases e : T.getLast? with
    | none => simp
    | some b => exact List.mem_cons_of_mem _ (List.mem_of_getLast? e)
theorem stp_fb {B : Int} {p : Fr} {i w whole : Int} (hB : 1 ≤ B) (P : FB B p) (i0 : 0 ≤ i) (i1 : i ≤ 60) (w0 : 0 ≤ w) (w1 : w ≤ 1000) (h0 : 0 < whole) (h1 : whole ≤ 6000) : FB (100000 * B) (stp p i w whole) := by
  have a1 := P.pos
  have a2 := P.top
  have a3 := P.low
  refine lowF_fb (Int.mul_pos a1 h0) ?_ ?_
  · have h2 := nab_mul (a := p.1) (b := whole) (A := B) (B := 6000) (by omega) (by omega)
    have h3 := nab_mul (a := i) (b := w) (A := 60) (B := 1000) (by omega) (by omega)
    have h4 := nab_mul (a := i * w) (b := p.2) (A := 60 * 1000) (B := B) h3 (by omega)
    generalize p.1 * whole = u at *
    generalize i * w * p.2 = v at *
    omega
  · have := Int.mul_le_mul a3 h1 (by omega) (by omega)
    omega
theorem FB.get {B : Int} {r : List Fr} {i : Nat} (h : ∀ p ∈ r, FB B p) (hi : i < r.length) : FB B (r.getD i (0, 1)) := by
  rw [List.getD_eq_getElem?_getD, List.getElem?_eq_getElem hi]
  exact h _ (List.getElem_mem hi)
theorem w_get {ws : List Int} {i : Nat} (h : ∀ x ∈ ws, 0 ≤ x ∧ x ≤ 1000) (hi : i < ws.length) : 0 ≤ ws.getD i 0 ∧ ws.getD i 0 ≤ 1000 := by
  rw [gd_at hi]
  exact h _ (List.getElem_mem hi)
theorem rowF_fb {B : Int} {m M : Nat} {first : List Fr} {p : Nat × List Int} (hB : 1 ≤ B) (hm : m ≤ 6) (F : ∀ q ∈ first, FB B q) (hl : first.length = m) (S : SpOk m M p) {i : Int} (i0 : 0 ≤ i) (i1 : i ≤ 60) : (rowF first i p.2).length = m ∧ ∀ q ∈ rowF first i p.2, FB (100000 * B) q := by
  refine ⟨by simp [rowF, S.len], fun q hq => ?_⟩
  obtain ⟨k, hk, rfl⟩ := List.mem_map.mp hq
  have hk' := List.mem_range.mp hk
  obtain ⟨w0, w1⟩ := w_get S.w hk'
  have hs := sum_nn S.w
  have hle := S.len
  exact stp_fb hB (FB.get F (by omega)) i0 i1 w0 w1 S.pos (by omega)
theorem addSp_tb {B : Int} {m M : Nat} {T : List (List Fr)} {p : Nat × List Int} (hB : 1 ≤ B) (hm : m ≤ 6) (hM : M ≤ 60) (h : TB B m T) (S : SpOk m M p) : TB (100000 * B) m (addSp T p) := by
  have hl := last_mem h.ne
  have t2 := S.t2
  refine ⟨fun e => h.ne (List.append_eq_nil_iff.mp e).1, fun r hr => ?_, fun r hr q hq => ?_⟩
  · rcases List.mem_append.mp hr with z | z
    · exact h.len r z
    · obtain ⟨i, hi, rfl⟩ := List.mem_map.mp z
      have := List.mem_range.mp hi
      exact (rowF_fb hB hm (h.fb _ hl) (h.len _ hl) S (i := 1 + (i : Int)) (by omega) (by omega)).1
  · rcases List.mem_append.mp hr with z | z
    · exact (h.fb r z q hq).mono (by omega)
    · obtain ⟨i, hi, rfl⟩ := List.mem_map.mp z
      have := List.mem_range.mp hi
      exact (rowF_fb hB hm (h.fb _ hl) (h.len _ hl) S (i := 1 + (i : Int)) (by omega) (by omega)).2 q hq
end PL
set_option exponentiation.threshold 10000
/-! PL31: the table of dues, by the program. -/
namespace PL
open PySem L2
def dK (p : Nat × List Int) : D := .tup [.int p.1, .tup (lI p.2)]
def sMany : List St := [.ret (.bi .len [.ix (.ix (.fld (.var 0) 0) (.con (.int 0))) (.con (.int 1))])]
theorem many_ok {Γ : Fe} {s : Sps} {m M : Nat} (S : SpsOk m M s) (hf : Γ.fo 0 0 = true) (ks : List Nat) (vs : List D) : runF Γ 1 1 sMany [.obj 0 (0 :: ks) (.lst (s.map dK) :: vs)] = .ok (.int m) 0 := by
  cases s with
  | nil => exact absurd S.ne (by simp)
  | cons p s =>
    have := (S.sp p List.mem_cons_self).len
    simp [sMany, hf, dK, this]
def sDuesX (pl md : Nat) : Ex := .call pl [.ix (.var 5) (.var 7), .call md [.bin .mul (.var 6) (.ix (.var 3) (.var 7)), .var 4]]
def sDuesL0 (pl md : Nat) : List St := [.app 1 [] (.comp .rng1 [.bi .len [.var 3]] [7] (sDuesX pl md)) (.fz [3, 4, 5, 6])]
def sDuesL1 (pl md : Nat) : List St := [.asg 4 (.bi .sum [.var 3]) .imm, .chi 5 1 (.neg (.con (.int 1))), .fo .rng2 [.con (.int 1), .bin .add (.var 2) (.con (.int 1))] [6] [] .imm (sDuesL0 pl md)]
def sDues (mn g pl md : Nat) : List St := [.asg 1 (.lst [.bin .mul (.lst [.glo g]) (.meth mn (.var 0) [])]) (.fz [0]), .fo .seq [.fld (.var 0) 0] [2, 3] [] (.fz [0]) (sDuesL1 pl md), .retv 1]
theorem lI_atT {l : List Int} {i : Nat} (h : i < l.length) : atD (lI l) (i : Nat) = .ok (.int (l.getD i 0)) 0 := by rw [lI_at h, gd_at h]
section
variable {Γ : Fe} {pl md : Nat} {m M : Nat} {B : Int} (hpl : ∀ (p q : Fr) (C : Int), FB C p → FB C q → C ≤ 10 ^ 100 → Γ.fn pl [dF p, dF q] = .ok (dF (lowF (p.1 * q.2 + q.1 * p.2) (p.2 * q.2))) 9) (hmd : ∀ a b : Int, 0 < b → b.natAbs ≤ 10 ^ 250 → Γ.fn md [.int a, .int b] = .ok (dF (lowF a b)) 9)
include hpl hmd
theorem dues_row (hB : 1 ≤ B) (hB2 : B ≤ 10 ^ 90) (hm : m ≤ 6) {first : List Fr} {p : Nat × List Int} (F : ∀ q ∈ first, FB B q) (hl : first.length = m) (S : SpOk m M p) {i : Int} (i0 : 0 ≤ i) (i1 : i ≤ 60) (a0 a1 a2 : Option D) :
    compL [7] (evE Γ (sDuesX pl md)) (fun _ => .ok true) (rngD 0 p.2.length) [a0, a1, a2, some (.tup (lI p.2)), some (.int p.2.sum), some (.lst (lF first)), some (.int i), none] = .ok ((rowF first i p.2).map fun q => (dF q, 9)) := by
  have hs := sum_nn S.w
  have hle := S.len
  have hpos := S.pos
  rw [compL_rng (fun who => (dF (stp (first.getD who (0, 1)) i (p.2.getD who 0) p.2.sum), 9)) fun who hw => ?_]
  · unfold rowF
    rw [List.map_map]
    rfl
  · have A := lF_at (l := first) (i := who) (by omega)
    have Bt := lI_atT (l := p.2) hw
    obtain ⟨w0, w1⟩ := w_get S.w hw
    have P := FB.get F (i := who) (by omega)
    generalize first.getD who (0, 1) = f at *
    generalize p.2.getD who 0 = w at *
    have m1 : mulOk i w = true := small_mul (by omega) (by omega)
    have e1 := hmd (i * w) p.2.sum hpos (by omega)
    have Q : FB (B * 100000) (lowF (i * w) p.2.sum) := by
      have h3 := nab_mul (a := i) (b := w) (A := 60) (B := 1000) (by omega) (by omega)
      exact lowF_fb hpos (by omega) (by omega)
    have e2 := hpl f (lowF (i * w) p.2.sum) (B * 100000) (P.mono (by omega)) Q (by omega)
    rw [stp_eq P.pos hpos] at e2
    rw [Int.zero_add]
    exact ⟨_, takeE_one _ _ _, rfl, by simp [sDuesX, A, Bt, m1, e1, e2]⟩
/-- one spell -/
theorem dues_spell (hB : 1 ≤ B) (hB2 : B ≤ 10 ^ 90) (hm : m ≤ 6) (hM : M ≤ 60) {T : List (List Fr)} {p : Nat × List Int} (h : TB B m T) (hT : T.length ≤ 1000) (S : SpOk m M p) (d0 : D) (n : Nat) (hn : n = 10 ∨ n = 1) (o4 o5 o6 o7 : Option Sl) (k4 : lkO o4 = false) (k5 : lkO o5 = false) (k6 : lkO o6 = false) :
    ∃ q5 q6 q7, exB Γ (sDuesL1 pl md) [some ⟨d0, 0, false⟩, some ⟨.lst (lT T), n, false⟩, some ⟨.int p.1, 0, false⟩, some ⟨.tup (lI p.2), 0, false⟩, o4, o5, o6, o7] =
      .nx [some ⟨d0, 0, false⟩, some ⟨.lst (lT (addSp T p)), 1, false⟩, some ⟨.int p.1, 0, false⟩, some ⟨.tup (lI p.2), 0, false⟩, some ⟨.int p.2.sum, 0, false⟩, q5, q6, q7] ∧ lkO q5 = false ∧ lkO q6 = false := by
  have hl := last_mem h.ne
  have la := lT_last h.ne
  have eA : addSp T p = T ++ spellR (T.getLastD []) p.1 p.2 := rfl
  rw [eA]
  clear eA
  generalize T.getLastD [] = fs at hl la ⊢
  have hle := S.len
  have t2 := S.t2
  have t1 := S.t1
  obtain ⟨ρ', e, q6, q7, rfl, j6⟩ := for_rng (tg := [6]) (b := exB Γ (sDuesL0 pl md)) (lo := 1) (n := p.1) (ρ := [some ⟨d0, 0, false⟩, some ⟨.lst (lT T), 1, false⟩, some ⟨.int p.1, 0, false⟩, some ⟨.tup (lI p.2), 0, false⟩, some ⟨.int p.2.sum, 0, false⟩, some ⟨.lst (lF fs), 0, false⟩, o6, o7])
    (fun i ρ => ∃ q6 q7, ρ = [some ⟨d0, 0, false⟩, some ⟨.lst (lT (T ++ spellR fs i p.2)), 1, false⟩, some ⟨.int p.1, 0, false⟩, some ⟨.tup (lI p.2), 0, false⟩, some ⟨.int p.2.sum, 0, false⟩, some ⟨.lst (lF fs), 0, false⟩, q6, q7] ∧ lkO q6 = false)
    ⟨o6, o7, by simp [spellR], k6⟩ fun i ρ hi ⟨q6, q7, e, j6⟩ => by
      subst e
      have row := fun a0 a1 a2 => dues_row hpl hmd hB hB2 hm (h.fb _ hl) (h.len _ hl) S (i := 1 + (i : Int)) (by omega) (by omega) a0 a1 a2
      have rl : (rowF fs (1 + (i : Int)) p.2).length = m := by simp [rowF, hle]
      have nR := newL_frs (T := rowF fs (1 + (i : Int)) p.2) (by omega)
      have sk : smallI (p.2.length : Int) = true := smallI_of (by omega) (by omega)
      have sz : (T ++ spellR fs i p.2).length < 16777216 := by simp [spellR]; omega
      have e2 : lT (T ++ spellR fs i p.2) ++ [.lst (lF (rowF fs (1 + (i : Int)) p.2))] = lT (T ++ spellR fs (i + 1) p.2) := by
        unfold lT spellR
        rw [List.range_succ, List.map_append, List.map_append, List.map_append, List.map_append, List.append_assoc]
        rfl
      refine ⟨_, [some ⟨d0, 0, false⟩, some ⟨.lst (lT (T ++ spellR fs (i + 1) p.2)), 1, false⟩, some ⟨.int p.1, 0, false⟩, some ⟨.tup (lI p.2), 0, false⟩, some ⟨.int p.2.sum, 0, false⟩, some ⟨.lst (lF fs), 0, false⟩, some ⟨.int (1 + (i : Int)), 0, false⟩, frzO [3, 4, 5, 6] 7 q7], by simp [j6]; rfl, .inl ?_, _, _, rfl, rfl⟩
      generalize T ++ spellR fs i p.2 = T1 at *
      simp [-newL_eq, sDuesL0, compD, sk, row, nR, pathOk_eq, mutS_eq, sz, e2]
  have sk1 : smallI 1 = true := smallI_of (by decide) (by decide)
  have sk2 : smallI ((p.1 : Int) + 1) = true := smallI_of (by omega) (by omega)
  have n1 : ((p.1 : Int) + 1 - 1).toNat = p.1 := by omega
  refine ⟨some ⟨.lst (lF fs), 0, false⟩, q6, q7, step (ρ' := [some ⟨d0, 0, false⟩, some ⟨.lst (lT T), n, false⟩, some ⟨.int p.1, 0, false⟩, some ⟨.tup (lI p.2), 0, false⟩, some ⟨.int p.2.sum, 0, false⟩, o5, o6, o7]) ?_ (step (ρ' := [some ⟨d0, 0, false⟩, some ⟨.lst (lT T), 1, false⟩, some ⟨.int p.1, 0, false⟩, some ⟨.tup (lI p.2), 0, false⟩, some ⟨.int p.2.sum, 0, false⟩, some ⟨.lst (lF fs), 0, false⟩, o6, o7]) ?_ (step ?_ (exB_nil _ _))), rfl, j6⟩
  · simp [k4]
  · rcases hn with rfl | rfl <;> simp [ex_chi, la, k5]
  · simp [sk1, sk2]
    exact e
end
end PL
set_option exponentiation.threshold 10000
/-! PL32: a plan is made. -/
namespace PL
open PySem L2
theorem fb01 : FB 1 (0, 1) := ⟨by decide, by decide, by decide, by decide⟩
theorem tb0 (m : Nat) : TB 1 m [List.replicate m (0, 1)] := ⟨by simp, fun r hr => by
  have : r = List.replicate m (0, 1) := by simpa using hr
  rw [this]
  simp, fun r hr p hp => by
  have : r = List.replicate m (0, 1) := by simpa using hr
  rw [this] at hp
  rw [(List.mem_replicate.mp hp).2]
  exact fb01⟩
theorem take_fold {α β : Type} (f : β → α → β) (b : β) {l : List α} {i : Nat} (h : i < l.length) : (l.take (i + 1)).foldl f b = f ((l.take i).foldl f b) l[i] := by
  rw [List.take_succ_eq_append_getElem h, List.foldl_append]
  rfl
/-- the table behind the first spells -/
def duesT (m : Nat) (s : Sps) (i : Nat) : List (List Fr) := (s.take i).foldl addSp [List.replicate m (0, 1)]
theorem one_le_p (i : Nat) : (1 : Int) ≤ 100000 ^ i := Int.pow_pos (by decide)
theorem duesT_tb {m M : Nat} {s : Sps} (S : SpsOk m M s) (hM : M ≤ 60) : ∀ i, i ≤ s.length → TB ((100000 : Int) ^ i) m (duesT m s i) ∧ (duesT m s i).length ≤ 1 + 60 * i
  | 0, _ => ⟨by simpa [duesT] using tb0 m, by simp [duesT]⟩
  | i + 1, h => by
    obtain ⟨h1, h2⟩ := duesT_tb S hM i (by omega)
    have e : duesT m s (i + 1) = addSp (duesT m s i) s[i] := take_fold _ _ (by omega)
    have P := S.sp s[i] (List.getElem_mem (by omega))
    rw [e]
    refine ⟨?_, ?_⟩
    · have := addSp_tb (B := (100000 : Int) ^ i) (one_le_p i) S.m6 hM h1 P
      rwa [Int.pow_succ, Int.mul_comm]
    · have := P.t2
      simp only [addSp, spellR, List.length_append, List.length_map, List.length_range]
      omega
theorem pow_small {i : Nat} (h : i ≤ 3) : (100000 : Int) ^ i ≤ 10 ^ 15 := by
  match i, h with
  | 0, _ => decide
  | 1, _ => decide
  | 2, _ => decide
  | 3, _ => decide
  | i + 4, h => omega
theorem duesF_tb {m M : Nat} {s : Sps} (S : SpsOk m M s) (hM : M ≤ 60) : TB (10 ^ 15) m (duesF m s) ∧ (duesF m s).length ≤ 181 := by
  obtain ⟨h1, h2⟩ := duesT_tb S hM s.length (Nat.le_refl _)
  have e : duesT m s s.length = duesF m s := by unfold duesT duesF; rw [List.take_length]
  rw [e] at h1 h2
  have := S.le
  exact ⟨⟨h1.ne, h1.len, fun r hr p hp => (h1.fb r hr p hp).mono (pow_small S.le)⟩, by omega⟩
theorem dues_ok {Γ : Fe} {mn g pl md : Nat} {m M : Nat} {s : Sps} (S : SpsOk m M s) (hM : M ≤ 60) (hf : Γ.fo 0 0 = true) (hg : Γ.gl g = .tup [.int 0, .int 1]) (ks : List Nat) (vs : List D) (hh : Γ.mh mn 0 = true) (hmn : Γ.me mn 0 [.obj 0 (0 :: ks) (.lst (s.map dK) :: vs)] = .ok (.int m) 0)
    (hpl : ∀ (p q : Fr) (C : Int), FB C p → FB C q → C ≤ 10 ^ 100 → Γ.fn pl [dF p, dF q] = .ok (dF (lowF (p.1 * q.2 + q.1 * p.2) (p.2 * q.2))) 9) (hmd : ∀ a b : Int, 0 < b → b.natAbs ≤ 10 ^ 250 → Γ.fn md [.int a, .int b] = .ok (dF (lowF a b)) 9) :
    runF Γ 8 1 (sDues mn g pl md) [.obj 0 (0 :: ks) (.lst (s.map dK) :: vs)] = .ok (.lst (lT (duesF m s))) 1 := by
  obtain ⟨d0, ed⟩ : ∃ d0, D.obj 0 (0 :: ks) (.lst (s.map dK) :: vs) = d0 := ⟨_, rfl⟩
  have hsl := S.le
  obtain ⟨ρ', e, n, o2, o3, o4, o5, o6, o7, rfl, _, hn1, _⟩ := forS_to (tg := [2, 3]) (b := exB Γ (sDuesL1 pl md)) (xs := s.map dK) (ρ := [some ⟨d0, 0, false⟩, some ⟨.lst (lT [List.replicate m (0, 1)]), 10, false⟩, none, none, none, none, none, none])
    (fun i ρ => ∃ n o2 o3 o4 o5 o6 o7, ρ = [some ⟨d0, 0, false⟩, some ⟨.lst (lT (duesT m s i)), n, false⟩, o2, o3, o4, o5, o6, o7] ∧ (i = 0 → n = 10) ∧ (0 < i → n = 1) ∧ lkO o2 = false ∧ lkO o3 = false ∧ lkO o4 = false ∧ lkO o5 = false ∧ lkO o6 = false) 0
    ⟨10, none, none, none, none, none, none, rfl, fun _ => rfl, fun h => absurd h (by decide), rfl, rfl, rfl, rfl, rfl⟩ fun i d ρ hd ⟨n, o2, o3, o4, o5, o6, o7, e, h0, h1, k2, k3, k4, k5, k6⟩ => by
      subst e
      rw [Nat.zero_add] at h0 h1 ⊢
      rw [List.getElem?_map] at hd
      have hi : i < s.length := by
        rcases Nat.lt_or_ge i s.length with z | z
        · exact z
        · rw [List.getElem?_eq_none z] at hd
          cases hd
      rw [List.getElem?_eq_getElem hi] at hd
      cases hd
      have hn : n = 10 ∨ n = 1 := by
        rcases Nat.eq_zero_or_pos i with z | z
        · exact .inl (h0 z)
        · exact .inr (h1 z)
      obtain ⟨t1, t2⟩ := duesT_tb S hM i (by omega)
      obtain ⟨q5, q6, q7, e2, j5, j6⟩ := dues_spell hpl hmd (B := (100000 : Int) ^ i) (one_le_p i) (Int.le_trans (pow_small (by omega)) (by decide)) S.m6 hM t1 (by omega) (S.sp s[i] (List.getElem_mem hi)) d0 n hn o4 o5 o6 o7 k4 k5 k6
      have ea : duesT m s (i + 1) = addSp (duesT m s i) s[i] := take_fold _ _ hi
      refine ⟨_, _, by simp [dK, k2, k3], .inl e2, 1, _, _, _, q5, q6, q7, by rw [ea], fun h => absurd h (by omega), fun _ => rfl, rfl, rfl, rfl, j5, j6⟩
  have eT : duesT m s (0 + (s.map dK).length) = duesF m s := by rw [Nat.zero_add, List.length_map]; unfold duesT duesF; rw [List.take_length]
  have hn : n = 1 := hn1 (by rw [List.length_map]; have := S.ne; omega)
  subst hn
  rw [eT] at e
  have m6 := S.m6
  have sk : smallI (m : Int) = true := smallI_of (by omega) (by omega)
  have sz : m ≤ 16777216 := by omega
  have r0 : (List.replicate m [D.tup [.int 0, .int 1]]).flatten = lF (List.replicate m (0, 1)) := by
    unfold lF
    rw [List.map_replicate]
    simp [dF]
  have i0 : immB 1 (.lst (lF (List.replicate m ((0 : Int), (1 : Int))))) = true := by simp
  rw [ed] at hmn ⊢
  refine run_of rfl (step (ρ' := [some ⟨d0, 0, false⟩, some ⟨.lst (lT [List.replicate m (0, 1)]), 10, false⟩, none, none, none, none, none, none]) ?_ (step (ρ' := [some ⟨d0, 0, false⟩, some ⟨.lst (lT (duesF m s)), 1, false⟩, o2, o3, o4, o5, o6, o7]) ?_ (stop ?_)))
  · subst ed
    simp [hg, hh, hmn, sk, sz, r0, lT]
  · subst ed
    simp [hf]
    exact e
  · simp
end PL
set_option exponentiation.threshold 10000
/-! PL33: the maker of a plan. -/
namespace PL
open PySem L2
def sAreWL (w g3 : Nat) : List St := [.ife (.or (.not (.call w [.var 1])) (.not (.cmp2 .le .le (.con (.int 0)) (.var 1) (.glo g3)))) [.ret (.con (.bl false))] []]
def sAreW (w g2 g3 : Nat) : List St := [.ife (.or (.not (.isi (.var 0) .list)) (.not (.cmp2 .le .le (.con (.int 1)) (.bi .len [.var 0]) (.glo g2)))) [.ret (.con (.bl false))] [], .fo .seq [.var 0] [1] [] (.fz [0]) (sAreWL w g3), .ret (.cmp .gt (.bi .sum [.var 0]) (.con (.int 0)))]
theorem areW_ok {Γ : Fe} {w g2 g3 : Nat} (hw : ∀ a, Γ.fn w [.int a] = .ok (.bl true) 0) (h2 : Γ.gl g2 = .int 6) (h3 : Γ.gl g3 = .int 1000) {ws : List Int} (l1 : 1 ≤ ws.length) (l6 : ws.length ≤ 6) (h : ∀ x ∈ ws, 0 ≤ x ∧ x ≤ 1000) (hs : 0 < ws.sum) : runF Γ 2 1 (sAreW w g2 g3) [.lst (lI ws)] = .ok (.bl true) 0 := by
  obtain ⟨ρ', e, o1, rfl, _⟩ := forS_to (tg := [1]) (b := exB Γ (sAreWL w g3)) (xs := lI ws) (ρ := [some ⟨.lst (lI ws), 0, false⟩, none]) (fun _ ρ => ∃ o1, ρ = [some ⟨.lst (lI ws), 0, false⟩, o1] ∧ lkO o1 = false) 0 ⟨none, rfl, rfl⟩ fun i d ρ hd ⟨o1, e, k1⟩ => by
    subst e
    unfold lI at hd
    rw [List.getElem?_map] at hd
    cases ei : ws[i]? with
    | none => rw [ei] at hd; cases hd
    | some x =>
      rw [ei] at hd
      cases hd
      obtain ⟨a, b⟩ := h x (List.mem_of_getElem? ei)
      have e2 : exB Γ (sAreWL w g3) [some ⟨.lst (lI ws), 0, false⟩, some ⟨.int x, 0, false⟩] = .nx [some ⟨.lst (lI ws), 0, false⟩, some ⟨.int x, 0, false⟩] := by simp [sAreWL, hw, h3, a, b]
      exact ⟨_, _, by simp [k1], .inl e2, some ⟨.int x, 0, false⟩, rfl, rfl⟩
  refine run_of rfl (step (ρ' := [some ⟨.lst (lI ws), 0, false⟩, none]) ?_ (step (ρ' := [some ⟨.lst (lI ws), 0, false⟩, o1]) ?_ (stop ?_)))
  · have c1 : (1 : Int) ≤ ws.length := by omega
    have c2 : (ws.length : Int) ≤ 6 := by omega
    simp [h2, c1, c2]
  · simp
    exact e
  · simp [hs]
def sIsSpell (w a g1 : Nat) : List St := [.ife (.or (.not (.isi (.var 0) .tuple)) (.cmp .ne (.bi .len [.var 0]) (.con (.int 2)))) [.ret (.con (.bl false))] [], .ife (.or (.not (.call w [.ix (.var 0) (.con (.int 0))])) (.not (.cmp2 .le .le (.con (.int 1)) (.ix (.var 0) (.con (.int 0))) (.glo g1)))) [.ret (.con (.bl false))] [], .ret (.call a [.ix (.var 0) (.con (.int 1))])]
theorem isSpell_ok {Γ : Fe} {w a g1 : Nat} (hw : ∀ a, Γ.fn w [.int a] = .ok (.bl true) 0) (h1 : Γ.gl g1 = .int 60) {p : Nat × List Int} (t1 : 1 ≤ p.1) (t2 : p.1 ≤ 60) (ha : Γ.fn a [.lst (lI p.2)] = .ok (.bl true) 0) : runF Γ 1 1 (sIsSpell w a g1) [dS p] = .ok (.bl true) 0 := by
  have c1 : (1 : Int) ≤ p.1 := by omega
  have c2 : (p.1 : Int) ≤ 60 := by omega
  simp [sIsSpell, dS, hw, h1, c1, c2, ha]
def sCheckL (g0 g4 f : Nat) (r1 r2 : St) : List St := [.asg 3 (.ix (.var 0) (.var 2)) (.fz [0, 2]), .ife (.or (.cmp .ge (.var 2) (.glo g0)) (.not (.call f [.var 3]))) [r1] [], .asg 1 (.bin .add (.var 1) (.ix (.var 3) (.con (.int 0)))) .imm, .ife (.or (.cmp .ne (.bi .len [.ix (.var 3) (.con (.int 1))]) (.bi .len [.ix (.ix (.var 0) (.con (.int 0))) (.con (.int 1))])) (.cmp .gt (.var 1) (.glo g4))) [r2] []]
def sCheck (g0 g4 f : Nat) (r0 r1 r2 : St) : List St := [.ife (.or (.not (.isi (.var 0) .list)) (.cmp .eq (.var 0) (.lst []))) [r0] [], .asg 1 (.con (.int 0)) .imm, .fo .rng1 [.bi .len [.var 0]] [2] [] .imm (sCheckL g0 g4 f r1 r2)]
theorem shp_dSs : ∀ s : Sps, shpL 59 (s.map dS) = true
  | [] => by simp
  | p :: s => by
    rw [List.map_cons, shpL_cons, shp_dSs s]
    simp [dS]
theorem check_ok {Γ : Fe} {g0 g4 f : Nat} {r0 r1 r2 : St} (h0 : Γ.gl g0 = .int 8) (h4 : Γ.gl g4 = .int 240) {m M : Nat} {s : Sps} (S : SpsOk m M s) (hM : M ≤ 60) (hf : ∀ p ∈ s, Γ.fn f [dS p] = .ok (.bl true) 0) : runF Γ 4 1 (sCheck g0 g4 f r0 r1 r2) [.lst (s.map dS)] = .ok .non 0 := by
  have hsl := S.le
  have hne := S.ne
  obtain ⟨ρ', e, t, o2, o3, rfl, _⟩ := for_rng (tg := [2]) (b := exB Γ (sCheckL g0 g4 f r1 r2)) (lo := 0) (n := s.length) (ρ := [some ⟨.lst (s.map dS), 0, false⟩, some ⟨.int 0, 0, false⟩, none, none])
    (fun i ρ => ∃ (t : Int) (o2 o3 : Option Sl), ρ = [some ⟨.lst (s.map dS), 0, false⟩, some ⟨.int t, 0, false⟩, o2, o3] ∧ 0 ≤ t ∧ t ≤ 60 * i ∧ lkO o2 = false ∧ lkO o3 = false) ⟨0, none, none, rfl, by decide, by decide, rfl, rfl⟩ fun i ρ hi ⟨t, o2, o3, e, t0, t1, k2, k3⟩ => by
      subst e
      have P := S.sp s[i] (List.getElem_mem hi)
      have A : atD (s.map dS) (i : Int) = .ok (dS s[i]) 0 := by
        rw [atD_nat, List.getElem?_map, List.getElem?_eq_getElem hi]
        rfl
      have hp := hf s[i] (List.getElem_mem hi)
      have c8 : ¬ (8 : Int) ≤ i := by omega
      have l0 : ∃ q s', s = q :: s' ∧ q.2.length = m := by
        cases s with
        | nil => simp at hne
        | cons q s' => exact ⟨q, s', rfl, (S.sp q List.mem_cons_self).len⟩
      obtain ⟨q, s', es, hq⟩ := l0
      have A0 : atD (s.map dS) 0 = .ok (dS q) 0 := by rw [es]; simp
      have pt := P.t2
      have pl := P.len
      have c240 : ¬ (240 : Int) < t + s[i].1 := by omega
      refine ⟨_, [some ⟨.lst (s.map dS), 0, false⟩, some ⟨.int (t + s[i].1), 0, false⟩, some ⟨.int i, 0, false⟩, some ⟨dS s[i], 0, false⟩], by simp [k2]; rfl, .inl ?_, _, _, _, rfl, by omega, by omega, rfl, rfl⟩
      generalize s[i] = p at *
      refine step (ρ' := [some ⟨.lst (s.map dS), 0, false⟩, some ⟨.int t, 0, false⟩, some ⟨.int i, 0, false⟩, some ⟨dS p, 0, false⟩]) ?_ (step (ρ' := [some ⟨.lst (s.map dS), 0, false⟩, some ⟨.int t, 0, false⟩, some ⟨.int i, 0, false⟩, some ⟨dS p, 0, false⟩]) ?_ (step (ρ' := [some ⟨.lst (s.map dS), 0, false⟩, some ⟨.int (t + p.1), 0, false⟩, some ⟨.int i, 0, false⟩, some ⟨dS p, 0, false⟩]) ?_ (step ?_ (exB_nil _ _))))
      · simp [A, k3]
      · simp [h0, c8, hp]
      · simp [dS]
      · simp [-atD_0, A0, h4, dS, pl, hq, c240]
  have sk : smallI (s.length : Int) = true := smallI_of (by omega) (by omega)
  have hne2 : ¬ s = [] := by rintro rfl; simp at hne
  have sh := shp_dSs s
  show endF (exB Γ (sCheck g0 g4 f r0 r1 r2) [some ⟨.lst (s.map dS), 0, false⟩, none, none, none]) = _
  have key : exB Γ (sCheck g0 g4 f r0 r1 r2) [some ⟨.lst (s.map dS), 0, false⟩, none, none, none] = .nx [some ⟨.lst (s.map dS), 0, false⟩, some ⟨.int t, 0, false⟩, o2, o3] := by
    refine step (ρ' := [some ⟨.lst (s.map dS), 0, false⟩, none, none, none]) ?_ (step (ρ' := [some ⟨.lst (s.map dS), 0, false⟩, some ⟨.int 0, 0, false⟩, none, none]) ?_ (step ?_ (exB_nil _ _)))
    · have ee : eqDL (s.map dS) [] = false := by
        cases s with
        | nil => exact absurd rfl hne2
        | cons q s' => rfl
      have sh2 : shp 60 (.lst (s.map dS)) = true := by unfold shp; exact sh
      simp [sh2, ee]
    · simp
    · simp [sk]
      exact e
  rw [key]
  rfl
/-- a plan -/
def dP (m : Nat) (s : Sps) : D := .obj 0 [0, 1] [.lst (s.map dK), .lst (lT (duesF m s))]
def sInitX : Ex := .tup [.var 2, .bi .tuple [.var 3]]
def sInit (c mt : Nat) : List St := [.ex (.call c [.var 1]), .setf 0 0 (.comp .seq [.var 1] [2, 3] sInitX) (.fz [1]), .setg 0 1 (.meth mt (.var 0) [])]
@[simp] theorem imm_dK (n : Nat) (p : Nat × List Int) : immB n (dK p) = true := by simp [dK]
theorem immL_dK (n : Nat) : ∀ s : Sps, immBL n (s.map dK) = true
  | [] => by simp
  | p :: s => by rw [List.map_cons, immL_cons, imm_dK, immL_dK n s]; rfl
@[simp] theorem imm_dKs (n : Nat) (s : Sps) : immB (n + 1) (.lst (s.map dK)) = true := by unfold immB; exact immL_dK n s
@[simp] theorem imm_dKs10 (s : Sps) : immB 10 (.lst (s.map dK)) = true := imm_dKs 9 s
theorem newL_dK {s : Sps} (h : s.length ≤ 16777216) : newL (s.map fun p => (dK p, 9)) = .ok (.lst (s.map dK)) 10 := by
  rw [newL_eq, dep_imm fun p hp => by
    obtain ⟨i, _, rfl⟩ := List.mem_map.mp hp
    simp]
  simp [h]
theorem nObj_frs : ∀ l : List Fr, nObjL (lF l) = true
  | [] => by simp [lF, nObjL]
  | p :: l => by
    show nObjL (dF p :: lF l) = true
    rw [nObjL, nObj_frs l]
    simp [dF, nObj, nObjL]
theorem nObj_T : ∀ T : List (List Fr), nObjL (lT T) = true
  | [] => by simp [lT, nObjL]
  | r :: T => by
    show nObjL (.lst (lF r) :: lT T) = true
    rw [nObjL, nObj_T T, nObj, nObj_frs r]
    rfl
theorem init_plan {Γ : Fe} {c mt : Nat} {m M : Nat} {s : Sps} (S : SpsOk m M s) (hf0 : Γ.fo 0 0 = true) (hf1 : Γ.fo 0 1 = true) (hc : Γ.fn c [.lst (s.map dS)] = .ok .non 0) (hh : Γ.mh mt 0 = true) (ht : Γ.me mt 0 [.obj 0 [0] [.lst (s.map dK)]] = .ok (.lst (lT (duesF m s))) 1) :
    initF Γ 0 4 2 (sInit c mt) [.lst (s.map dS)] = .ok (dP m s) 1 := by
  have hsl := S.le
  have k : ∀ a0 a1 : Option D, compL [2, 3] (evE Γ sInitX) (fun _ => .ok true) (s.map dS) [a0, a1, none, none] = .ok (s.map fun p => (dK p, 9)) := fun a0 a1 => by
    have := compL_to (fun i => (dK (s.getD i (0, [])), 9)) (tg := [2, 3]) (elt := evE Γ sInitX) (cnd := fun _ => .ok true) (δ := [a0, a1, none, none]) (xs := s.map dS) 0 fun i d hd => by
      rw [List.getElem?_map] at hd
      cases e : s[i]? with
      | none => rw [e] at hd; cases hd
      | some p =>
        rw [e] at hd
        cases hd
        have gp : s.getD i (0, []) = p := by rw [List.getD_eq_getElem?_getD, e]; rfl
        rw [Nat.zero_add, gp]
        exact ⟨_, rfl, rfl, by simp [sInitX, dK]⟩
    rw [this]
    congr 1
    apply List.ext_getElem
    · simp
    · intro i h1 h2
      have hi : i < s.length := by simpa using h2
      simp [hi]
  have nK := newL_dK (s := s) (by omega)
  have key : exB Γ (sInit c mt) [some ⟨.obj 0 [] [], 9, false⟩, some ⟨.lst (s.map dS), 0, false⟩, none, none] = .nx [some ⟨dP m s, 1, false⟩, some ⟨.lst (s.map dS), 0, false⟩, none, none] := by
    refine step (ρ' := [some ⟨.obj 0 [] [], 9, false⟩, some ⟨.lst (s.map dS), 0, false⟩, none, none]) ?_ (step (ρ' := [some ⟨.obj 0 [0] [.lst (s.map dK)], 9, false⟩, some ⟨.lst (s.map dS), 0, false⟩, none, none]) ?_ (step ?_ (exB_nil _ _)))
    · simp [hc]
    · simp [-newL_eq, compD, k, nK, setA_eq, hf0]
    · have no : nObj (.lst (lT (duesF m s))) = true := by unfold nObj; exact nObj_T _
      simp [ex_setg, hh, ht, no, hf1, dP]
  have key' : exB Γ (sInit c mt) (some ⟨.obj 0 [] [], 9, false⟩ :: (([.lst (s.map dS)] : List D).map (fun d => some ⟨d, 0, false⟩) ++ List.replicate (4 - 2) none)) = .nx [some ⟨dP m s, 1, false⟩, some ⟨.lst (s.map dS), 0, false⟩, none, none] := key
  unfold initF
  rw [if_pos (show ([.lst (s.map dS)] : List D).length + 1 = 2 from rfl), key']
  rfl
/-- how many turns -/
def sTurnsX : Ex := .var 1
def sTurns : List St := [.ret (.bi .sum [.comp .seq [.fld (.var 0) 0] [1, 2] sTurnsX])]
def turnsF (s : Sps) : Nat := (s.map Prod.fst).sum
theorem turns_ok {Γ : Fe} {m M : Nat} {s : Sps} (S : SpsOk m M s) (hf0 : Γ.fo 0 0 = true) (ks : List Nat) (vs : List D) : runF Γ 3 1 sTurns [.obj 0 (0 :: ks) (.lst (s.map dK) :: vs)] = .ok (.int (turnsF s)) 0 := by
  have hsl := S.le
  have k : ∀ a0 : Option D, compL [1, 2] (evE Γ sTurnsX) (fun _ => .ok true) (s.map dK) [a0, none, none] = .ok ((s.map fun p => (p.1 : Int)).map fun z => (D.int z, 0)) := fun a0 => by
    have := compL_to (fun i => (D.int ((s.getD i (0, [])).1 : Nat), 0)) (tg := [1, 2]) (elt := evE Γ sTurnsX) (cnd := fun _ => .ok true) (δ := [a0, none, none]) (xs := s.map dK) 0 fun i d hd => by
      rw [List.getElem?_map] at hd
      cases e : s[i]? with
      | none => rw [e] at hd; cases hd
      | some p =>
        rw [e] at hd
        cases hd
        have gp : s.getD i (0, []) = p := by rw [List.getD_eq_getElem?_getD, e]; rfl
        rw [Nat.zero_add, gp]
        exact ⟨_, rfl, rfl, by simp [sTurnsX]⟩
    rw [this]
    congr 1
    apply List.ext_getElem
    · simp
    · intro i h1 h2
      have hi : i < s.length := by simpa using h2
      simp [hi]
  have nR := newL_ints (T := s.map fun p => (p.1 : Int)) (by simp; omega)
  have es : (s.map fun p => (p.1 : Int)).sum = (turnsF s : Int) := by
    unfold turnsF
    clear k nR S hsl
    induction s with
    | nil => rfl
    | cons p s ih => simp only [List.map_cons, List.sum_cons, ih]; omega
  generalize (s.map fun p => (p.1 : Int)) = z at *
  refine run_of rfl (stop ?_)
  simp [-newL_eq, hf0, compD, k, nR, es]
end PL
set_option exponentiation.threshold 10000
/-! PL34: dues, by the laws' own sums. -/
namespace PL
open PySem L2
@[simp] theorem frzO_nil (k : Nat) (o : Option Sl) : frzO [] k o = o := by
  cases o with
  | none => rfl
  | some s => rfl
def sLDuesL0 (low : Nat) : List St := [.asgs [8, 9] (.ix (.var 4) (.var 7)) (.fz [4, 7]), .asg 8 (.bin .add (.bin .mul (.var 8) (.bi .sum [.var 3])) (.bin .mul (.bin .mul (.var 5) (.ix (.var 3) (.var 7))) (.var 9))) .imm, .app 6 [] (.call low [.var 8, .bin .mul (.var 9) (.bi .sum [.var 3])]) .imm]
def sLDuesL1 (low : Nat) : List St := [.asg 6 (.lst []) (.fz []), .fo .rng1 [.bi .len [.var 3]] [7] [] .imm (sLDuesL0 low), .app 1 [] (.var 6) (.fz [6])]
def sLDuesL2 (low : Nat) : List St := [.chi 4 1 (.neg (.con (.int 1))), .fo .rng2 [.con (.int 1), .bin .add (.var 2) (.con (.int 1))] [5] [] .imm (sLDuesL1 low)]
def sLDues (low : Nat) : List St := [.asg 1 (.lst [.bin .mul (.lst [.tup [.con (.int 0), .con (.int 1)]]) (.bi .len [.ix (.ix (.var 0) (.con (.int 0))) (.con (.int 1))])]) (.fz [0]), .fo .seq [.var 0] [2, 3] [] (.fz [0]) (sLDuesL2 low), .retv 1]
section
variable {Γ : Fe} {low : Nat} {m M : Nat} {B : Int} (hlow : ∀ a b : Int, 0 < b → b.natAbs ≤ 10 ^ 250 → Γ.fn low [.int a, .int b] = .ok (dF (lowF a b)) 9)
include hlow
theorem ldues_row (hB : 1 ≤ B) (hB2 : B ≤ 10 ^ 90) (hm : m ≤ 6) {first : List Fr} {p : Nat × List Int} (F : ∀ q ∈ first, FB B q) (hl : first.length = m) (S : SpOk m M p) {i : Int} (i0 : 0 ≤ i) (i1 : i ≤ 60) (d0 : D) (f : List D) (n : Nat) (o7 o8 o9 : Option Sl) (k7 : lkO o7 = false) (k8 : lkO o8 = false) (k9 : lkO o9 = false) :
    ∃ q7 q8 q9, forS [7] (exB Γ (sLDuesL0 low)) (rngD 0 p.2.length) [some ⟨d0, 0, false⟩, some ⟨.lst f, n, false⟩, some ⟨.int p.1, 0, false⟩, some ⟨.lst (lI p.2), 0, false⟩, some ⟨.lst (lF first), 0, false⟩, some ⟨.int i, 0, false⟩, some ⟨.lst [], 10, false⟩, o7, o8, o9] =
      .nx [some ⟨d0, 0, false⟩, some ⟨.lst f, n, false⟩, some ⟨.int p.1, 0, false⟩, some ⟨.lst (lI p.2), 0, false⟩, some ⟨.lst (lF first), 0, false⟩, some ⟨.int i, 0, false⟩, some ⟨.lst (lF (rowF first i p.2)), 10, false⟩, q7, q8, q9] ∧ lkO q7 = false ∧ lkO q8 = false ∧ lkO q9 = false := by
  have hs := sum_nn S.w
  have hle := S.len
  have hpos := S.pos
  obtain ⟨ρ', e, q7, q8, q9, rfl, j7, j8, j9⟩ := for_rng (tg := [7]) (b := exB Γ (sLDuesL0 low)) (lo := 0) (n := p.2.length) (ρ := [some ⟨d0, 0, false⟩, some ⟨.lst f, n, false⟩, some ⟨.int p.1, 0, false⟩, some ⟨.lst (lI p.2), 0, false⟩, some ⟨.lst (lF first), 0, false⟩, some ⟨.int i, 0, false⟩, some ⟨.lst [], 10, false⟩, o7, o8, o9])
    (fun k ρ => ∃ q7 q8 q9, ρ = [some ⟨d0, 0, false⟩, some ⟨.lst f, n, false⟩, some ⟨.int p.1, 0, false⟩, some ⟨.lst (lI p.2), 0, false⟩, some ⟨.lst (lF first), 0, false⟩, some ⟨.int i, 0, false⟩, some ⟨.lst (lF ((List.range k).map fun who => stp (first.getD who (0, 1)) i (p.2.getD who 0) p.2.sum)), 10, false⟩, q7, q8, q9] ∧ lkO q7 = false ∧ lkO q8 = false ∧ lkO q9 = false)
    ⟨o7, o8, o9, rfl, k7, k8, k9⟩ fun who ρ hw ⟨q7, q8, q9, e, j7, j8, j9⟩ => by
      subst e
      have A := lF_at (l := first) (i := who) (by omega)
      have Bt := lI_atT (l := p.2) hw
      obtain ⟨w0, w1⟩ := w_get S.w hw
      have P := FB.get F (i := who) (by omega)
      have re : (List.range (who + 1)).map (fun who => stp (first.getD who (0, 1)) i (p.2.getD who 0) p.2.sum) = (List.range who).map (fun who => stp (first.getD who (0, 1)) i (p.2.getD who 0) p.2.sum) ++ [stp (first.getD who (0, 1)) i (p.2.getD who 0) p.2.sum] := by
        rw [List.range_succ, List.map_append]
        rfl
      rw [re]
      have ln : ((List.range who).map fun who => stp (first.getD who (0, 1)) i (p.2.getD who 0) p.2.sum).length < 16777216 := by simp; omega
      generalize ((List.range who).map fun who => stp (first.getD who (0, 1)) i (p.2.getD who 0) p.2.sum) = R at *
      clear re
      generalize first.getD who (0, 1) = fr at *
      generalize p.2.getD who 0 = w at *
      have a1 := P.pos
      have a2 := P.top
      have a3 := P.low
      have m1 : mulOk fr.1 p.2.sum = true := small_mul (by omega) (by omega)
      have m2 : mulOk i w = true := small_mul (by omega) (by omega)
      have h3 := nab_mul (a := i) (b := w) (A := 60) (B := 1000) (by omega) (by omega)
      have m3 : mulOk (i * w) fr.2 = true := small_mul (by omega) (by omega)
      have m4 : mulOk fr.2 p.2.sum = true := small_mul (by omega) (by omega)
      have h4 := nab_mul (a := fr.2) (b := p.2.sum) (A := 10 ^ 90) (B := 6000) (by omega) (by omega)
      have e1 := hlow (fr.1 * p.2.sum + i * w * fr.2) (fr.2 * p.2.sum) (Int.mul_pos a1 hpos) (by omega)
      have e2 : lowF (fr.1 * p.2.sum + i * w * fr.2) (fr.2 * p.2.sum) = stp fr i w p.2.sum := rfl
      rw [e2] at e1
      have el : lF R ++ [dF (stp fr i w p.2.sum)] = lF (R ++ [stp fr i w p.2.sum]) := by simp [lF]
      refine ⟨_, [some ⟨d0, 0, false⟩, some ⟨.lst f, n, false⟩, some ⟨.int p.1, 0, false⟩, some ⟨.lst (lI p.2), 0, false⟩, some ⟨.lst (lF first), 0, false⟩, some ⟨.int i, 0, false⟩, some ⟨.lst (lF (R ++ [stp fr i w p.2.sum])), 10, false⟩, some ⟨.int who, 0, false⟩, some ⟨.int (fr.1 * p.2.sum + i * w * fr.2), 0, false⟩, some ⟨.int fr.2, 0, false⟩], by simp [j7]; rfl, .inl ?_, _, _, _, rfl, rfl, rfl, rfl⟩
      refine step (ρ' := [some ⟨d0, 0, false⟩, some ⟨.lst f, n, false⟩, some ⟨.int p.1, 0, false⟩, some ⟨.lst (lI p.2), 0, false⟩, some ⟨.lst (lF first), 0, false⟩, some ⟨.int i, 0, false⟩, some ⟨.lst (lF R), 10, false⟩, some ⟨.int who, 0, false⟩, some ⟨.int fr.1, 0, false⟩, some ⟨.int fr.2, 0, false⟩]) ?_ (step (ρ' := [some ⟨d0, 0, false⟩, some ⟨.lst f, n, false⟩, some ⟨.int p.1, 0, false⟩, some ⟨.lst (lI p.2), 0, false⟩, some ⟨.lst (lF first), 0, false⟩, some ⟨.int i, 0, false⟩, some ⟨.lst (lF R), 10, false⟩, some ⟨.int who, 0, false⟩, some ⟨.int (fr.1 * p.2.sum + i * w * fr.2), 0, false⟩, some ⟨.int fr.2, 0, false⟩]) ?_ (step ?_ (exB_nil _ _)))
      · simp only [dF] at A
        simp [A, j8, j9]
      · simp [Bt, m1, m2, m3]
      · simp [m4, e1, pathOk_eq, mutS_eq, ln, el]
  exact ⟨q7, q8, q9, e, j7, j8, j9⟩
theorem ldues_spell (hB : 1 ≤ B) (hB2 : B ≤ 10 ^ 90) (hm : m ≤ 6) (hM : M ≤ 60) {T : List (List Fr)} {p : Nat × List Int} (h : TB B m T) (hT : T.length ≤ 1000) (S : SpOk m M p) (d0 : D) (n : Nat) (hn : n = 10 ∨ n = 1) (o4 o5 o6 o7 o8 o9 : Option Sl) (k4 : lkO o4 = false) (k5 : lkO o5 = false) (k6 : lkO o6 = false) (k7 : lkO o7 = false) (k8 : lkO o8 = false) (k9 : lkO o9 = false) :
    ∃ q4 q5 q6 q7 q8 q9, exB Γ (sLDuesL2 low) [some ⟨d0, 0, false⟩, some ⟨.lst (lT T), n, false⟩, some ⟨.int p.1, 0, false⟩, some ⟨.lst (lI p.2), 0, false⟩, o4, o5, o6, o7, o8, o9] =
      .nx [some ⟨d0, 0, false⟩, some ⟨.lst (lT (addSp T p)), 1, false⟩, some ⟨.int p.1, 0, false⟩, some ⟨.lst (lI p.2), 0, false⟩, q4, q5, q6, q7, q8, q9] ∧ lkO q4 = false ∧ lkO q5 = false ∧ lkO q6 = false ∧ lkO q7 = false ∧ lkO q8 = false ∧ lkO q9 = false := by
  have hl := last_mem h.ne
  have la := lT_last h.ne
  have eA : addSp T p = T ++ spellR (T.getLastD []) p.1 p.2 := rfl
  rw [eA]
  clear eA
  generalize T.getLastD [] = fs at hl la ⊢
  have hle := S.len
  have t2 := S.t2
  have t1 := S.t1
  obtain ⟨ρ', e, q5, q6, q7, q8, q9, rfl, j5, j6, j7, j8, j9⟩ := for_rng (tg := [5]) (b := exB Γ (sLDuesL1 low)) (lo := 1) (n := p.1) (ρ := [some ⟨d0, 0, false⟩, some ⟨.lst (lT T), 1, false⟩, some ⟨.int p.1, 0, false⟩, some ⟨.lst (lI p.2), 0, false⟩, some ⟨.lst (lF fs), 0, false⟩, o5, o6, o7, o8, o9])
    (fun i ρ => ∃ q5 q6 q7 q8 q9, ρ = [some ⟨d0, 0, false⟩, some ⟨.lst (lT (T ++ spellR fs i p.2)), 1, false⟩, some ⟨.int p.1, 0, false⟩, some ⟨.lst (lI p.2), 0, false⟩, some ⟨.lst (lF fs), 0, false⟩, q5, q6, q7, q8, q9] ∧ lkO q5 = false ∧ lkO q6 = false ∧ lkO q7 = false ∧ lkO q8 = false ∧ lkO q9 = false)
    ⟨o5, o6, o7, o8, o9, by simp [spellR], k5, k6, k7, k8, k9⟩ fun i ρ hi ⟨q5, q6, q7, q8, q9, e, j5, j6, j7, j8, j9⟩ => by
      subst e
      obtain ⟨r7, r8, r9, row, l7, l8, l9⟩ := ldues_row hlow hB hB2 hm (h.fb _ hl) (h.len _ hl) S (i := 1 + (i : Int)) (by omega) (by omega) d0 (lT (T ++ spellR fs i p.2)) 1 q7 q8 q9 j7 j8 j9
      have sk : smallI (p.2.length : Int) = true := smallI_of (by omega) (by omega)
      have sz : (T ++ spellR fs i p.2).length < 16777216 := by simp [spellR]; omega
      have e2 : lT (T ++ spellR fs i p.2) ++ [.lst (lF (rowF fs (1 + (i : Int)) p.2))] = lT (T ++ spellR fs (i + 1) p.2) := by
        unfold lT spellR
        rw [List.range_succ, List.map_append, List.map_append, List.map_append, List.map_append, List.append_assoc]
        rfl
      generalize T ++ spellR fs i p.2 = T1 at *
      refine ⟨_, [some ⟨d0, 0, false⟩, some ⟨.lst (lT (T ++ spellR fs (i + 1) p.2)), 1, false⟩, some ⟨.int p.1, 0, false⟩, some ⟨.lst (lI p.2), 0, false⟩, some ⟨.lst (lF fs), 0, false⟩, some ⟨.int (1 + (i : Int)), 0, false⟩, some ⟨.lst (lF (rowF fs (1 + (i : Int)) p.2)), 0, false⟩, frzO [6] 7 r7, frzO [6] 8 r8, frzO [6] 9 r9], by simp [j5]; rfl, .inl ?_, _, _, _, _, _, rfl, rfl, rfl, by simpa using l7, by simpa using l8, by simpa using l9⟩
      refine step (ρ' := [some ⟨d0, 0, false⟩, some ⟨.lst (lT T1), 1, false⟩, some ⟨.int p.1, 0, false⟩, some ⟨.lst (lI p.2), 0, false⟩, some ⟨.lst (lF fs), 0, false⟩, some ⟨.int (1 + (i : Int)), 0, false⟩, some ⟨.lst [], 10, false⟩, q7, q8, q9]) ?_ (step (ρ' := [some ⟨d0, 0, false⟩, some ⟨.lst (lT T1), 1, false⟩, some ⟨.int p.1, 0, false⟩, some ⟨.lst (lI p.2), 0, false⟩, some ⟨.lst (lF fs), 0, false⟩, some ⟨.int (1 + (i : Int)), 0, false⟩, some ⟨.lst (lF (rowF fs (1 + (i : Int)) p.2)), 10, false⟩, r7, r8, r9]) ?_ (step ?_ (exB_nil _ _)))
      · simp [j6]
      · simp [sk]
        exact row
      · simp [pathOk_eq, mutS_eq, sz, e2]
  have sk1 : smallI 1 = true := smallI_of (by decide) (by decide)
  have sk2 : smallI ((p.1 : Int) + 1) = true := smallI_of (by omega) (by omega)
  have n1 : ((p.1 : Int) + 1 - 1).toNat = p.1 := by omega
  refine ⟨some ⟨.lst (lF fs), 0, false⟩, q5, q6, q7, q8, q9, step (ρ' := [some ⟨d0, 0, false⟩, some ⟨.lst (lT T), 1, false⟩, some ⟨.int p.1, 0, false⟩, some ⟨.lst (lI p.2), 0, false⟩, some ⟨.lst (lF fs), 0, false⟩, o5, o6, o7, o8, o9]) ?_ (step ?_ (exB_nil _ _)), rfl, j5, j6, j7, j8, j9⟩
  · rcases hn with rfl | rfl <;> simp [ex_chi, la, k4]
  · simp [sk1, sk2]
    exact e
end
theorem shp_lFs : ∀ l : List Fr, shpL 58 (lF l) = true
  | [] => by simp [lF]
  | p :: l => by
    show shpL 58 (dF p :: lF l) = true
    rw [shpL_cons, shp_lFs l]
    simp [dF]
theorem ldues_ok {Γ : Fe} {low : Nat} {m M : Nat} {s : Sps} (S : SpsOk m M s) (hM : M ≤ 60) (hlow : ∀ a b : Int, 0 < b → b.natAbs ≤ 10 ^ 250 → Γ.fn low [.int a, .int b] = .ok (dF (lowF a b)) 9) :
    runF Γ 10 1 (sLDues low) [.lst (s.map dS)] = .ok (.lst (lT (duesF m s))) 1 := by
  obtain ⟨d0, ed⟩ : ∃ d0, D.lst (s.map dS) = d0 := ⟨_, rfl⟩
  have hsl := S.le
  have hne := S.ne
  obtain ⟨ρ', e, n, o2, o3, o4, o5, o6, o7, o8, o9, rfl, _, hn1, _⟩ := forS_to (tg := [2, 3]) (b := exB Γ (sLDuesL2 low)) (xs := s.map dS) (ρ := [some ⟨d0, 0, false⟩, some ⟨.lst (lT [List.replicate m (0, 1)]), 10, false⟩, none, none, none, none, none, none, none, none])
    (fun i ρ => ∃ n o2 o3 o4 o5 o6 o7 o8 o9, ρ = [some ⟨d0, 0, false⟩, some ⟨.lst (lT (duesT m s i)), n, false⟩, o2, o3, o4, o5, o6, o7, o8, o9] ∧ (i = 0 → n = 10) ∧ (0 < i → n = 1) ∧ lkO o2 = false ∧ lkO o3 = false ∧ lkO o4 = false ∧ lkO o5 = false ∧ lkO o6 = false ∧ lkO o7 = false ∧ lkO o8 = false ∧ lkO o9 = false) 0
    ⟨10, none, none, none, none, none, none, none, none, rfl, fun _ => rfl, fun h => absurd h (by decide), rfl, rfl, rfl, rfl, rfl, rfl, rfl, rfl⟩ fun i d ρ hd ⟨n, o2, o3, o4, o5, o6, o7, o8, o9, e, h0, h1, k2, k3, k4, k5, k6, k7, k8, k9⟩ => by
      subst e
      rw [Nat.zero_add] at h0 h1 ⊢
      rw [List.getElem?_map] at hd
      have hi : i < s.length := by
        rcases Nat.lt_or_ge i s.length with z | z
        · exact z
        · rw [List.getElem?_eq_none z] at hd
          cases hd
      rw [List.getElem?_eq_getElem hi] at hd
      cases hd
      have hn : n = 10 ∨ n = 1 := by
        rcases Nat.eq_zero_or_pos i with z | z
        · exact .inl (h0 z)
        · exact .inr (h1 z)
      obtain ⟨t1, t2⟩ := duesT_tb S hM i (by omega)
      obtain ⟨q4, q5, q6, q7, q8, q9, e2, j4, j5, j6, j7, j8, j9⟩ := ldues_spell hlow (B := (100000 : Int) ^ i) (one_le_p i) (Int.le_trans (pow_small (by omega)) (by decide)) S.m6 hM t1 (by omega) (S.sp s[i] (List.getElem_mem hi)) d0 n hn o4 o5 o6 o7 o8 o9 k4 k5 k6 k7 k8 k9
      have ea : duesT m s (i + 1) = addSp (duesT m s i) s[i] := take_fold _ _ hi
      refine ⟨_, _, by simp [dS, k2, k3], .inl e2, 1, _, _, q4, q5, q6, q7, q8, q9, by rw [ea], fun h => absurd h (by omega), fun _ => rfl, rfl, rfl, j4, j5, j6, j7, j8, j9⟩
  have eT : duesT m s (0 + (s.map dS).length) = duesF m s := by rw [Nat.zero_add, List.length_map]; unfold duesT duesF; rw [List.take_length]
  have hn : n = 1 := hn1 (by rw [List.length_map]; omega)
  subst hn
  rw [eT] at e
  have m6 := S.m6
  have sk : smallI (m : Int) = true := smallI_of (by omega) (by omega)
  have sz : m ≤ 16777216 := by omega
  have r0 : (List.replicate m [D.tup [.int 0, .int 1]]).flatten = lF (List.replicate m (0, 1)) := by
    unfold lF
    rw [List.map_replicate]
    simp [dF]
  obtain ⟨q, s', es, hq⟩ : ∃ q s', s = q :: s' ∧ q.2.length = m := by
    cases s with
    | nil => simp at hne
    | cons q s' => exact ⟨q, s', rfl, (S.sp q List.mem_cons_self).len⟩
  have A0 : atD (s.map dS) 0 = .ok (dS q) 0 := by rw [es]; simp
  rw [ed]
  refine run_of rfl (step (ρ' := [some ⟨d0, 0, false⟩, some ⟨.lst (lT [List.replicate m (0, 1)]), 10, false⟩, none, none, none, none, none, none, none, none]) ?_ (step (ρ' := [some ⟨d0, 0, false⟩, some ⟨.lst (lT (duesF m s)), 1, false⟩, o2, o3, o4, o5, o6, o7, o8, o9]) ?_ (stop ?_)))
  · subst ed
    simp [-atD_0, A0, dS, hq, sk, sz, r0, lT]
  · subst ed
    simp
    exact e
  · simp
end PL
set_option exponentiation.threshold 10000
/-! PL35: rows, counts, lags. -/
namespace PL
open PySem L2
theorem duesT_len {s : Sps} {m : Nat} : ∀ i, i ≤ s.length → (duesT m s i).length = ((s.take i).map Prod.fst).sum + 1
  | 0, _ => by simp [duesT]
  | i + 1, h => by
    have e : duesT m s (i + 1) = addSp (duesT m s i) s[i] := take_fold _ _ (by omega)
    have ih := duesT_len (s := s) (m := m) i (by omega)
    rw [e, List.take_succ_eq_append_getElem (l := s) (i := i) (by omega)]
    simp only [addSp, spellR, List.length_append, List.length_map, List.length_range, ih, List.map_append, List.map_cons, List.map_nil, List.sum_append, List.sum_cons, List.sum_nil]
    omega
theorem duesF_len (m : Nat) (s : Sps) : (duesF m s).length = turnsF s + 1 := by
  have := duesT_len (s := s) (m := m) s.length (Nat.le_refl _)
  have e : duesT m s s.length = duesF m s := by unfold duesT duesF; rw [List.take_length]
  rw [e, List.take_length] at this
  exact this
/-- a row of a plan -/
structure RowOk (m : Nat) (s : Sps) (r : List Int) : Prop where
  wi : Wi m r
  len : r.length ≤ turnsF s
/-! ### no row -/
def sCkRowL (t w mn : Nat) (r : St) : List St := [.ife (.or (.cmp .ge (.var 2) (.meth t (.var 0) [])) (.or (.not (.call w [.ix (.var 1) (.var 2)])) (.not (.cmp2 .le .lt (.con (.int 0)) (.ix (.var 1) (.var 2)) (.meth mn (.var 0) []))))) [r] []]
def sCkRow (t w mn : Nat) (r0 r : St) : List St := [.ife (.not (.isi (.var 1) .list)) [r0] [], .fo .rng1 [.bi .len [.var 1]] [2] [] .imm (sCkRowL t w mn r)]
theorem ckRow_ok {Γ : Fe} {t w mn : Nat} {r0 r : St} {m : Nat} {s : Sps} {row : List Int} (R : RowOk m s row) (hz : row.length ≤ 1000) (ht : Γ.mh t 0 = true) (ht2 : Γ.me t 0 [dP m s] = .ok (.int (turnsF s)) 0) (hm : Γ.mh mn 0 = true) (hm2 : Γ.me mn 0 [dP m s] = .ok (.int m) 0) (hw : ∀ a, Γ.fn w [.int a] = .ok (.bl true) 0) :
    runF Γ 3 2 (sCkRow t w mn r0 r) [dP m s, .lst (lI row)] = .ok .non 0 := by
  have hl := R.len
  obtain ⟨ρ', e, o2, rfl, _⟩ := for_rng (tg := [2]) (b := exB Γ (sCkRowL t w mn r)) (lo := 0) (n := row.length) (ρ := [some ⟨dP m s, 0, false⟩, some ⟨.lst (lI row), 0, false⟩, none])
    (fun _ ρ => ∃ o2, ρ = [some ⟨dP m s, 0, false⟩, some ⟨.lst (lI row), 0, false⟩, o2] ∧ lkO o2 = false) ⟨none, rfl, rfl⟩ fun i ρ hi ⟨o2, e, k2⟩ => by
      subst e
      have A := lI_at hi
      obtain ⟨h1, h2⟩ := R.wi _ (List.getElem_mem hi)
      have c1 : ¬ (turnsF s : Int) ≤ i := by omega
      unfold dP at ht2 hm2
      have e2 : exB Γ (sCkRowL t w mn r) [some ⟨dP m s, 0, false⟩, some ⟨.lst (lI row), 0, false⟩, some ⟨.int (0 + (i : Int)), 0, false⟩] = .nx [some ⟨dP m s, 0, false⟩, some ⟨.lst (lI row), 0, false⟩, some ⟨.int (0 + (i : Int)), 0, false⟩] := by
        rw [Int.zero_add]
        unfold dP
        simp [sCkRowL, ht, ht2, hm, hm2, hw, A, h1, h2, c1]
      exact ⟨_, _, by simp [k2], .inl e2, _, rfl, rfl⟩
  have sk : smallI (row.length : Int) = true := smallI_of (by omega) (by omega)
  show endF (exB Γ (sCkRow t w mn r0 r) [some ⟨dP m s, 0, false⟩, some ⟨.lst (lI row), 0, false⟩, none]) = _
  have key : exB Γ (sCkRow t w mn r0 r) [some ⟨dP m s, 0, false⟩, some ⟨.lst (lI row), 0, false⟩, none] = .nx [some ⟨dP m s, 0, false⟩, some ⟨.lst (lI row), 0, false⟩, o2] := by
    refine step (ρ' := [some ⟨dP m s, 0, false⟩, some ⟨.lst (lI row), 0, false⟩, none]) ?_ (step ?_ (exB_nil _ _))
    · simp
    · simp [sk]
      exact e
  rw [key]
  rfl
/-! ### the first fraction less the second -/
def sMinus (m : Nat) : List St := [.ret (.call m [.bin .sub (.bin .mul (.ix (.var 0) (.con (.int 0))) (.ix (.var 1) (.con (.int 1)))) (.bin .mul (.ix (.var 1) (.con (.int 0))) (.ix (.var 0) (.con (.int 1)))), .bin .mul (.ix (.var 0) (.con (.int 1))) (.ix (.var 1) (.con (.int 1)))])]
/-- a lag: a due less a count -/
def lagP (p : Fr) (c : Int) : Fr := (p.1 - c * p.2, p.2)
theorem lagP_gcd {p : Fr} (c : Int) (h : Int.gcd p.1 p.2 = 1) : Int.gcd (lagP p c).1 (lagP p c).2 = 1 := by
  unfold lagP
  have : p.1 - c * p.2 = p.1 + p.2 * (-c) := by rw [Int.mul_neg, Int.mul_comm]; rfl
  rw [this]
  simpa using h
theorem minusC_ok {Γ : Fe} {m : Nat} (hm : ∀ a b : Int, 0 < b → b.natAbs ≤ 10 ^ 250 → Γ.fn m [.int a, .int b] = .ok (dF (lowF a b)) 9) {p : Fr} {B : Int} (P : FB B p) (hB : B ≤ 10 ^ 100) (c : Int) (hc : c.natAbs ≤ 10 ^ 50) : runF Γ 2 2 (sMinus m) [dF p, .tup [.int c, .int 1]] = .ok (dF (lagP p c)) 9 := by
  have a1 := P.pos
  have a2 := P.top
  have a3 := P.low
  have e := hm (p.1 * 1 - c * p.2) (p.2 * 1) (by omega) (by omega)
  have m1 : mulOk p.1 1 = true := small_mul (by omega) (by omega)
  have m2 : mulOk c p.2 = true := small_mul (by omega) (by omega)
  have m3 : mulOk p.2 1 = true := small_mul (by omega) (by omega)
  rw [Int.mul_one, Int.mul_one, show lowF (p.1 - c * p.2) p.2 = lagP p c from lowF_id a1 (lagP_gcd c P.one)] at e
  refine run_of rfl ?_
  simp [sMinus, dF, m1, m2, m3]
  rw [e]
  rfl
/-! ### lags, turn by turn -/
def cntF (m : Nat) (r : List Int) (t : Nat) : List Int := (List.range m).map fun who : Nat => (((r.take t).count ((who : Nat) : Int) : Nat) : Int)
def lagRow (T : List (List Fr)) (m : Nat) (r : List Int) (t : Nat) : List Fr := (List.range m).map fun who : Nat => lagP ((T.getD t []).getD who (0, 1)) (((r.take t).count ((who : Nat) : Int) : Nat) : Int)
def lagsF (T : List (List Fr)) (m : Nat) (r : List Int) (n : Nat) : List (List Fr) := (List.range n).map fun t => lagRow T m r t
theorem cnt_at {m : Nat} {r : List Int} {t who : Nat} (h : who < m) : atD (lI (cntF m r t)) (who : Nat) = .ok (.int ((r.take t).count (who : Int) : Nat)) 0 := by
  rw [lI_at (by simpa [cntF] using h)]
  simp [cntF]
theorem cnt_len (m : Nat) (r : List Int) (t : Nat) : (cntF m r t).length = m := by simp [cntF]
/-- one more choice -/
theorem cnt_step {m : Nat} {r : List Int} (W : Wi m r) {t : Nat} (ht : t < r.length) : (cntF m r t).set (r[t].toNat) ((r.take t).count r[t] + 1 : Nat) = cntF m r (t + 1) := by
  obtain ⟨h1, h2⟩ := W _ (List.getElem_mem ht)
  apply List.ext_getElem
  · simp [cntF]
  · intro i a b
    have hi : i < m := by simpa [cntF] using b
    have g1 : (cntF m r (t + 1))[i] = (((r.take (t + 1)).count (i : Int) : Nat) : Int) := by simp [cntF]
    have g0 : (cntF m r t)[i]'(by simpa [cntF] using hi) = (((r.take t).count (i : Int) : Nat) : Int) := by simp [cntF]
    rw [List.getElem_set, g1, g0, List.take_succ_eq_append_getElem ht, List.count_append]
    by_cases q : r[t].toNat = i
    · rw [if_pos q]
      have e : r[t] = (i : Int) := by omega
      rw [e]
      simp
    · rw [if_neg q]
      have e : ¬ r[t] = (i : Int) := by omega
      have : [r[t]].count (i : Int) = 0 := by
        rw [List.count_eq_zero]
        intro z
        have z2 : (i : Int) = r[t] := by simpa using z
        exact e z2.symm
      rw [this]
      simp
theorem lT_at {T : List (List Fr)} {t : Nat} (h : t < T.length) : atD (lT T) (t : Nat) = .ok (.lst (lF (T.getD t []))) 0 := by
  rw [atD_nat]
  unfold lT
  rw [List.getElem?_map, List.getElem?_eq_getElem h, List.getD_eq_getElem?_getD, List.getElem?_eq_getElem h]
  rfl
theorem TB.row {B : Int} {m : Nat} {T : List (List Fr)} (h : TB B m T) {t : Nat} (ht : t < T.length) : (T.getD t []).length = m ∧ ∀ p ∈ T.getD t [], FB B p := by
  have e : T.getD t [] = T[t] := by rw [List.getD_eq_getElem?_getD, List.getElem?_eq_getElem ht]; rfl
  rw [e]
  exact ⟨h.len _ (List.getElem_mem ht), h.fb _ (List.getElem_mem ht)⟩
def sLagsX (mi : Nat) : Ex := .call mi [.ix (.ix (.fld (.var 0) 1) (.var 4)) (.var 5), .tup [.ix (.var 3) (.var 5), .con (.int 1)]]
def sLagsL (mn mi : Nat) : List St := [.ife (.cmp .gt (.var 4) (.con (.int 0))) [.setp 3 [] (.ix (.var 1) (.bin .sub (.var 4) (.con (.int 1)))) (.bin .add (.ix (.var 3) (.ix (.var 1) (.bin .sub (.var 4) (.con (.int 1))))) (.con (.int 1))) .imm] [], .app 2 [] (.comp .rng1 [.meth mn (.var 0) []] [5] (sLagsX mi)) .imm]
def sLags (mn mi : Nat) : List St := [.asg 2 (.lst []) (.fz []), .asg 3 (.bin .mul (.lst [.con (.int 0)]) (.meth mn (.var 0) [])) .imm, .fo .rng1 [.bin .add (.bi .len [.var 1]) (.con (.int 1))] [4] [] .imm (sLagsL mn mi), .retv 2]
theorem lags_ok {Γ : Fe} {mn mi : Nat} {m M : Nat} {s : Sps} {row : List Int} (S : SpsOk m M s) (hM : M ≤ 60) (R : RowOk m s row) (hf1 : Γ.fo 0 1 = true) (hm : Γ.mh mn 0 = true) (hm2 : Γ.me mn 0 [dP m s] = .ok (.int m) 0)
    (hmi : ∀ (p : Fr) (c B : Int), FB B p → B ≤ 10 ^ 100 → c.natAbs ≤ 10 ^ 50 → Γ.fn mi [dF p, .tup [.int c, .int 1]] = .ok (dF (lagP p c)) 9) :
    runF Γ 6 2 (sLags mn mi) [dP m s, .lst (lI row)] = .ok (.lst (lT (lagsF (duesF m s) m row (row.length + 1)))) 10 := by
  have hl := R.len
  obtain ⟨tb, tl⟩ := duesF_tb S hM
  have dl := duesF_len m s
  have m6 := S.m6
  have skm : smallI (m : Int) = true := smallI_of (by omega) (by omega)
  obtain ⟨T, eT⟩ : ∃ T, duesF m s = T := ⟨_, rfl⟩
  have ed : dP m s = .obj 0 [0, 1] [.lst (s.map dK), .lst (lT T)] := by rw [← eT]; rfl
  rw [eT] at tb tl dl ⊢
  have comp : ∀ t : Nat, t ≤ row.length → ∀ a1 a2 : Option D, compL [5] (evE Γ (sLagsX mi)) (fun _ => .ok true) (rngD 0 m) [some (dP m s), a1, a2, some (.lst (lI (cntF m row t))), some (.int t), none] = .ok ((lagRow T m row t).map fun p => (dF p, 9)) := fun t ht a1 a2 => by
    rw [compL_rng (fun who => (dF (lagP ((T.getD t []).getD who (0, 1)) ((row.take t).count (who : Int))), 9)) fun who hw => ?_]
    · unfold lagRow
      rw [List.map_map]
      rfl
    · obtain ⟨r1, r2⟩ := tb.row (t := t) (by omega)
      have A := lT_at (T := T) (t := t) (by omega)
      have A2 := lF_at (l := T.getD t []) (i := who) (by omega)
      have C := cnt_at (r := row) (t := t) hw
      have P := FB.get r2 (i := who) (by omega)
      have cl : (row.take t).count (who : Int) ≤ (row.take t).length := List.count_le_length
      rw [List.length_take] at cl
      generalize (T.getD t []).getD who (0, 1) = fr at *
      generalize (row.take t).count (who : Int) = c at *
      have e := hmi fr (c : Int) _ P (by decide) (by omega)
      generalize T.getD t [] = tr at *
      rw [Int.zero_add]
      exact ⟨_, takeE_one _ _ _, rfl, by rw [ed]; simp [sLagsX, hf1, A, A2, C, e]⟩
  obtain ⟨ρ', e, o4, o5, rfl, _⟩ := for_rng (tg := [4]) (b := exB Γ (sLagsL mn mi)) (lo := 0) (n := row.length + 1) (ρ := [some ⟨dP m s, 0, false⟩, some ⟨.lst (lI row), 0, false⟩, some ⟨.lst [], 10, false⟩, some ⟨.lst (lI (cntF m row 0)), 1, false⟩, none, none])
    (fun i ρ => ∃ o4 o5, ρ = [some ⟨dP m s, 0, false⟩, some ⟨.lst (lI row), 0, false⟩, some ⟨.lst (lT (lagsF T m row i)), 10, false⟩, some ⟨.lst (lI (cntF m row (i - 1))), 1, false⟩, o4, o5] ∧ lkO o4 = false)
    ⟨none, none, rfl, rfl⟩ fun i ρ hi ⟨o4, o5, e, k4⟩ => by
      subst e
      have nR := newL_frs (T := lagRow T m row i) (by simp [lagRow]; omega)
      have el : lT (lagsF T m row i) ++ [.lst (lF (lagRow T m row i))] = lT (lagsF T m row (i + 1)) := by
        unfold lT lagsF
        rw [List.range_succ, List.map_append, List.map_append]
        rfl
      have ln : (lagsF T m row i).length < 16777216 := by simp [lagsF]; omega
      refine ⟨_, [some ⟨dP m s, 0, false⟩, some ⟨.lst (lI row), 0, false⟩, some ⟨.lst (lT (lagsF T m row (i + 1))), 10, false⟩, some ⟨.lst (lI (cntF m row i)), 1, false⟩, some ⟨.int i, 0, false⟩, o5], by simp [k4]; rfl, .inl ?_, _, _, by rw [Nat.add_sub_cancel], rfl⟩
      refine step (ρ' := [some ⟨dP m s, 0, false⟩, some ⟨.lst (lI row), 0, false⟩, some ⟨.lst (lT (lagsF T m row i)), 10, false⟩, some ⟨.lst (lI (cntF m row i)), 1, false⟩, some ⟨.int i, 0, false⟩, o5]) ?_ (step ?_ (exB_nil _ _))
      · by_cases z : i = 0
        · subst z
          simp
        · have z' : (0 : Int) < i := by omega
          have hp : i - 1 < row.length := by omega
          have A := lI_at hp
          obtain ⟨h1, h2⟩ := R.wi _ (List.getElem_mem hp)
          have C := cnt_at (m := m) (r := row) (t := i - 1) (who := (row[i - 1]).toNat) (by omega)
          have es := cnt_step R.wi hp
          have ix := ixN_nat (n := (cntF m row (i - 1)).length) (k := row[i - 1]) h1 (by rw [cnt_len]; exact h2)
          have ei : ((i - 1 : Nat) : Int) = (i : Int) - 1 := by omega
          rw [ei] at A
          rw [show i - 1 + 1 = i by omega] at es
          rw [show (((row[i - 1]).toNat : Nat) : Int) = row[i - 1] by omega] at C
          generalize row[i - 1] = x at *
          have st := set_int (cntF m row (i - 1)) x.toNat (((row.take (i - 1)).count x + 1 : Nat) : Int)
          rw [es] at st
          rw [Int.natCast_add, Int.natCast_one] at st
          have z'' : 0 < i := by omega
          simp [z'', A, C, mutS_eq, ix, st]
      · have c := comp i (by omega)
        rw [ed] at c hm2 ⊢
        simp [-newL_eq, hm, hm2, skm, compD, c, nR, pathOk_eq, mutS_eq, ln, el]
  have sk : smallI ((row.length : Int) + 1) = true := smallI_of (by omega) (by omega)
  have n1 : ((row.length : Int) + 1).toNat = row.length + 1 := by omega
  have r0 : (List.replicate m [D.int 0]).flatten = lI (cntF m row 0) := by
    unfold lI cntF
    apply List.ext_getElem
    · simp
    · intro i h1 h2
      simp
  have sz : m ≤ 16777216 := by omega
  refine run_of rfl (step (ρ' := [some ⟨dP m s, 0, false⟩, some ⟨.lst (lI row), 0, false⟩, some ⟨.lst [], 10, false⟩, none, none, none]) ?_ (step (ρ' := [some ⟨dP m s, 0, false⟩, some ⟨.lst (lI row), 0, false⟩, some ⟨.lst [], 10, false⟩, some ⟨.lst (lI (cntF m row 0)), 1, false⟩, none, none]) ?_ (step (ρ' := [some ⟨dP m s, 0, false⟩, some ⟨.lst (lI row), 0, false⟩, some ⟨.lst (lT (lagsF T m row (row.length + 1))), 10, false⟩, some ⟨.lst (lI (cntF m row (row.length + 1 - 1))), 1, false⟩, o4, o5]) ?_ (stop ?_))))
  · simp
  · rw [ed] at hm2 ⊢
    simp [hm, hm2, skm, sz, r0]
  · simp [sk, n1]
    exact e
  · simp
end PL
set_option exponentiation.threshold 10000
/-! PL36: lags by the laws' own sums; the worst. -/
namespace PL
open PySem L2
def sLLagsX : Ex := .tup [.bin .sub (.ix (.var 5) (.con (.int 0))) (.bin .mul (.var 6) (.ix (.var 5) (.con (.int 1)))), .ix (.var 5) (.con (.int 1))]
def sLLagsL : List St := [.setp 2 [] (.ix (.var 1) (.var 4)) (.bin .add (.ix (.var 2) (.ix (.var 1) (.var 4))) (.con (.int 1))) .imm, .app 3 [] (.comp .zip [.ix (.var 0) (.bin .add (.var 4) (.con (.int 1))), .var 2] [5, 6] sLLagsX) .imm]
def sLLags : List St := [.asg 2 (.bin .mul (.lst [.con (.int 0)]) (.bi .len [.ix (.var 0) (.con (.int 0))])) .imm, .asg 3 (.lst [.bi .list [.ix (.var 0) (.con (.int 0))]]) (.fz [0]), .fo .rng1 [.bi .len [.var 1]] [4] [] .imm sLLagsL, .retv 3]
theorem cnt_get {m : Nat} {r : List Int} {t who : Nat} (h : who < m) : (cntF m r t).getD who 0 = (((r.take t).count (who : Int) : Nat) : Int) := by
  rw [gd_at (by simpa [cntF] using h)]
  simp [cntF]
theorem llags_ok {Γ : Fe} {B : Int} {m : Nat} {T : List (List Fr)} {row : List Int} (tb : TB B m T) (hB : B ≤ 10 ^ 100) (hm6 : m ≤ 6) (W : Wi m row) (hl : row.length < T.length) (hz : row.length ≤ 1000) :
    runF Γ 7 2 sLLags [.lst (lT T), .lst (lI row)] = .ok (.lst (lT (lagsF T m row (row.length + 1)))) 10 := by
  have comp : ∀ t : Nat, t < row.length → ∀ a0 a1 a2 a3 a4 : Option D, compL [5, 6] (evE Γ sLLagsX) (fun _ => .ok true) (((lF (T.getD (t + 1) [])).zip (lI (cntF m row (t + 1)))).map fun p => .tup [p.1, p.2]) [a0, a1, a2, a3, a4, none, none] = .ok ((lagRow T m row (t + 1)).map fun p => (dF p, 9)) := fun t ht a0 a1 a2 a3 a4 => by
    obtain ⟨r1, r2⟩ := tb.row (t := t + 1) (by omega)
    have cl := cnt_len m row (t + 1)
    have := compL_to (fun who => (dF (lagP ((T.getD (t + 1) []).getD who (0, 1)) (((row.take (t + 1)).count (who : Int) : Nat) : Int)), 9)) (tg := [5, 6]) (elt := evE Γ sLLagsX) (cnd := fun _ => .ok true) (δ := [a0, a1, a2, a3, a4, none, none]) (xs := ((lF (T.getD (t + 1) [])).zip (lI (cntF m row (t + 1)))).map fun p => .tup [p.1, p.2]) 0 fun who d hd => by
      rw [List.getElem?_map] at hd
      have hw : who < m := by
        rcases Nat.lt_or_ge who m with z | z
        · exact z
        · rw [List.getElem?_eq_none (by rw [List.length_zip, lF_len, lI_len, r1, cl]; omega)] at hd
          cases hd
      have P := FB.get r2 (i := who) (by omega)
      have cg := cnt_get (r := row) (t := t + 1) hw
      have ez : ((lF (T.getD (t + 1) [])).zip (lI (cntF m row (t + 1))))[who]? = some (dF ((T.getD (t + 1) []).getD who (0, 1)), .int ((cntF m row (t + 1)).getD who 0)) := by
        refine List.getElem?_zip_eq_some.mpr ⟨?_, ?_⟩
        · unfold lF
          rw [List.getElem?_map, List.getElem?_eq_getElem (by omega), List.getD_eq_getElem?_getD (l := T.getD (t + 1) []), List.getElem?_eq_getElem (by omega)]
          rfl
        · unfold lI
          rw [List.getElem?_map, List.getElem?_eq_getElem (by omega), gd_at (by omega)]
          rfl
      rw [ez] at hd
      cases hd
      rw [Nat.zero_add, ← cg]
      have cb : (cntF m row (t + 1)).getD who 0 ≤ 1000 ∧ 0 ≤ (cntF m row (t + 1)).getD who 0 := by
        rw [cg]
        have : (row.take (t + 1)).count (who : Int) ≤ (row.take (t + 1)).length := List.count_le_length
        rw [List.length_take] at this
        omega
      generalize (cntF m row (t + 1)).getD who 0 = c at *
      generalize (T.getD (t + 1) []).getD who (0, 1) = fr at *
      have a2 := P.top
      have a3 := P.low
      have a1 := P.pos
      have mk : mulOk c fr.2 = true := small_mul (by omega) (by omega)
      exact ⟨_, rfl, rfl, by simp [sLLagsX, dF, lagP, mk]⟩
    rw [this]
    unfold lagRow
    rw [List.map_map, List.length_map, List.length_zip, lF_len, lI_len, r1, cl, Nat.min_self]
    congr 1
    apply List.map_congr_left
    intro who _
    simp
  have r0 : (List.replicate m [D.int 0]).flatten = lI (cntF m row 0) := by
    unfold lI cntF
    apply List.ext_getElem
    · simp
    · intro i h1 h2
      simp
  have hT0 : 0 < T.length := by omega
  obtain ⟨z1, z2⟩ := tb.row hT0
  have e0 : lagsF T m row 1 = [T.getD 0 []] := by
    unfold lagsF lagRow
    show [(List.range m).map _] = _
    congr 1
    apply List.ext_getElem
    · simpa using z1.symm
    · intro i h1 h2
      simp only [List.getElem_map, List.getElem_range, List.take_zero, List.count_nil]
      rw [List.getD_eq_getElem?_getD (l := T.getD 0 []), List.getElem?_eq_getElem h2]
      simp [lagP]
  obtain ⟨ρ', e, o4, o5, o6, rfl, _⟩ := for_rng (tg := [4]) (b := exB Γ sLLagsL) (lo := 0) (n := row.length) (ρ := [some ⟨.lst (lT T), 0, false⟩, some ⟨.lst (lI row), 0, false⟩, some ⟨.lst (lI (cntF m row 0)), 1, false⟩, some ⟨.lst (lT (lagsF T m row 1)), 10, false⟩, none, none, none])
    (fun i ρ => ∃ o4 o5 o6, ρ = [some ⟨.lst (lT T), 0, false⟩, some ⟨.lst (lI row), 0, false⟩, some ⟨.lst (lI (cntF m row i)), 1, false⟩, some ⟨.lst (lT (lagsF T m row (i + 1))), 10, false⟩, o4, o5, o6] ∧ lkO o4 = false)
    ⟨none, none, none, rfl, rfl⟩ fun i ρ hi ⟨o4, o5, o6, e, k4⟩ => by
      subst e
      have nR := newL_frs (T := lagRow T m row (i + 1)) (by simp [lagRow]; omega)
      have el : lT (lagsF T m row (i + 1)) ++ [.lst (lF (lagRow T m row (i + 1)))] = lT (lagsF T m row (i + 1 + 1)) := by
        unfold lT lagsF
        rw [List.range_succ (n := i + 1), List.map_append, List.map_append]
        rfl
      have ln : (lagsF T m row (i + 1)).length < 16777216 := by simp [lagsF]; omega
      have A := lI_at hi
      obtain ⟨h1, h2⟩ := W _ (List.getElem_mem hi)
      have C := cnt_at (m := m) (r := row) (t := i) (who := (row[i]).toNat) (by omega)
      have es := cnt_step W hi
      have ix := ixN_nat (n := (cntF m row i).length) (k := row[i]) h1 (by rw [cnt_len]; exact h2)
      rw [show (((row[i]).toNat : Nat) : Int) = row[i] by omega] at C
      have c := comp i hi
      have AT := lT_at (T := T) (t := i + 1) (by omega)
      rw [Int.natCast_add, Int.natCast_one] at AT
      refine ⟨_, [some ⟨.lst (lT T), 0, false⟩, some ⟨.lst (lI row), 0, false⟩, some ⟨.lst (lI (cntF m row (i + 1))), 1, false⟩, some ⟨.lst (lT (lagsF T m row (i + 1 + 1))), 10, false⟩, some ⟨.int i, 0, false⟩, o5, o6], by simp [k4]; rfl, .inl ?_, _, _, _, rfl, rfl⟩
      refine step (ρ' := [some ⟨.lst (lT T), 0, false⟩, some ⟨.lst (lI row), 0, false⟩, some ⟨.lst (lI (cntF m row (i + 1))), 1, false⟩, some ⟨.lst (lT (lagsF T m row (i + 1))), 10, false⟩, some ⟨.int i, 0, false⟩, o5, o6]) ?_ (step ?_ (exB_nil _ _))
      · generalize row[i] = x at *
        have st := set_int (cntF m row i) x.toNat (((row.take i).count x + 1 : Nat) : Int)
        rw [es] at st
        rw [Int.natCast_add, Int.natCast_one] at st
        simp [A, C, mutS_eq, ix, st]
      · generalize T.getD (i + 1) [] = tr at *
        simp [-newL_eq, AT, compD, c, nR, pathOk_eq, mutS_eq, ln, el]
  have sk : smallI (row.length : Int) = true := smallI_of (by omega) (by omega)
  have skm : smallI (m : Int) = true := smallI_of (by omega) (by omega)
  have sz : m ≤ 16777216 := by omega
  have A0 := lT_at (T := T) (t := 0) hT0
  simp only [Int.natCast_zero] at A0
  refine run_of rfl (step (ρ' := [some ⟨.lst (lT T), 0, false⟩, some ⟨.lst (lI row), 0, false⟩, some ⟨.lst (lI (cntF m row 0)), 1, false⟩, none, none, none, none]) ?_ (step (ρ' := [some ⟨.lst (lT T), 0, false⟩, some ⟨.lst (lI row), 0, false⟩, some ⟨.lst (lI (cntF m row 0)), 1, false⟩, some ⟨.lst (lT (lagsF T m row 1)), 10, false⟩, none, none, none]) ?_ (step (ρ' := [some ⟨.lst (lT T), 0, false⟩, some ⟨.lst (lI row), 0, false⟩, some ⟨.lst (lI (cntF m row row.length)), 1, false⟩, some ⟨.lst (lT (lagsF T m row (row.length + 1))), 10, false⟩, o4, o5, o6]) ?_ (stop ?_))))
  · generalize T.getD 0 [] = t0 at *
    simp [-atD_0, A0, z1, skm, sz, r0]
  · rw [e0]
    generalize T.getD 0 [] = t0 at *
    have eL : lT [t0] = [.lst (lF t0)] := rfl
    rw [eL]
    simp [-atD_0, A0]
  · simp [sk]
    exact e
  · simp
end PL
set_option exponentiation.threshold 10000
/-! PL37: the worst, as the program finds it and as the laws find it. -/
namespace PL
open PySem L2
def dW (s : Fr × Nat × Nat) : D := .tup [dF s.1, .int s.2.1, .int s.2.2]
def uns (p : Fr) : Fr := (if p.1 < 0 then -p.1 else p.1, p.2)
def wCell (T : List (List Fr)) (t : Nat) (s : Fr × Nat × Nat) (w : Nat) : Fr × Nat × Nat :=
  if s.1.1 * (uns ((T.getD t []).getD w (0, 1))).2 < (uns ((T.getD t []).getD w (0, 1))).1 * s.1.2 then (uns ((T.getD t []).getD w (0, 1)), t, w) else s
def wRow (m : Nat) (T : List (List Fr)) (s : Fr × Nat × Nat) (t : Nat) : Fr × Nat × Nat := (List.range m).foldl (wCell T t) s
def wF (m : Nat) (T : List (List Fr)) : Fr × Nat × Nat := (List.range T.length).foldl (wRow m T) ((0, 1), 0, 0)
/-- small, of a positive bottom -/
structure LB (p : Fr) : Prop where
  pos : 0 < p.2
  low : p.2 ≤ 10 ^ 20
  top : p.1.natAbs ≤ 10 ^ 25
theorem LB.uns {p : Fr} (h : LB p) : LB (uns p) := ⟨h.pos, h.low, by
  have := h.top
  unfold PL.uns
  dsimp only
  split <;> omega⟩
structure LT (m : Nat) (T : List (List Fr)) : Prop where
  len : T.length ≤ 1000
  row : ∀ t, t < T.length → (T.getD t []).length = m
  lb : ∀ t w, t < T.length → w < m → LB ((T.getD t []).getD w (0, 1))
theorem wCell_lb {m : Nat} {T : List (List Fr)} (L : LT m T) {t w : Nat} {s : Fr × Nat × Nat} (hs : LB s.1) (ht : t < T.length) (hw : w < m) : LB (wCell T t s w).1 := by
  unfold wCell
  split
  · exact (L.lb t w ht hw).uns
  · exact hs
theorem fold_range {α : Type} (f : α → Nat → α) (a : α) (i : Nat) : (List.range (i + 1)).foldl f a = f ((List.range i).foldl f a) i := by
  rw [List.range_succ, List.foldl_append]
  rfl
theorem lb0 : LB (0, 1) := ⟨by decide, by decide, by decide⟩
theorem fold_lb {m : Nat} {T : List (List Fr)} (L : LT m T) {t : Nat} (ht : t < T.length) {s : Fr × Nat × Nat} (hs : LB s.1) : ∀ i, i ≤ m → LB ((List.range i).foldl (wCell T t) s).1
  | 0, _ => hs
  | i + 1, h => by
    rw [fold_range]
    exact wCell_lb L (fold_lb L ht hs i (by omega)) ht (by omega)
theorem foldT_lb {m : Nat} {T : List (List Fr)} (L : LT m T) : ∀ i, i ≤ T.length → LB ((List.range i).foldl (wRow m T) ((0, 1), 0, 0)).1
  | 0, _ => lb0
  | i + 1, h => by
    rw [fold_range]
    exact fold_lb L (by omega) (foldT_lb L i (by omega)) m (Nat.le_refl m)
def sUns : List St := [.ret (.tup [.bi .abs [.ix (.var 0) (.con (.int 0))], .ix (.var 0) (.con (.int 1))])]
theorem uns_ok {Γ : Fe} (p : Fr) : runF Γ 1 1 sUns [dF p] = .ok (dF (uns p)) 9 := by
  simp [sUns, dF, uns]
def sLess : List St := [.ret (.cmp .lt (.bin .mul (.ix (.var 0) (.con (.int 0))) (.ix (.var 1) (.con (.int 1)))) (.bin .mul (.ix (.var 1) (.con (.int 0))) (.ix (.var 0) (.con (.int 1)))))]
theorem less_ok {Γ : Fe} {p q : Fr} (P : LB p) (Q : LB q) : runF Γ 2 2 sLess [dF p, dF q] = .ok (.bl (decide (p.1 * q.2 < q.1 * p.2))) 0 := by
  have a1 := P.top
  have a2 := P.low
  have a3 := P.pos
  have b1 := Q.top
  have b2 := Q.low
  have b3 := Q.pos
  have m1 : mulOk p.1 q.2 = true := small_mul (by omega) (by omega)
  have m2 : mulOk q.1 p.2 = true := small_mul (by omega) (by omega)
  simp [sLess, dF, m1, m2]
def sWorstL0 (un le : Nat) : List St := [.asg 6 (.call un [.ix (.ix (.var 3) (.var 4)) (.var 5)]) (.fz [3, 4, 5]), .ife (.call le [.ix (.var 2) (.con (.int 0)), .var 6]) [.asg 2 (.tup [.var 6, .var 4, .var 5]) (.fz [4, 5, 6])] []]
def sWorstL1 (mn un le : Nat) : List St := [.fo .rng1 [.meth mn (.var 0) []] [5] [] .imm (sWorstL0 un le)]
def sWorst (ck g lg mn un le : Nat) : List St := [.ex (.call ck [.var 0, .var 1]), .asg 2 (.tup [.glo g, .con (.int 0), .con (.int 0)]) (.fz []), .asg 3 (.call lg [.var 0, .var 1]) (.fz [0, 1]), .fo .rng1 [.bi .len [.var 3]] [4] [] .imm (sWorstL1 mn un le), .retv 2]
theorem worst_cell {Γ : Fe} {un le : Nat} (hun : ∀ p, Γ.fn un [dF p] = .ok (dF (uns p)) 9) (hle : ∀ p q : Fr, LB p → LB q → Γ.fn le [dF p, dF q] = .ok (.bl (decide (p.1 * q.2 < q.1 * p.2))) 0)
    {m : Nat} {T : List (List Fr)} (L : LT m T) {t w : Nat} (ht : t < T.length) (hw : w < m) {s : Fr × Nat × Nat} (hs : LB s.1) (dp dr : D) (n0 n1 n2 n3 : Nat) (o6 : Option Sl) (k6 : lkO o6 = false) :
    ∃ n2' o6', exB Γ (sWorstL0 un le) [some ⟨dp, n0, false⟩, some ⟨dr, n1, false⟩, some ⟨dW s, n2, false⟩, some ⟨.lst (lT T), n3, false⟩, some ⟨.int t, 0, false⟩, some ⟨.int w, 0, false⟩, o6] = .nx [some ⟨dp, n0, false⟩, some ⟨dr, n1, false⟩, some ⟨dW (wCell T t s w), n2', false⟩, some ⟨.lst (lT T), 0, false⟩, some ⟨.int t, 0, false⟩, some ⟨.int w, 0, false⟩, o6'] ∧ lkO o6' = false := by
  have A := lT_at ht
  have A2 := lF_at (l := T.getD t []) (i := w) (by rw [L.row t ht]; exact hw)
  have P := L.lb t w ht hw
  unfold wCell
  generalize (T.getD t []).getD w (0, 1) = p at *
  generalize T.getD t [] = r at *
  have e := hle s.1 (uns p) hs P.uns
  obtain ⟨q, t0, w0⟩ := s
  by_cases z : q.1 * (uns p).2 < (uns p).1 * q.2
  · refine ⟨dep [(dF (uns p), 0), (.int t, 0), (.int w, 0)], some ⟨dF (uns p), 0, false⟩, ?_, rfl⟩
    simp [sWorstL0, A, A2, hun, k6, dW, e, z]
  · refine ⟨n2, some ⟨dF (uns p), 9, false⟩, ?_, rfl⟩
    simp [sWorstL0, A, A2, hun, k6, dW, e, z]
theorem worst_ok {Γ : Fe} {ck g lg mn un le : Nat} (hun : ∀ p, Γ.fn un [dF p] = .ok (dF (uns p)) 9) (hle : ∀ p q : Fr, LB p → LB q → Γ.fn le [dF p, dF q] = .ok (.bl (decide (p.1 * q.2 < q.1 * p.2))) 0)
    {m : Nat} {s : Sps} {T : List (List Fr)} (L : LT m T) (hm6 : m ≤ 6) {dr : D} {n : Nat} (hg : Γ.gl g = .tup [.int 0, .int 1]) (hck : Γ.fn ck [dP m s, dr] = .ok .non 0) (hlg : Γ.fn lg [dP m s, dr] = .ok (.lst (lT T)) n)
    (hh : Γ.mh mn 0 = true) (hm : Γ.me mn 0 [dP m s] = .ok (.int m) 0) : ∃ k, runF Γ 7 2 (sWorst ck g lg mn un le) [dP m s, dr] = .ok (dW (wF m T)) k := by
  have L1 := L.len
  obtain ⟨ρ', e, n2, n3, o5, o6, ⟨o4, rfl, _⟩, _, _⟩ := for_rng (tg := [4]) (b := exB Γ (sWorstL1 mn un le)) (lo := 0) (n := T.length) (ρ := [some ⟨dP m s, 0, false⟩, some ⟨dr, 0, false⟩, some ⟨dW ((0, 1), 0, 0), 9, false⟩, some ⟨.lst (lT T), n, false⟩, none, none, none])
    (fun i ρ => ∃ n2 n3 o5 o6, (∃ o4, ρ = [some ⟨dP m s, 0, false⟩, some ⟨dr, 0, false⟩, some ⟨dW ((List.range i).foldl (wRow m T) ((0, 1), 0, 0)), n2, false⟩, some ⟨.lst (lT T), n3, false⟩, o4, o5, o6] ∧ lkO o4 = false) ∧ lkO o5 = false ∧ lkO o6 = false)
    ⟨_, _, none, none, ⟨none, rfl, rfl⟩, rfl, rfl⟩ fun i ρ hi ⟨n2, n3, o5, o6, ⟨o4, e, k4⟩, k5, k6⟩ => by
      subst e
      have lb := foldT_lb L i (by omega)
      rw [fold_range]
      generalize (List.range i).foldl (wRow m T) ((0, 1), 0, 0) = st at *
      obtain ⟨ρ', e, n2', n3', o5', o6', rfl, k5', k6'⟩ := for_rng (tg := [5]) (b := exB Γ (sWorstL0 un le)) (lo := 0) (n := m) (ρ := [some ⟨dP m s, 0, false⟩, some ⟨dr, 0, false⟩, some ⟨dW st, n2, false⟩, some ⟨.lst (lT T), n3, false⟩, some ⟨.int i, 0, false⟩, o5, o6])
        (fun w ρ => ∃ n2 n3 o5 o6, ρ = [some ⟨dP m s, 0, false⟩, some ⟨dr, 0, false⟩, some ⟨dW ((List.range w).foldl (wCell T i) st), n2, false⟩, some ⟨.lst (lT T), n3, false⟩, some ⟨.int i, 0, false⟩, o5, o6] ∧ lkO o5 = false ∧ lkO o6 = false)
        ⟨n2, n3, o5, o6, rfl, k5, k6⟩ fun w ρ hw ⟨n2, n3, o5, o6, e, k5, k6⟩ => by
          subst e
          obtain ⟨n2', o6', e, k6'⟩ := worst_cell hun hle L hi hw (fold_lb L hi lb w (by omega)) (dP m s) dr 0 0 n2 n3 o6 k6
          exact ⟨_, _, by simp [k5], .inl e, n2', 0, some ⟨.int w, 0, false⟩, o6', by rw [fold_range], rfl, k6'⟩
      have sk : smallI (m : Int) = true := smallI_of (by omega) (by omega)
      refine ⟨_, _, by simp [k4]; rfl, .inl (step (ρ' := [some ⟨dP m s, 0, false⟩, some ⟨dr, 0, false⟩, some ⟨dW (wRow m T st i), n2', false⟩, some ⟨.lst (lT T), n3', false⟩, some ⟨.int i, 0, false⟩, o5', o6']) ?_ (exB_nil _ _)), n2', n3', o5', o6', ⟨_, rfl, rfl⟩, k5', k6'⟩
      unfold dP at hm e ⊢
      simp [hh, hm, sk]
      exact e
  have sk : smallI (T.length : Int) = true := smallI_of (by omega) (by omega)
  refine ⟨n2, run_of rfl (step (ρ' := [some ⟨dP m s, 0, false⟩, some ⟨dr, 0, false⟩, none, none, none, none, none]) ?_ (step (ρ' := [some ⟨dP m s, 0, false⟩, some ⟨dr, 0, false⟩, some ⟨dW ((0, 1), 0, 0), 9, false⟩, none, none, none, none]) ?_ (step (ρ' := [some ⟨dP m s, 0, false⟩, some ⟨dr, 0, false⟩, some ⟨dW ((0, 1), 0, 0), 9, false⟩, some ⟨.lst (lT T), n, false⟩, none, none, none]) ?_ (step (ρ' := [some ⟨dP m s, 0, false⟩, some ⟨dr, 0, false⟩, some ⟨dW (wF m T), n2, false⟩, some ⟨.lst (lT T), n3, false⟩, o4, o5, o6]) ?_ (stop ?_)))))⟩
  · simp [hck]
  · simp [hg, dW, dF]
    try rfl
  · simp [hlg]
  · simp [sk]
    exact e
  · simp
def sLWorstL0 : List St := [.asgs [6, 7] (.ix (.ix (.var 3) (.var 4)) (.var 5)) (.fz [3, 4, 5]), .ife (.cmp .lt (.bin .mul (.ix (.ix (.var 2) (.con (.int 0))) (.con (.int 0))) (.var 7)) (.bin .mul (.bi .abs [.var 6]) (.ix (.ix (.var 2) (.con (.int 0))) (.con (.int 1))))) [.asg 2 (.tup [.tup [.bi .abs [.var 6], .var 7], .var 4, .var 5]) (.fz [4, 5, 6, 7])] []]
def sLWorstL1 : List St := [.fo .rng1 [.bi .len [.ix (.var 3) (.var 4)]] [5] [] .imm sLWorstL0]
def sLWorst (lg : Nat) : List St := [.asg 2 (.tup [.tup [.con (.int 0), .con (.int 1)], .con (.int 0), .con (.int 0)]) .imm, .asg 3 (.call lg [.var 0, .var 1]) (.fz [0, 1]), .fo .rng1 [.bi .len [.var 3]] [4] [] .imm sLWorstL1, .retv 2]
theorem lworst_cell {Γ : Fe} {m : Nat} {T : List (List Fr)} (L : LT m T) {t w : Nat} (ht : t < T.length) (hw : w < m) {s : Fr × Nat × Nat} (hs : LB s.1) (dp dr : D) (n2 n3 : Nat) (o6 o7 : Option Sl) (k6 : lkO o6 = false) (k7 : lkO o7 = false) :
    ∃ n2' o6' o7', exB Γ sLWorstL0 [some ⟨dp, 0, false⟩, some ⟨dr, 0, false⟩, some ⟨dW s, n2, false⟩, some ⟨.lst (lT T), n3, false⟩, some ⟨.int t, 0, false⟩, some ⟨.int w, 0, false⟩, o6, o7] = .nx [some ⟨dp, 0, false⟩, some ⟨dr, 0, false⟩, some ⟨dW (wCell T t s w), n2', false⟩, some ⟨.lst (lT T), 0, false⟩, some ⟨.int t, 0, false⟩, some ⟨.int w, 0, false⟩, o6', o7'] ∧ lkO o6' = false ∧ lkO o7' = false := by
  have A := lT_at ht
  have A2 := lF_at (l := T.getD t []) (i := w) (by rw [L.row t ht]; exact hw)
  have P := L.lb t w ht hw
  unfold wCell
  generalize (T.getD t []).getD w (0, 1) = p at *
  generalize T.getD t [] = r at *
  have Q := P.uns
  have a1 := hs.top
  have a2 := hs.low
  have a3 := hs.pos
  have b1 := Q.top
  have b2 := Q.low
  have b3 := Q.pos
  obtain ⟨q, t0, w0⟩ := s
  dsimp only at a1 a2 a3
  have m1 : mulOk q.1 (uns p).2 = true := small_mul (by omega) (by omega)
  have m2 : mulOk (uns p).1 q.2 = true := small_mul (by omega) (by omega)
  have u : (if p.1 < 0 then -p.1 else p.1) = (uns p).1 := rfl
  have u2 : p.2 = (uns p).2 := rfl
  have ed : dF p = .tup [.int p.1, .int (uns p).2] := rfl
  have ed2 : dF (uns p) = .tup [.int (uns p).1, .int (uns p).2] := rfl
  have ed3 : dF q = .tup [.int q.1, .int q.2] := rfl
  rw [ed] at A2
  generalize uns p = u' at *
  by_cases z : q.1 * u'.2 < u'.1 * q.2
  · refine ⟨9, some ⟨.int p.1, 0, false⟩, some ⟨.int u'.2, 0, false⟩, ?_, rfl, rfl⟩
    simp [sLWorstL0, A, A2, k6, k7, dW, ed2, ed3, u, m1, m2, z]
  · refine ⟨n2, some ⟨.int p.1, 0, false⟩, some ⟨.int u'.2, 0, false⟩, ?_, rfl, rfl⟩
    simp [sLWorstL0, A, A2, k6, k7, dW, ed2, ed3, u, m1, m2, z]
theorem lworst_ok {Γ : Fe} {lg : Nat} {m : Nat} {T : List (List Fr)} (L : LT m T) (hm6 : m ≤ 6) {dp dr : D} {n : Nat} (hlg : Γ.fn lg [dp, dr] = .ok (.lst (lT T)) n) : ∃ k, runF Γ 8 2 (sLWorst lg) [dp, dr] = .ok (dW (wF m T)) k := by
  have L1 := L.len
  obtain ⟨ρ', e, n2, n3, o5, o6, o7, ⟨o4, rfl, _⟩, _, _, _⟩ := for_rng (tg := [4]) (b := exB Γ sLWorstL1) (lo := 0) (n := T.length) (ρ := [some ⟨dp, 0, false⟩, some ⟨dr, 0, false⟩, some ⟨dW ((0, 1), 0, 0), 9, false⟩, some ⟨.lst (lT T), n, false⟩, none, none, none, none])
    (fun i ρ => ∃ n2 n3 o5 o6 o7, (∃ o4, ρ = [some ⟨dp, 0, false⟩, some ⟨dr, 0, false⟩, some ⟨dW ((List.range i).foldl (wRow m T) ((0, 1), 0, 0)), n2, false⟩, some ⟨.lst (lT T), n3, false⟩, o4, o5, o6, o7] ∧ lkO o4 = false) ∧ lkO o5 = false ∧ lkO o6 = false ∧ lkO o7 = false)
    ⟨_, _, none, none, none, ⟨none, rfl, rfl⟩, rfl, rfl, rfl⟩ fun i ρ hi ⟨n2, n3, o5, o6, o7, ⟨o4, e, k4⟩, k5, k6, k7⟩ => by
      subst e
      have lb := foldT_lb L i (by omega)
      rw [fold_range]
      generalize (List.range i).foldl (wRow m T) ((0, 1), 0, 0) = st at *
      obtain ⟨ρ', e, n2', n3', o5', o6', o7', rfl, k5', k6', k7'⟩ := for_rng (tg := [5]) (b := exB Γ sLWorstL0) (lo := 0) (n := m) (ρ := [some ⟨dp, 0, false⟩, some ⟨dr, 0, false⟩, some ⟨dW st, n2, false⟩, some ⟨.lst (lT T), n3, false⟩, some ⟨.int i, 0, false⟩, o5, o6, o7])
        (fun w ρ => ∃ n2 n3 o5 o6 o7, ρ = [some ⟨dp, 0, false⟩, some ⟨dr, 0, false⟩, some ⟨dW ((List.range w).foldl (wCell T i) st), n2, false⟩, some ⟨.lst (lT T), n3, false⟩, some ⟨.int i, 0, false⟩, o5, o6, o7] ∧ lkO o5 = false ∧ lkO o6 = false ∧ lkO o7 = false)
        ⟨n2, n3, o5, o6, o7, rfl, k5, k6, k7⟩ fun w ρ hw ⟨n2, n3, o5, o6, o7, e, k5, k6, k7⟩ => by
          subst e
          obtain ⟨n2', o6', o7', e, k6', k7'⟩ := lworst_cell (Γ := Γ) L hi hw (fold_lb L hi lb w (by omega)) dp dr n2 n3 o6 o7 k6 k7
          exact ⟨_, _, by simp [k5], .inl e, n2', 0, some ⟨.int w, 0, false⟩, o6', o7', by rw [fold_range], rfl, k6', k7'⟩
      have sk : smallI (m : Int) = true := smallI_of (by omega) (by omega)
      have A := lT_at hi
      have rl := L.row i hi
      refine ⟨_, _, by simp [k4]; rfl, .inl (step (ρ' := [some ⟨dp, 0, false⟩, some ⟨dr, 0, false⟩, some ⟨dW (wRow m T st i), n2', false⟩, some ⟨.lst (lT T), n3', false⟩, some ⟨.int i, 0, false⟩, o5', o6', o7']) ?_ (exB_nil _ _)), n2', n3', o5', o6', o7', ⟨_, rfl, rfl⟩, k5', k6', k7'⟩
      generalize T.getD i [] = r at *
      simp [A, rl, sk]
      exact e
  have sk : smallI (T.length : Int) = true := smallI_of (by omega) (by omega)
  refine ⟨n2, run_of rfl (step (ρ' := [some ⟨dp, 0, false⟩, some ⟨dr, 0, false⟩, some ⟨dW ((0, 1), 0, 0), 9, false⟩, none, none, none, none, none]) ?_ (step (ρ' := [some ⟨dp, 0, false⟩, some ⟨dr, 0, false⟩, some ⟨dW ((0, 1), 0, 0), 9, false⟩, some ⟨.lst (lT T), n, false⟩, none, none, none, none]) ?_ (step (ρ' := [some ⟨dp, 0, false⟩, some ⟨dr, 0, false⟩, some ⟨dW (wF m T), n2, false⟩, some ⟨.lst (lT T), n3, false⟩, o4, o5, o6, o7]) ?_ (stop ?_))))⟩
  · simp [dW, dF]
  · simp [hlg]
  · simp [sk]
    exact e
  · simp
/-- the table of lags is small -/
theorem lags_lt {m n : Nat} {T : List (List Fr)} {r : List Int} (tb : TB (10 ^ 15) m T) (h : n ≤ T.length) (hn : n ≤ 1000) : LT m (lagsF T m r n) := by
  have gl : ∀ t, t < n → (lagsF T m r n).getD t [] = lagRow T m r t := fun t ht => by
    unfold lagsF
    rw [List.getD_eq_getElem?_getD, List.getElem?_map, List.getElem?_range ht]
    rfl
  have ll : (lagsF T m r n).length = n := by simp [lagsF]
  refine ⟨by omega, fun t ht => ?_, fun t w ht hw => ?_⟩
  · rw [gl t (by omega)]
    simp [lagRow]
  · rw [gl t (by omega)]
    obtain ⟨r1, r2⟩ := tb.row (t := t) (by omega)
    have P := FB.get r2 (i := w) (by omega)
    unfold lagRow
    rw [List.getD_eq_getElem?_getD, List.getElem?_map, List.getElem?_range hw]
    show LB (lagP _ _)
    have c1 : (r.take t).count ((w : Nat) : Int) ≤ (r.take t).length := List.count_le_length
    rw [List.length_take] at c1
    generalize (T.getD t []).getD w (0, 1) = p at *
    generalize (r.take t).count ((w : Nat) : Int) = c at *
    refine ⟨P.pos, Int.le_trans P.low (by decide), ?_⟩
    have a1 := P.top
    have a2 := P.low
    have a3 := P.pos
    have : ((c : Int) * p.2).natAbs ≤ 1000 * 10 ^ 15 := by
      rw [Int.natAbs_mul]
      exact Nat.mul_le_mul (by omega) (by omega)
    unfold lagP
    dsimp only
    omega
theorem lags_nil {m : Nat} {T : List (List Fr)} : lagsF T m [] 1 = lagsF T m [] 1 := rfl
end PL
set_option exponentiation.threshold 10000
/-! PL38: rows drawn from a script; the worst of no row. -/
namespace PL
open PySem L2
theorem comp_ex {α : Type} [Inhabited α] {tg : List Nat} {elt : Ev → Res} {δ : Ev} {lo : Int} {n : Nat} (g : α → D) (k : Nat) (P : α → Prop) (h : ∀ i, i < n → ∃ δ1 w, takeE tg (.int (lo + (i : Nat))) δ = some δ1 ∧ elt δ1 = .ok (g w) k ∧ P w) :
    ∃ ws : List α, ws.length = n ∧ (∀ w ∈ ws, P w) ∧ compL tg elt (fun _ => .ok true) (rngD lo n) δ = .ok (ws.map fun w => (g w, k)) := by
  classical
  have h' : ∀ i, ∃ w : α, i < n → (∃ δ1, takeE tg (.int (lo + (i : Nat))) δ = some δ1 ∧ elt δ1 = .ok (g w) k) ∧ P w := fun i => by
    by_cases q : i < n
    · obtain ⟨δ1, w, h1, h2, h3⟩ := h i q
      exact ⟨w, fun _ => ⟨⟨δ1, h1, h2⟩, h3⟩⟩
    · exact ⟨default, fun z => absurd z q⟩
  obtain ⟨f, hf⟩ := Classical.axiomOfChoice h'
  refine ⟨(List.range n).map f, by simp, fun x hx => ?_, ?_⟩
  · obtain ⟨i, hi, rfl⟩ := List.mem_map.mp hx
    exact (hf i (List.mem_range.mp hi)).2
  · rw [compL_rng (fun i => (g (f i), k)) fun i hi => ?_, List.map_map]
    · rfl
    · obtain ⟨⟨δ1, h1, h2⟩, _⟩ := hf i hi
      exact ⟨δ1, h1, rfl, h2⟩
def sRowL (d : Nat) : List St := [.asg 6 (.call d [.var 0, .bin .add (.con (.int 2)) (.var 5), .var 2]) .imm, .ife (.cmp .eq (.var 4) (.con (.int 0))) [.asg 6 (.bin .mod (.var 5) (.var 2)) .imm] [], .app 3 [] (.var 6) .imm]
def sRow (d : Nat) : List St := [.asg 3 (.lst []) (.fz []), .asg 4 (.call d [.var 0, .con (.int 1), .con (.int 4)]) .imm, .fo .rng1 [.var 1] [5] [] .imm (sRowL d), .retv 3]
theorem row_ok {Γ : Fe} {d : Nat} {Γd : Fe} (hD : Γ.fn d = runF Γd 6 3 sDraw) (c n m : Int) (h0 : 0 ≤ n) (hn : n ≤ 900) (m1 : 1 ≤ m) (m6 : m ≤ 6) :
    ∃ l, runF Γ 7 3 (sRow d) [.int c, .int n, .int m] = .ok (.lst (lI l)) 10 ∧ l.length = n.toNat ∧ Wi m l := by
  obtain ⟨x, ex, x1, x2⟩ := draw_ok c 1 4 (by decide) (by decide) (by decide) (by decide)
  replace ex := ex Γd
  obtain ⟨ρ', e, l, o5, o6, rfl, _, _, hl, hw⟩ := for_rng (tg := [5]) (b := exB Γ (sRowL d)) (lo := 0) (n := n.toNat) (ρ := [some ⟨.int c, 0, false⟩, some ⟨.int n, 0, false⟩, some ⟨.int m, 0, false⟩, some ⟨.lst [], 10, false⟩, some ⟨.int x, 0, false⟩, none, none])
    (fun i ρ => ∃ l o5 o6, ρ = [some ⟨.int c, 0, false⟩, some ⟨.int n, 0, false⟩, some ⟨.int m, 0, false⟩, some ⟨.lst (lI l), 10, false⟩, some ⟨.int x, 0, false⟩, o5, o6] ∧ lkO o5 = false ∧ lkO o6 = false ∧ l.length = i ∧ Wi m l)
    ⟨[], none, none, rfl, rfl, rfl, rfl, fun x hx => by cases hx⟩ fun i ρ hi ⟨l, o5, o6, e, k5, k6, hl, hw⟩ => by
      subst e
      obtain ⟨y, ey, y1, y2⟩ := draw_ok c (2 + (i : Int)) m (by omega) (by omega) (by omega) (by omega)
      replace ey := ey Γd
      have hz : l.length < 16777216 := by omega
      have hm : ¬ m = 0 := by omega
      have q1 := Int.fmod_nonneg_of_pos (i : Int) (b := m) (by omega)
      have q2 := Int.fmod_lt_of_pos (i : Int) (b := m) (by omega)
      by_cases z : x = 0
      · refine ⟨_, [some ⟨.int c, 0, false⟩, some ⟨.int n, 0, false⟩, some ⟨.int m, 0, false⟩, some ⟨.lst (lI (l ++ [(i : Int).fmod m])), 10, false⟩, some ⟨.int x, 0, false⟩, some ⟨.int i, 0, false⟩, some ⟨.int ((i : Int).fmod m), 0, false⟩], by simp [k5]; rfl, .inl ?_, _, _, _, rfl, rfl, rfl, by simp [hl], hw.app fun u hu => ?_⟩
        · simp [sRowL, k6, hD, -runF_eq, ey, z, hm, pathOk_eq, mutS_eq, hz, lI]
        · have : u = (i : Int).fmod m := by simpa using hu
          subst this
          exact ⟨q1, q2⟩
      · refine ⟨_, [some ⟨.int c, 0, false⟩, some ⟨.int n, 0, false⟩, some ⟨.int m, 0, false⟩, some ⟨.lst (lI (l ++ [y])), 10, false⟩, some ⟨.int x, 0, false⟩, some ⟨.int i, 0, false⟩, some ⟨.int y, 0, false⟩], by simp [k5]; rfl, .inl ?_, _, _, _, rfl, rfl, rfl, by simp [hl], hw.app fun u hu => ?_⟩
        · simp [sRowL, k6, hD, -runF_eq, ey, z, pathOk_eq, mutS_eq, hz, lI]
        · have : u = y := by simpa using hu
          subst this
          exact ⟨y1, y2⟩
  have sk : smallI n = true := smallI_of (by omega) (by omega)
  exact ⟨l, run_of rfl (by simp [sRow, hD, -runF_eq, ex, sk, e]), hl, hw⟩
theorem fold_head {α : Type} {T : List (List Fr)} (hT : 0 < T.length) : ∀ s : Sps, (s.foldl addSp T).getD 0 [] = T.getD 0 []
  | [] => rfl
  | p :: s => by
    rw [List.foldl_cons, fold_head (α := α) (by unfold addSp; rw [List.length_append]; omega) s]
    unfold addSp
    rw [List.getD_eq_getElem?_getD, List.getElem?_append_left hT, ← List.getD_eq_getElem?_getD]
theorem duesF_0 (m : Nat) (s : Sps) : (duesF m s).getD 0 [] = List.replicate m (0, 1) := by
  unfold duesF
  rw [fold_head (α := Nat) (by simp)]
  rfl
theorem worst_nil (m : Nat) (s : Sps) : wF m (lagsF (duesF m s) m [] 1) = ((0, 1), 0, 0) := by
  have key : ∀ i, i ≤ m → (List.range i).foldl (wCell (lagsF (duesF m s) m [] 1) 0) ((0, 1), 0, 0) = ((0, 1), 0, 0) := by
    intro i
    induction i with
    | zero => intro _; rfl
    | succ i ih =>
      intro h
      rw [fold_range, ih (by omega)]
      have e : ((lagsF (duesF m s) m [] 1).getD 0 []).getD i (0, 1) = (0, 1) := by
        show (lagRow (duesF m s) m [] 0).getD i (0, 1) = (0, 1)
        unfold lagRow
        rw [duesF_0, List.getD_eq_getElem?_getD, List.getElem?_map, List.getElem?_range (by omega)]
        show lagP ((List.replicate m ((0 : Int), (1 : Int))).getD i (0, 1)) _ = (0, 1)
        rw [List.getD_eq_getElem?_getD, List.getElem?_replicate, if_pos (by omega)]
        simp [lagP]
      unfold wCell
      rw [e]
      rfl
  exact key m (Nat.le_refl m)
end PL
set_option exponentiation.threshold 10000
/-! PL39: odd arguments; a plan's checks, shares and dues. -/
namespace PL
open PySem L2
/-- things of which whole may be asked -/
def argD : D → Bool
  | .obj _ _ _ => false
  | .dct _ _ => false
  | .exc _ _ => false
  | _ => true
def isWD : D → Bool
  | .int _ => true
  | _ => false
@[simp] theorem argD_int (z : Int) : argD (.int z) = true := rfl
@[simp] theorem argD_bl (b : Bool) : argD (.bl b) = true := rfl
@[simp] theorem argD_non : argD .non = true := rfl
@[simp] theorem argD_str (s : Str) : argD (.str s) = true := rfl
@[simp] theorem argD_lst (l : List D) : argD (.lst l) = true := rfl
@[simp] theorem argD_tup (l : List D) : argD (.tup l) = true := rfl
theorem whole_any (Γ : Fe) (d : D) (h : argD d = true) : runF Γ 1 1 sWhole [d] = .ok (.bl (isWD d)) 0 := by
  cases d <;> first
    | (cases h; done)
    | simp [sWhole, isWD, isiD]
/-- a whole number from lo to hi -/
def inT (d : D) (lo hi : Int) : Bool := match d with
  | .int z => decide (lo ≤ z) && decide (z ≤ hi)
  | _ => false
theorem inT_int {d : D} {lo hi : Int} (h : inT d lo hi = true) : ∃ z, d = .int z ∧ lo ≤ z ∧ z ≤ hi := by
  cases d <;> first
    | (cases h; done)
    | (simp [inT] at h; exact ⟨_, rfl, h.1, h.2⟩)
section
variable {Γ : Fe} {m M : Nat} {s : Sps}
def sCkT (w t c : Nat) : List St := [.ife (.or (.not (.call w [.var 1])) (.not (.cmp2 .le .le (.var 2) (.var 1) (.meth t (.var 0) [])))) [.raise c none] []]
theorem ckT_ok {w t c : Nat} (hw : ∀ d, argD d = true → Γ.fn w [d] = .ok (.bl (isWD d)) 0) (hh : Γ.mh t 0 = true) (ht : Γ.me t 0 [dP m s] = .ok (.int (turnsF s)) 0) (hr : Γ.rz c = true) (d : D) (h : argD d = true) (l : Int) :
    runF Γ 3 3 (sCkT w t c) [dP m s, d, .int l] = if inT d l (turnsF s) then .ok .non 0 else .exn ⟨c, none⟩ := by
  have e := hw d h
  unfold dP at ht ⊢
  cases d with
  | int z => by_cases h1 : l ≤ z <;> by_cases h2 : z ≤ turnsF s <;> simp [sCkT, e, hh, ht, hr, isWD, inT, h1, h2]
  | _ => first
    | (cases h; done)
    | simp [sCkT, e, hr, isWD, inT]
def sCkC (w mn c : Nat) : List St := [.ife (.or (.not (.call w [.var 1])) (.not (.cmp2 .le .lt (.con (.int 0)) (.var 1) (.meth mn (.var 0) [])))) [.raise c none] []]
theorem ckC_ok {w mn c : Nat} (hw : ∀ d, argD d = true → Γ.fn w [d] = .ok (.bl (isWD d)) 0) (hh : Γ.mh mn 0 = true) (ht : Γ.me mn 0 [dP m s] = .ok (.int m) 0) (hr : Γ.rz c = true) (d : D) (h : argD d = true) :
    runF Γ 2 2 (sCkC w mn c) [dP m s, d] = if inT d 0 ((m : Int) - 1) then .ok .non 0 else .exn ⟨c, none⟩ := by
  have e := hw d h
  unfold dP at ht ⊢
  cases d with
  | int z =>
    by_cases h1 : 0 ≤ z <;> by_cases h2 : z < m
    · have h3 : z ≤ (m : Int) - 1 := by omega
      simp [sCkC, e, hh, ht, hr, isWD, inT, h1, h2, h3]
    · have h3 : ¬ z ≤ (m : Int) - 1 := by omega
      simp [sCkC, e, hh, ht, hr, isWD, inT, h1, h2, h3]
    · simp [sCkC, e, hh, ht, hr, isWD, inT, h1, h2]
    · simp [sCkC, e, hh, ht, hr, isWD, inT, h1, h2]
  | _ => first
    | (cases h; done)
    | simp [sCkC, e, hr, isWD, inT]
/-! ### the spell of a turn -/
def sSpellL : List St := [.ife (.cmp .le (.var 2) (.var 3)) [.retv 4] [], .asg 2 (.bin .sub (.var 2) (.var 3)) .imm]
def sSpellOf (c : Nat) : List St := [.asg 2 (.var 1) (.fz [1]), .fo .seq [.fld (.var 0) 0] [3, 4] [] (.fz [0]) sSpellL, .raise c none]
theorem spell_loop (d0 t : D) : ∀ (s : Sps) (z : Int) (o3 o4 : Option Sl), lkO o3 = false → lkO o4 = false → z ≤ turnsF s → 1 ≤ z →
    ∃ p ∈ s, forS [3, 4] (exB Γ sSpellL) (s.map dK) [some ⟨d0, 0, false⟩, some ⟨t, 0, false⟩, some ⟨.int z, 0, false⟩, o3, o4] = .rt (.tup (lI p.2)) 0
  | [], z, o3, o4, k3, k4, h, h1 => by
    simp [turnsF] at h
    omega
  | p :: s, z, o3, o4, k3, k4, h, h1 => by
    have et : turnsF (p :: s) = p.1 + turnsF s := by simp [turnsF]
    rw [List.map_cons]
    unfold forS
    by_cases hz : z ≤ p.1
    · exact ⟨p, List.mem_cons_self, by simp [dK, k3, k4, sSpellL, hz]⟩
    · obtain ⟨q, hq, e⟩ := spell_loop d0 t s (z - p.1) (some ⟨.int p.1, 0, false⟩) (some ⟨.tup (lI p.2), 0, false⟩) rfl rfl (by omega) (by omega)
      exact ⟨q, List.mem_cons_of_mem _ hq, by simp [dK, k3, k4, sSpellL, hz]; simpa [sSpellL] using e⟩
theorem spellOf_ok {c : Nat} (hf : Γ.fo 0 0 = true) (z : Int) (h1 : 1 ≤ z) (h2 : z ≤ turnsF s) : ∃ p ∈ s, runF Γ 5 2 (sSpellOf c) [dP m s, .int z] = .ok (.tup (lI p.2)) 0 := by
  obtain ⟨p, hp, e⟩ := spell_loop (Γ := Γ) (dP m s) (.int z) s z none none rfl rfl h2 h1
  refine ⟨p, hp, run_of rfl (step (ρ' := [some ⟨dP m s, 0, false⟩, some ⟨.int z, 0, false⟩, some ⟨.int z, 0, false⟩, none, none]) ?_ (stop ?_))⟩
  · simp
  · unfold dP at e ⊢
    simp [hf]
    exact e
/-! ### shares -/
def sTimes (md : Nat) : List St := [.ret (.call md [.bin .mul (.ix (.var 0) (.con (.int 0))) (.ix (.var 1) (.con (.int 0))), .bin .mul (.ix (.var 0) (.con (.int 1))) (.ix (.var 1) (.con (.int 1)))])]
theorem times_ok {md : Nat} (hm : ∀ a b : Int, 0 < b → b.natAbs ≤ 10 ^ 250 → Γ.fn md [.int a, .int b] = .ok (dF (lowF a b)) 9) {p q : Fr} {B : Int} (P : FB B p) (Q : FB B q) (hB : B ≤ 10 ^ 100) : runF Γ 2 2 (sTimes md) [dF p, dF q] = .ok (dF (lowF (p.1 * q.1) (p.2 * q.2))) 9 := by
  have p1 := P.top
  have p2 := P.low
  have p3 := P.pos
  have q1 := Q.top
  have q2 := Q.low
  have q3 := Q.pos
  have m1 : mulOk p.1 q.1 = true := small_mul (by omega) (by omega)
  have m2 : mulOk p.2 q.2 = true := small_mul (by omega) (by omega)
  have bd : (p.2 * q.2).natAbs ≤ 10 ^ 250 := by
    have := nab_mul (a := p.2) (b := q.2) (A := 10 ^ 100) (B := 10 ^ 100) (by omega) (by omega)
    omega
  have := hm (p.1 * q.1) (p.2 * q.2) (Int.mul_pos p3 q3) bd
  simp [sTimes, dF, m1, m2] at this ⊢
  rw [this]
  rfl
def sShare (ct cc so tm md : Nat) : List St := [.ex (.meth ct (.var 0) [.var 1, .con (.int 1)]), .ex (.meth cc (.var 0) [.var 2]), .asg 3 (.meth so (.var 0) [.var 1]) (.fz [0, 1]), .ret (.call tm [.tup [.ix (.var 3) (.var 2), .con (.int 1)], .call md [.con (.int 1), .bi .sum [.var 3]]])]
/-- what is told by a check -/
abbrev CkT (Γ : Fe) (ct c : Nat) (m : Nat) (s : Sps) : Prop := ∀ (d : D), argD d = true → ∀ l : Int, Γ.me ct 0 [dP m s, d, .int l] = if inT d l (turnsF s) then .ok .non 0 else .exn ⟨c, none⟩
abbrev CkC (Γ : Fe) (cc c : Nat) (m : Nat) (s : Sps) : Prop := ∀ (d : D), argD d = true → Γ.me cc 0 [dP m s, d] = if inT d 0 ((m : Int) - 1) then .ok .non 0 else .exn ⟨c, none⟩
def shareF (p : Nat × List Int) (w : Nat) : Fr := lowF (p.2.getD w 0 * (lowF 1 p.2.sum).1) (1 * (lowF 1 p.2.sum).2)
theorem share_ok {ct cc so tm md cT cC : Nat} (S : SpsOk m M s) (h1 : Γ.mh ct 0 = true) (h2 : Γ.mh cc 0 = true) (h3 : Γ.mh so 0 = true) (hT : CkT Γ ct cT m s) (hC : CkC Γ cc cC m s)
    (hS : ∀ z : Int, 1 ≤ z → z ≤ turnsF s → ∃ p ∈ s, Γ.me so 0 [dP m s, .int z] = .ok (.tup (lI p.2)) 0) (hm : ∀ a b : Int, 0 < b → b.natAbs ≤ 10 ^ 250 → Γ.fn md [.int a, .int b] = .ok (dF (lowF a b)) 9)
    (ht : ∀ (p q : Fr) (B : Int), FB B p → FB B q → B ≤ 10 ^ 100 → Γ.fn tm [dF p, dF q] = .ok (dF (lowF (p.1 * q.1) (p.2 * q.2))) 9) (z : Int) (w : Nat) (z1 : 1 ≤ z) (z2 : z ≤ turnsF s) (w2 : w < m) :
    ∃ p ∈ s, runF Γ 4 3 (sShare ct cc so tm md) [dP m s, .int z, .int w] = .ok (dF (shareF p w)) 9 := by
  obtain ⟨p, hp, e⟩ := hS z z1 z2
  have eT := hT (.int z) rfl 1
  have eC := hC (.int w) rfl
  have P := S.sp p hp
  have pl := P.len
  have m6 := S.m6
  have sn := sum_nn P.w
  have sp := P.pos
  have w3 : (w : Int) ≤ (m : Int) - 1 := by omega
  have w4 : (0 : Int) ≤ w := by omega
  simp [inT, z1, z2, w3, w4] at eT eC
  have em := hm 1 p.2.sum sp (by omega)
  have wb := w_get (i := w) P.w (by omega)
  have F1 : FB (10 ^ 100) (p.2.getD w 0, 1) := ⟨by show (0 : Int) < 1; decide, by show ((p.2.getD w 0).natAbs : Int) ≤ _; omega, by show (1 : Int) ≤ 10 ^ 100; decide, by simp⟩
  have F2 : FB (10 ^ 100) (lowF 1 p.2.sum) := lowF_fb sp (by decide) (by omega)
  have et := ht _ _ _ F1 F2 (Int.le_refl _)
  have A := lI_atT (l := p.2) (i := w) (by omega)
  refine ⟨p, hp, run_of rfl (step (ρ' := [some ⟨dP m s, 0, false⟩, some ⟨.int z, 0, false⟩, some ⟨.int w, 0, false⟩, none]) ?_ (step (ρ' := [some ⟨dP m s, 0, false⟩, some ⟨.int z, 0, false⟩, some ⟨.int w, 0, false⟩, none]) ?_ (step (ρ' := [some ⟨dP m s, 0, false⟩, some ⟨.int z, 0, false⟩, some ⟨.int w, 0, false⟩, some ⟨.tup (lI p.2), 0, false⟩]) ?_ (stop ?_))))⟩
  · unfold dP at eT ⊢
    simp [h1, eT]
  · unfold dP at eC ⊢
    simp [h2, eC]
  · unfold dP at e ⊢
    simp [h3, e]
  · simp [A, em]
    have et' : Γ.fn tm [.tup [.int (p.2.getD w 0), .int 1], dF (lowF 1 p.2.sum)] = _ := et
    simp at et'
    simp [et', shareF]
theorem share_noT {ct cc so tm md cT : Nat} (h1 : Γ.mh ct 0 = true) (hT : CkT Γ ct cT m s) (d1 d2 : D) (a1 : argD d1 = true) (n : inT d1 1 (turnsF s) = false) :
    runF Γ 4 3 (sShare ct cc so tm md) [dP m s, d1, d2] = .exn ⟨cT, none⟩ := by
  have eT := hT d1 a1 1
  rw [n] at eT
  unfold dP at eT ⊢
  simp at eT
  simp [sShare, h1, eT]
theorem share_noC {ct cc so tm md cT cC : Nat} (h1 : Γ.mh ct 0 = true) (h2 : Γ.mh cc 0 = true) (hT : CkT Γ ct cT m s) (hC : CkC Γ cc cC m s) (d1 d2 : D) (a1 : argD d1 = true) (a2 : argD d2 = true) (y : inT d1 1 (turnsF s) = true) (n : inT d2 0 ((m : Int) - 1) = false) :
    runF Γ 4 3 (sShare ct cc so tm md) [dP m s, d1, d2] = .exn ⟨cC, none⟩ := by
  have eT := hT d1 a1 1
  have eC := hC d2 a2
  rw [y] at eT
  rw [n] at eC
  unfold dP at eT eC ⊢
  simp at eT eC
  simp [sShare, h1, eT, h2, eC]
/-! ### dues -/
def sDue (ct cc : Nat) : List St := [.ex (.meth ct (.var 0) [.var 1, .con (.int 0)]), .ex (.meth cc (.var 0) [.var 2]), .ret (.ix (.ix (.fld (.var 0) 1) (.var 1)) (.var 2))]
def dueF (T : List (List Fr)) (z w : Nat) : Fr := (T.getD z []).getD w (0, 1)
theorem due_at (S : SpsOk m M s) (hM : M ≤ 60) {z w : Nat} (z2 : z ≤ turnsF s) (w2 : w < m) : FB (10 ^ 15) (dueF (duesF m s) z w) := by
  obtain ⟨tb, _⟩ := duesF_tb S hM
  have dl := duesF_len m s
  obtain ⟨l1, l2⟩ := tb.row (t := z) (by omega)
  exact FB.get l2 (by omega)
theorem due_ok {ct cc cT cC : Nat} (S : SpsOk m M s) (hM : M ≤ 60) (hf : Γ.fo 0 1 = true) (h1 : Γ.mh ct 0 = true) (h2 : Γ.mh cc 0 = true) (hT : CkT Γ ct cT m s) (hC : CkC Γ cc cC m s) (z w : Nat) (z2 : z ≤ turnsF s) (w2 : w < m) :
    runF Γ 3 3 (sDue ct cc) [dP m s, .int z, .int w] = .ok (dF (dueF (duesF m s) z w)) 0 := by
  have eT := hT (.int z) rfl 0
  have eC := hC (.int w) rfl
  have w3 : (w : Int) ≤ (m : Int) - 1 := by omega
  have w4 : (0 : Int) ≤ w := by omega
  have z4 : (0 : Int) ≤ z := by omega
  have z5 : (z : Int) ≤ turnsF s := by omega
  simp [inT, z4, z5, w3, w4] at eT eC
  obtain ⟨tb, _⟩ := duesF_tb S hM
  have dl := duesF_len m s
  obtain ⟨l1, l2⟩ := tb.row (t := z) (by omega)
  have A := lT_at (T := duesF m s) (t := z) (by omega)
  have B := lF_at (l := (duesF m s).getD z []) (i := w) (by omega)
  refine run_of rfl (step (ρ' := [some ⟨dP m s, 0, false⟩, some ⟨.int z, 0, false⟩, some ⟨.int w, 0, false⟩]) ?_ (step (ρ' := [some ⟨dP m s, 0, false⟩, some ⟨.int z, 0, false⟩, some ⟨.int w, 0, false⟩]) ?_ (stop ?_)))
  · unfold dP at eT ⊢
    simp [h1, eT]
  · unfold dP at eC ⊢
    simp [h2, eC]
  · unfold dP
    unfold dueF
    generalize (duesF m s).getD z [] = r at *
    simp [hf, A, B]
theorem due_noT {ct cc cT : Nat} (h1 : Γ.mh ct 0 = true) (hT : CkT Γ ct cT m s) (d1 d2 : D) (a1 : argD d1 = true) (n : inT d1 0 (turnsF s) = false) :
    runF Γ 3 3 (sDue ct cc) [dP m s, d1, d2] = .exn ⟨cT, none⟩ := by
  have eT := hT d1 a1 0
  rw [n] at eT
  unfold dP at eT ⊢
  simp at eT
  simp [sDue, h1, eT]
theorem due_noC {ct cc cT cC : Nat} (h1 : Γ.mh ct 0 = true) (h2 : Γ.mh cc 0 = true) (hT : CkT Γ ct cT m s) (hC : CkC Γ cc cC m s) (d1 d2 : D) (a1 : argD d1 = true) (a2 : argD d2 = true) (y : inT d1 0 (turnsF s) = true) (n : inT d2 0 ((m : Int) - 1) = false) :
    runF Γ 3 3 (sDue ct cc) [dP m s, d1, d2] = .exn ⟨cC, none⟩ := by
  have eT := hT d1 a1 0
  have eC := hC d2 a2
  rw [y] at eT
  rw [n] at eC
  unfold dP at eT eC ⊢
  simp at eT eC
  simp [sDue, h1, eT, h2, eC]
end
end PL
set_option exponentiation.threshold 10000
/-! PL40: bounds, and the ranges that come of them. -/
namespace PL
open PySem L2
abbrev Bd := Fr × Bool
def dB (b : Bd) : D := .tup [dF b.1, .bl b.2]
structure BdOk (b : Bd) : Prop where
  fb : FB (10 ^ 20) b.1
  nn : 0 ≤ b.1.1
  le : b.1.1 ≤ 300 * b.1.2
@[simp] theorem imm_dB (n : Nat) (b : Bd) : immB n (dB b) = true := by simp [dB]
@[simp] theorem isi_bool_non : isiD .bool .non = .ok (.bl false) 0 := rfl
section
variable {Γ : Fe}
def sIsFr (w c : Nat) : List St := [.ife (.or (.not (.isi (.var 0) .tuple)) (.cmp .ne (.bi .len [.var 0]) (.con (.int 2)))) [.ret (.con (.bl false))] [], .ife (.or (.not (.call w [.ix (.var 0) (.con (.int 0))])) (.not (.call w [.ix (.var 0) (.con (.int 1))]))) [.ret (.con (.bl false))] [], .ret (.and (.cmp .gt (.ix (.var 0) (.con (.int 1))) (.con (.int 0))) (.cmp .eq (.call c [.ix (.var 0) (.con (.int 0)), .ix (.var 0) (.con (.int 1))]) (.con (.int 1))))]
theorem isFr_ok {c w : Nat} (hc : ∀ a b, Γ.fn c [.int a, .int b] = .ok (.int (Int.gcd a b)) 0) (hw : ∀ a, Γ.fn w [.int a] = .ok (.bl true) 0) {p : Fr} (h : 0 < p.2) (h1 : Int.gcd p.1 p.2 = 1) : runF Γ 1 1 (sIsFr w c) [dF p] = .ok (.bl true) 0 := by
  simp [sIsFr, dF, hc, hw, h, h1]
def sCkB (fr le g : Nat) (r1 r2 : St) : List St := [.ife (.or (.not (.isi (.var 0) .tuple)) (.or (.cmp .ne (.bi .len [.var 0]) (.con (.int 2))) (.not (.isi (.ix (.var 0) (.con (.int 1))) .bool)))) [r1] [], .ife (.or (.not (.call fr [.ix (.var 0) (.con (.int 0))])) (.or (.cmp .lt (.ix (.ix (.var 0) (.con (.int 0))) (.con (.int 0))) (.con (.int 0))) (.call le [.tup [.glo g, .con (.int 1)], .ix (.var 0) (.con (.int 0))]))) [r2] []]
theorem ckB_ok' {fr le g : Nat} {r1 r2 : St} (hg : Γ.gl g = .int 300) (hf : ∀ p : Fr, 0 < p.2 → Int.gcd p.1 p.2 = 1 → Γ.fn fr [dF p] = .ok (.bl true) 0) (hl : ∀ p q : Fr, LB p → LB q → Γ.fn le [dF p, dF q] = .ok (.bl (decide (p.1 * q.2 < q.1 * p.2))) 0) {b : Bd} (B : BdOk b) :
    runF Γ 1 1 (sCkB fr le g r1 r2) [dB b] = .ok .non 0 := by
  have F := B.fb
  have f1 := F.pos
  have f2 := F.top
  have f3 := F.low
  have e1 := hf b.1 F.pos F.one
  have e2 := hl (300, 1) b.1 ⟨by decide, by decide, by decide⟩ ⟨F.pos, by omega, by omega⟩
  have n1 : ¬ b.1.1 < 0 := by have := B.nn; omega
  have n2 : ¬ 300 * b.1.2 < b.1.1 := by have := B.le; omega
  have e2' : Γ.fn le [.tup [.int 300, .int 1], dF b.1] = _ := e2
  simp [n2] at e2'
  obtain ⟨p, o⟩ := b
  simp [sCkB, dB, hg, e1, e2']
  simp [dF] at e2' ⊢
  simp [n1, n2, e2']
/-! ### floors -/
theorem fdiv_is {a b k : Int} (hb : 0 < b) (h1 : k * b ≤ a) (h2 : a < (k + 1) * b) : a.fdiv b = k := by
  have e := Int.mul_fdiv_add_fmod a b
  have n := Int.fmod_nonneg_of_pos a hb
  have l := Int.fmod_lt_of_pos a hb
  generalize a.fdiv b = q at *
  generalize a.fmod b = r at *
  have c1 : q * b = b * q := Int.mul_comm _ _
  rw [Int.add_mul] at h2
  have : ¬ q < k := fun z => by
    have := Int.mul_le_mul_of_nonneg_right (show q + 1 ≤ k by omega) (Int.le_of_lt hb)
    rw [Int.add_mul] at this
    omega
  have : ¬ k < q := fun z => by
    have := Int.mul_le_mul_of_nonneg_right (show k + 1 ≤ q by omega) (Int.le_of_lt hb)
    rw [Int.add_mul] at this
    omega
  omega
theorem fdiv_spec {a b : Int} (hb : 0 < b) : a.fdiv b * b ≤ a ∧ a < (a.fdiv b + 1) * b := by
  have e := Int.mul_fdiv_add_fmod a b
  have n := Int.fmod_nonneg_of_pos a hb
  have l := Int.fmod_lt_of_pos a hb
  have c1 : a.fdiv b * b = b * a.fdiv b := Int.mul_comm _ _
  rw [Int.add_mul]
  omega
theorem le_fdiv {a b k : Int} (hb : 0 < b) : k ≤ a.fdiv b ↔ k * b ≤ a := by
  obtain ⟨h1, h2⟩ := fdiv_spec (a := a) hb
  constructor
  · intro h
    have := Int.mul_le_mul_of_nonneg_right h (Int.le_of_lt hb)
    omega
  · intro h
    refine Int.not_lt.mp fun z => ?_
    have := Int.mul_le_mul_of_nonneg_right (show a.fdiv b + 1 ≤ k by omega) (Int.le_of_lt hb)
    omega
theorem fdiv_low {a b : Int} (hb : 0 < b) : (lowF a b).1.fdiv (lowF a b).2 = a.fdiv b ∧ (-(lowF a b).1).fdiv (lowF a b).2 = (-a).fdiv b := by
  have L := lowF_low (a := a) hb
  generalize (lowF a b).1 = x at *
  generalize (lowF a b).2 = y at *
  have hy := L.pos
  have e := L.eq
  have key : ∀ {x a : Int}, x * b = a * y → x.fdiv y = a.fdiv b := fun {x a} e => by
    obtain ⟨h1, h2⟩ := fdiv_spec (a := a) hb
    refine fdiv_is hy ?_ ?_
    · refine Int.le_of_mul_le_mul_right ?_ hb
      have := Int.mul_le_mul_of_nonneg_right h1 (Int.le_of_lt hy)
      rw [e]
      calc a.fdiv b * y * b = a.fdiv b * b * y := by ac_rfl
        _ ≤ a * y := this
    · refine Int.lt_of_mul_lt_mul_right ?_ (Int.le_of_lt hb)
      have := Int.mul_lt_mul_of_pos_right h2 hy
      rw [e]
      calc a * y < (a.fdiv b + 1) * b * y := this
        _ = (a.fdiv b + 1) * y * b := by ac_rfl
  exact ⟨key e, key (by rw [Int.neg_mul, Int.neg_mul, e])⟩
def sFloor : List St := [.ret (.bin .fdiv (.ix (.var 0) (.con (.int 0))) (.ix (.var 0) (.con (.int 1))))]
theorem floor_ok {p : Fr} (h : 0 < p.2) (hb : p.2.natAbs ≤ 10 ^ 250) : runF Γ 1 1 sFloor [dF p] = .ok (.int (p.1.fdiv p.2)) 0 := by
  have d := small_div (b := p.2) (by omega) hb
  simp [sFloor, dF, d]
def sCeil : List St := [.ret (.neg (.bin .fdiv (.neg (.ix (.var 0) (.con (.int 0)))) (.ix (.var 0) (.con (.int 1)))))]
theorem ceil_ok {p : Fr} (h : 0 < p.2) (hb : p.2.natAbs ≤ 10 ^ 250) : runF Γ 1 1 sCeil [dF p] = .ok (.int (-((-p.1).fdiv p.2))) 0 := by
  have d := small_div (b := p.2) (by omega) hb
  simp [sCeil, dF, d]
theorem minusF_ok {md : Nat} (hm : ∀ a b : Int, 0 < b → b.natAbs ≤ 10 ^ 250 → Γ.fn md [.int a, .int b] = .ok (dF (lowF a b)) 9) {p q : Fr} {B : Int} (P : FB B p) (Q : FB B q) (hB : B ≤ 10 ^ 100) : runF Γ 2 2 (sMinus md) [dF p, dF q] = .ok (dF (lowF (p.1 * q.2 - q.1 * p.2) (p.2 * q.2))) 9 := by
  have p1 := P.top
  have p2 := P.low
  have p3 := P.pos
  have q1 := Q.top
  have q2 := Q.low
  have q3 := Q.pos
  have m1 : mulOk p.1 q.2 = true := small_mul (by omega) (by omega)
  have m2 : mulOk q.1 p.2 = true := small_mul (by omega) (by omega)
  have m3 : mulOk p.2 q.2 = true := small_mul (by omega) (by omega)
  have bd : (p.2 * q.2).natAbs ≤ 10 ^ 250 := by
    have := nab_mul (a := p.2) (b := q.2) (A := 10 ^ 100) (B := 10 ^ 100) (by omega) (by omega)
    omega
  have := hm (p.1 * q.2 - q.1 * p.2) (p.2 * q.2) (Int.mul_pos p3 q3) bd
  simp [sMinus, dF, m1, m2, m3] at this ⊢
  rw [this]
  rfl
/-! ### the two ends -/
def mx0 (i : Int) : Int := if i > 0 then i else 0
def lowB (b : Bd) (d : Fr) : Int := if b.2 then mx0 ((d.1 * b.1.2 - b.1.1 * d.2).fdiv (d.2 * b.1.2) + 1) else mx0 (-((-(d.1 * b.1.2 - b.1.1 * d.2)).fdiv (d.2 * b.1.2)))
def highB (b : Bd) (d : Fr) : Int := if b.2 then mx0 (-((-(d.1 * b.1.2 + b.1.1 * d.2)).fdiv (d.2 * b.1.2)) - 1) else (d.1 * b.1.2 + b.1.1 * d.2).fdiv (d.2 * b.1.2)
def sLow (fl mi ce : Nat) : List St := [.ife (.ix (.var 0) (.con (.int 1))) [.ret (.bi .max2 [.con (.int 0), .bin .add (.call fl [.call mi [.var 1, .ix (.var 0) (.con (.int 0))]]) (.con (.int 1))])] [], .ret (.bi .max2 [.con (.int 0), .call ce [.call mi [.var 1, .ix (.var 0) (.con (.int 0))]]])]
def sHigh (pl fl ce : Nat) : List St := [.ife (.ix (.var 0) (.con (.int 1))) [.ret (.bi .max2 [.con (.int 0), .bin .sub (.call ce [.call pl [.var 1, .ix (.var 0) (.con (.int 0))]]) (.con (.int 1))])] [], .ret (.call fl [.call pl [.var 1, .ix (.var 0) (.con (.int 0))]])]
abbrev FloorOk (Γ : Fe) (fl : Nat) : Prop := ∀ p : Fr, 0 < p.2 → p.2.natAbs ≤ 10 ^ 250 → Γ.fn fl [dF p] = .ok (.int (p.1.fdiv p.2)) 0
abbrev CeilOk (Γ : Fe) (ce : Nat) : Prop := ∀ p : Fr, 0 < p.2 → p.2.natAbs ≤ 10 ^ 250 → Γ.fn ce [dF p] = .ok (.int (-((-p.1).fdiv p.2))) 0
abbrev MinusOk (Γ : Fe) (mi : Nat) : Prop := ∀ (p q : Fr) (B : Int), FB B p → FB B q → B ≤ 10 ^ 100 → Γ.fn mi [dF p, dF q] = .ok (dF (lowF (p.1 * q.2 - q.1 * p.2) (p.2 * q.2))) 9
abbrev PlusOk (Γ : Fe) (pl : Nat) : Prop := ∀ (p q : Fr) (B : Int), FB B p → FB B q → B ≤ 10 ^ 100 → Γ.fn pl [dF p, dF q] = .ok (dF (lowF (p.1 * q.2 + q.1 * p.2) (p.2 * q.2))) 9
theorem low_small {a b : Int} (hb : 0 < b) (h : b ≤ 10 ^ 100) : 0 < (lowF a b).2 ∧ (lowF a b).2.natAbs ≤ 10 ^ 250 := by
  have L := lowF_low (a := a) hb
  have := L.pos
  have := L.ly
  omega
theorem low_ok {fl mi ce : Nat} (hf : FloorOk Γ fl) (hm : MinusOk Γ mi) (hc : CeilOk Γ ce) {b : Bd} {d : Fr} (B : BdOk b) (F : FB (10 ^ 15) d) : runF Γ 2 2 (sLow fl mi ce) [dB b, dF d] = .ok (.int (lowB b d)) 0 := by
  have e := hm d b.1 _ (F.mono (by decide)) B.fb (by decide)
  have pb := Int.mul_pos F.pos B.fb.pos
  have bd := nab_mul (a := d.2) (b := b.1.2) (A := 10 ^ 15) (B := 10 ^ 20) (by have := F.pos; have := F.low; omega) (by have := B.fb.pos; have := B.fb.low; omega)
  obtain ⟨s1, s2⟩ := low_small (a := d.1 * b.1.2 - b.1.1 * d.2) pb (by omega)
  have e1 := hf _ s1 s2
  have e2 := hc _ s1 s2
  obtain ⟨q1, q2⟩ := fdiv_low (a := d.1 * b.1.2 - b.1.1 * d.2) pb
  rw [q1] at e1
  rw [q2] at e2
  obtain ⟨p, o⟩ := b
  cases o
  · simp [sLow, dB, e, e2, lowB, mx0]
  · simp [sLow, dB, e, e1, lowB, mx0]
theorem high_ok {fl pl ce : Nat} (hf : FloorOk Γ fl) (hm : PlusOk Γ pl) (hc : CeilOk Γ ce) {b : Bd} {d : Fr} (B : BdOk b) (F : FB (10 ^ 15) d) : runF Γ 2 2 (sHigh pl fl ce) [dB b, dF d] = .ok (.int (highB b d)) 0 := by
  have e := hm d b.1 _ (F.mono (by decide)) B.fb (by decide)
  have pb := Int.mul_pos F.pos B.fb.pos
  have bd := nab_mul (a := d.2) (b := b.1.2) (A := 10 ^ 15) (B := 10 ^ 20) (by have := F.pos; have := F.low; omega) (by have := B.fb.pos; have := B.fb.low; omega)
  obtain ⟨s1, s2⟩ := low_small (a := d.1 * b.1.2 + b.1.1 * d.2) pb (by omega)
  have e1 := hf _ s1 s2
  have e2 := hc _ s1 s2
  obtain ⟨q1, q2⟩ := fdiv_low (a := d.1 * b.1.2 + b.1.1 * d.2) pb
  rw [q1] at e1
  rw [q2] at e2
  obtain ⟨p, o⟩ := b
  cases o
  · simp [sHigh, dB, e, e1, highB]
  · simp [sHigh, dB, e, e2, highB, mx0]
/-! ### the law's own: gone to one by one -/
def letsF (b : Bd) (t d : Int) : Bool := if b.2 then decide (t * b.1.2 < b.1.1 * d) else decide (t * b.1.2 ≤ b.1.1 * d)
def sLKeeps : List St := [.asg 2 (.bin .sub (.bin .mul (.ix (.ix (.var 0) (.con (.int 0))) (.con (.int 0))) (.ix (.var 1) (.con (.int 1)))) (.bin .mul (.bi .abs [.ix (.var 1) (.con (.int 0))]) (.ix (.ix (.var 0) (.con (.int 0))) (.con (.int 1))))) .imm, .ret (.or (.cmp .gt (.var 2) (.con (.int 0))) (.and (.cmp .eq (.var 2) (.con (.int 0))) (.not (.ix (.var 0) (.con (.int 1))))))]
def absI (t : Int) : Int := if t < 0 then -t else t
theorem lkeeps_ok {b : Bd} (B : BdOk b) (t d : Int) (ht : t.natAbs ≤ 10 ^ 100) (hd : d.natAbs ≤ 10 ^ 100) : runF Γ 3 2 sLKeeps [dB b, .tup [.int t, .int d]] = .ok (.bl (letsF b (absI t) d)) 0 := by
  have f1 := B.fb.top
  have f2 := B.fb.low
  have f3 := B.fb.pos
  have m1 : mulOk b.1.1 d = true := small_mul (by omega) (by omega)
  have m2 : mulOk (absI t) b.1.2 = true := small_mul (by unfold absI; split <;> omega) (by omega)
  obtain ⟨⟨p, q⟩, o⟩ := b
  dsimp only at m1 m2
  obtain ⟨u, hu⟩ : ∃ u, p * d - absI t * q = u := ⟨_, rfl⟩
  refine run_of rfl (step (ρ' := [some ⟨dB ((p, q), o), 0, false⟩, some ⟨.tup [.int t, .int d], 0, false⟩, some ⟨.int u, 0, false⟩]) ?_ (stop ?_))
  · unfold absI at m2 hu
    simp [dB, dF, m1, m2, hu]
  · unfold letsF
    cases o
    · simp [dB]
      by_cases h : 0 < u
      · have : absI t * q ≤ p * d := by omega
        simp [h, this]
      · by_cases h2 : u = 0
        · have : absI t * q ≤ p * d := by omega
          simp [h2, this]
        · have : ¬ absI t * q ≤ p * d := by omega
          simp [h, h2, this]
    · simp [dB]
      by_cases h : 0 < u
      · have : absI t * q < p * d := by omega
        simp [h, this]
      · have : ¬ absI t * q < p * d := by omega
        simp [h, this]
def sLLets (k : Nat) : List St := [.ret (.or (.cmp .lt (.var 1) (.con (.int 0))) (.call k [.var 0, .tup [.var 1, .var 2]]))]
abbrev LKeepsOk (Γ : Fe) (k : Nat) : Prop := ∀ (b : Bd) (t d : Int), BdOk b → t.natAbs ≤ 10 ^ 100 → d.natAbs ≤ 10 ^ 100 → Γ.fn k [dB b, .tup [.int t, .int d]] = .ok (.bl (letsF b (absI t) d)) 0
theorem llets_ok {k : Nat} (hk : LKeepsOk Γ k) {b : Bd} (B : BdOk b) (t d : Int) (ht : t.natAbs ≤ 10 ^ 100) (hd : d.natAbs ≤ 10 ^ 100) (d0 : 0 < d) : runF Γ 3 3 (sLLets k) [dB b, .int t, .int d] = .ok (.bl (letsF b t d)) 0 := by
  have e := hk b t d B ht hd
  have nn := B.nn
  have q3 := B.fb.pos
  by_cases h : t < 0
  · have : letsF b t d = true := by
      have h1 : t * b.1.2 < 0 := by
        have := Int.mul_le_mul_of_nonneg_right (show t ≤ -1 by omega) (Int.le_of_lt q3)
        omega
      have h2 : 0 ≤ b.1.1 * d := Int.mul_nonneg nn (Int.le_of_lt d0)
      unfold letsF
      split
      · exact decide_eq_true (by omega)
      · exact decide_eq_true (by omega)
    rw [this]
    simp [sLLets, h]
  · have : absI t = t := by unfold absI; rw [if_neg h]
    rw [this] at e
    simp [sLLets, h, e]
/-- which counts the bound lets by -/
theorem lets_low {b : Bd} {d : Fr} (B : BdOk b) (F : FB (10 ^ 15) d) {k : Int} (hk : 0 ≤ k) : letsF b (d.1 - k * d.2) d.2 = decide (lowB b d ≤ k) := by
  have pb := Int.mul_pos F.pos B.fb.pos
  obtain ⟨⟨p, q⟩, o⟩ := b
  have eN : (d.1 - k * d.2) * q = d.1 * q - k * (d.2 * q) := by rw [Int.sub_mul, Int.mul_assoc]
  dsimp only at pb
  unfold letsF lowB
  dsimp only
  rw [eN]
  generalize d.1 * q = x at *
  generalize p * d.2 = y at *
  generalize d.2 * q = Q at *
  have key := le_fdiv (a := x - y) (k := k) pb
  have key2 := le_fdiv (a := -(x - y)) (k := -k) pb
  rw [Int.neg_mul] at key2
  generalize k * Q = z at *
  cases o
  · simp only [Bool.false_eq_true, if_false]
    congr 1
    apply propext
    unfold mx0
    split <;> omega
  · simp only [if_true]
    congr 1
    apply propext
    unfold mx0
    split <;> omega
theorem lets_high {b : Bd} {d : Fr} (B : BdOk b) (F : FB (10 ^ 15) d) (dn : 0 ≤ d.1) {k : Int} (hk : 1 ≤ k) : letsF b (k * d.2 - d.1) d.2 = decide (k ≤ highB b d) := by
  have pb := Int.mul_pos F.pos B.fb.pos
  obtain ⟨⟨p, q⟩, o⟩ := b
  have eN : (k * d.2 - d.1) * q = k * (d.2 * q) - d.1 * q := by rw [Int.sub_mul, Int.mul_assoc]
  dsimp only at pb
  unfold letsF highB
  dsimp only
  rw [eN]
  generalize d.1 * q = x at *
  generalize p * d.2 = y at *
  generalize d.2 * q = Q at *
  have key := le_fdiv (a := x + y) (k := k) pb
  have key2 := le_fdiv (a := -(x + y)) (k := -k) pb
  rw [Int.neg_mul] at key2
  generalize k * Q = z at *
  cases o
  · simp only [Bool.false_eq_true, if_false]
    congr 1
    apply propext
    omega
  · simp only [if_true]
    congr 1
    apply propext
    unfold mx0
    split <;> omega
theorem low_nn (b : Bd) (d : Fr) : 0 ≤ lowB b d := by
  unfold lowB mx0
  split <;> split <;> omega
theorem high_nn {b : Bd} {d : Fr} (B : BdOk b) (F : FB (10 ^ 15) d) (dn : 0 ≤ d.1) : 0 ≤ highB b d := by
  have pb := Int.mul_pos F.pos B.fb.pos
  have h1 := Int.mul_nonneg dn (Int.le_of_lt B.fb.pos)
  have h2 := Int.mul_nonneg B.nn (Int.le_of_lt F.pos)
  unfold highB
  split
  · unfold mx0
    split <;> omega
  · rw [le_fdiv pb]
    omega
/-- far: no count comes to here -/
theorem low_le {b : Bd} {d : Fr} (B : BdOk b) (F : FB (10 ^ 15) d) : lowB b d ≤ 10 ^ 15 + 1 := by
  have pb := Int.mul_pos F.pos B.fb.pos
  have h : letsF b (d.1 - (10 ^ 15 + 1) * d.2) d.2 = true := by
    have t := F.top
    have q := F.pos
    have n : (d.1 - (10 ^ 15 + 1) * d.2) < 0 := by omega
    have h2 : 0 ≤ b.1.1 * d.2 := Int.mul_nonneg B.nn (Int.le_of_lt q)
    have h1 := Int.mul_le_mul_of_nonneg_right (show d.1 - (10 ^ 15 + 1) * d.2 ≤ -1 by omega) (Int.le_of_lt B.fb.pos)
    have := B.fb.pos
    unfold letsF
    split
    · exact decide_eq_true (by omega)
    · exact decide_eq_true (by omega)
  rw [lets_low B F (by decide)] at h
  exact of_decide_eq_true h
theorem high_le {b : Bd} {d : Fr} (B : BdOk b) (F : FB (10 ^ 15) d) (dn : 0 ≤ d.1) : highB b d ≤ 10 ^ 16 := by
  refine Int.not_lt.mp fun z => ?_
  have h := lets_high B F dn (k := 10 ^ 16) (by decide)
  rw [show decide ((10 : Int) ^ 16 ≤ highB b d) = true from decide_eq_true (by omega)] at h
  have t := F.top
  have q := F.pos
  have le := B.le
  have bp := B.fb.pos
  have k1 : (10 : Int) ^ 16 * d.2 - d.1 ≥ 400 * d.2 := by
    have : d.1 ≤ 10 ^ 15 := by omega
    omega
  have k2 := Int.mul_le_mul_of_nonneg_right k1 (Int.le_of_lt bp)
  have k3 := Int.mul_le_mul_of_nonneg_right le (Int.le_of_lt q)
  have k4 : 400 * d.2 * b.1.2 = 400 * (d.2 * b.1.2) := Int.mul_assoc _ _ _
  have k5 : 300 * b.1.2 * d.2 = 300 * (d.2 * b.1.2) := by rw [Int.mul_assoc, Int.mul_comm b.1.2]
  have k6 := Int.mul_pos q bp
  unfold letsF at h
  split at h
  · have := of_decide_eq_true h
    omega
  · have := of_decide_eq_true h
    omega
/-- a range, as a tuple -/
def dR (r : Int × Int) : D := .tup [.int r.1, .int r.2]
def rngB (b : Bd) (d : Fr) : Int × Int := (lowB b d, highB b d)
def sLRangeC0 (l : Nat) : Ex := .not (.call l [.var 0, .bin .sub (.ix (.var 1) (.con (.int 0))) (.bin .mul (.var 2) (.ix (.var 1) (.con (.int 1)))), .ix (.var 1) (.con (.int 1))])
def sLRangeL0 : List St := [.asg 2 (.bin .add (.var 2) (.con (.int 1))) .imm]
def sLRangeC1 (l : Nat) : Ex := .and (.cmp .gt (.var 3) (.con (.int 0))) (.not (.call l [.var 0, .bin .sub (.bin .mul (.var 3) (.ix (.var 1) (.con (.int 1)))) (.ix (.var 1) (.con (.int 0))), .ix (.var 1) (.con (.int 1))]))
def sLRangeL1 : List St := [.asg 3 (.bin .sub (.var 3) (.con (.int 1))) .imm]
def sLRangeC2 (l : Nat) : Ex := .call l [.var 0, .bin .sub (.bin .mul (.bin .add (.var 3) (.con (.int 1))) (.ix (.var 1) (.con (.int 1)))) (.ix (.var 1) (.con (.int 0))), .ix (.var 1) (.con (.int 1))]
def sLRangeL2 : List St := [.asg 3 (.bin .add (.var 3) (.con (.int 1))) .imm]
def sLRange (l : Nat) : List St := [.asg 2 (.con (.int 0)) .imm, .whl (sLRangeC0 l) sLRangeL0, .asg 3 (.var 2) .imm, .whl (sLRangeC1 l) sLRangeL1, .whl (sLRangeC2 l) sLRangeL2, .rett [2, 3]]
abbrev LLetsOk (Γ : Fe) (l : Nat) : Prop := ∀ (b : Bd) (t d : Int), BdOk b → t.natAbs ≤ 10 ^ 100 → d.natAbs ≤ 10 ^ 100 → 0 < d → Γ.fn l [dB b, .int t, .int d] = .ok (.bl (letsF b t d)) 0
theorem lrange_ok {l : Nat} (hl : LLetsOk Γ l) {b : Bd} {d : Fr} (B : BdOk b) (F : FB (10 ^ 15) d) (dn : 0 ≤ d.1) : runF Γ 4 2 (sLRange l) [dB b, dF d] = .ok (dR (rngB b d)) 9 := by
  have f1 := F.top
  have f2 := F.low
  have f3 := F.pos
  have L0 := low_nn b d
  have L1 := low_le B F
  have H0 := high_nn B F dn
  have H1 := high_le B F dn
  have mk : ∀ k : Int, 0 ≤ k → k ≤ 10 ^ 17 → mulOk k d.2 = true ∧ (k * d.2).natAbs ≤ 10 ^ 17 * 10 ^ 15 := fun k h1 h2 => ⟨small_mul (by omega) (by omega), by
    have := nab_mul (a := k) (b := d.2) (A := 10 ^ 17) (B := 10 ^ 15) (by omega) (by omega)
    omega⟩
  have A : ∀ k : Int, 0 ≤ k → k ≤ 10 ^ 17 → Γ.fn l [dB b, .int (d.1 - k * d.2), .int d.2] = .ok (.bl (decide (lowB b d ≤ k))) 0 := fun k h1 h2 => by
    have := (mk k h1 h2).2
    rw [hl b _ _ B (by omega) (by omega) f3, lets_low B F h1]
  have C : ∀ k : Int, 1 ≤ k → k ≤ 10 ^ 17 → Γ.fn l [dB b, .int (k * d.2 - d.1), .int d.2] = .ok (.bl (decide (k ≤ highB b d))) 0 := fun k h1 h2 => by
    have := (mk k (by omega) h2).2
    rw [hl b _ _ B (by omega) (by omega) f3, lets_high B F dn h1]
  obtain ⟨Lo, hLo⟩ : ∃ z, lowB b d = z := ⟨_, rfl⟩
  obtain ⟨Hi, hHi⟩ : ∃ z, highB b d = z := ⟨_, rfl⟩
  rw [hLo] at A L0 L1
  rw [hHi] at C H0 H1
  obtain ⟨ρ1, e1, ⟨k1, rfl, k10, k11⟩, t1⟩ := whl_to (c := fun ρ => evT Γ (sLRangeC0 l) (viewA ρ)) (b := exB Γ sLRangeL0) (fun ρ => ∃ k : Int, ρ = [some ⟨dB b, 0, false⟩, some ⟨dF d, 0, false⟩, some ⟨.int k, 0, false⟩, none] ∧ 0 ≤ k ∧ k ≤ Lo)
    (fun ρ => match (ρ[2]? : Option (Option Sl)) with | some (some ⟨.int k, _, _⟩) => (Lo - k).toNat | _ => 0) (fun ρ ⟨k, e, h0, h1⟩ => by
      subst e
      have a := A k h0 (by omega)
      have m := (mk k h0 (by omega)).1
      unfold dF at a ⊢
      by_cases h : Lo ≤ k
      · exact .inl (by simp [sLRangeC0, m, a, h])
      · exact .inr ⟨by simp [sLRangeC0, m, a, h], _, .inl (by simp [sLRangeL0]), ⟨k + 1, rfl, by omega, by omega⟩, by simp; omega⟩) _ [some ⟨dB b, 0, false⟩, some ⟨dF d, 0, false⟩, some ⟨.int 0, 0, false⟩, none] (Nat.le_refl _) ⟨0, rfl, by decide, L0⟩
  have ek : k1 = Lo := by
    have a := A k1 k10 (by omega)
    have m := (mk k1 k10 (by omega)).1
    unfold dF at a t1
    simp [sLRangeC0, m, a] at t1
    omega
  subst ek
  obtain ⟨ρ2, e2, ⟨k2, rfl, k20, k21⟩, t2⟩ := whl_to (c := fun ρ => evT Γ (sLRangeC1 l) (viewA ρ)) (b := exB Γ sLRangeL1) (fun ρ => ∃ k : Int, ρ = [some ⟨dB b, 0, false⟩, some ⟨dF d, 0, false⟩, some ⟨.int k1, 0, false⟩, some ⟨.int k, 0, false⟩] ∧ 0 ≤ k ∧ k ≤ k1)
    (fun ρ => match (ρ[3]? : Option (Option Sl)) with | some (some ⟨.int k, _, _⟩) => k.toNat | _ => 0) (fun ρ ⟨k, e, h0, h1⟩ => by
      subst e
      by_cases z : 0 < k
      · have a := C k (by omega) (by omega)
        have m := (mk k h0 (by omega)).1
        unfold dF at a ⊢
        by_cases h : k ≤ Hi
        · exact .inl (by simp [sLRangeC1, m, a, h, z])
        · exact .inr ⟨by simp [sLRangeC1, m, a, h, z], _, .inl (by simp [sLRangeL1]), ⟨k - 1, rfl, by omega, by omega⟩, by simp; omega⟩
      · exact .inl (by simp [sLRangeC1, z])) _ [some ⟨dB b, 0, false⟩, some ⟨dF d, 0, false⟩, some ⟨.int k1, 0, false⟩, some ⟨.int k1, 0, false⟩] (Nat.le_refl _) ⟨k1, rfl, k10, Int.le_refl _⟩
  have ek2 : k2 ≤ Hi := by
    by_cases z : 0 < k2
    · have a := C k2 (by omega) (by omega)
      have m := (mk k2 k20 (by omega)).1
      unfold dF at a t2
      simp [sLRangeC1, m, a, z] at t2
      omega
    · omega
  obtain ⟨ρ3, e3, ⟨k3, rfl, k30, k31⟩, t3⟩ := whl_to (c := fun ρ => evT Γ (sLRangeC2 l) (viewA ρ)) (b := exB Γ sLRangeL2) (fun ρ => ∃ k : Int, ρ = [some ⟨dB b, 0, false⟩, some ⟨dF d, 0, false⟩, some ⟨.int k1, 0, false⟩, some ⟨.int k, 0, false⟩] ∧ 0 ≤ k ∧ k ≤ Hi)
    (fun ρ => match (ρ[3]? : Option (Option Sl)) with | some (some ⟨.int k, _, _⟩) => (Hi - k).toNat | _ => 0) (fun ρ ⟨k, e, h0, h1⟩ => by
      subst e
      have a := C (k + 1) (by omega) (by omega)
      have m := (mk (k + 1) (by omega) (by omega)).1
      unfold dF at a ⊢
      by_cases h : k + 1 ≤ Hi
      · exact .inr ⟨by simp [sLRangeC2, m, a, h], _, .inl (by simp [sLRangeL2]), ⟨k + 1, rfl, by omega, by omega⟩, by simp; omega⟩
      · exact .inl (by simp [sLRangeC2, m, a, h])) _ [some ⟨dB b, 0, false⟩, some ⟨dF d, 0, false⟩, some ⟨.int k1, 0, false⟩, some ⟨.int k2, 0, false⟩] (Nat.le_refl _) ⟨k2, rfl, k20, ek2⟩
  have ek3 : k3 = Hi := by
    have a := C (k3 + 1) (by omega) (by omega)
    have m := (mk (k3 + 1) (by omega) (by omega)).1
    unfold dF at a t3
    simp [sLRangeC2, m, a] at t3
    omega
  subst ek3
  refine run_of rfl (step (ρ' := [some ⟨dB b, 0, false⟩, some ⟨dF d, 0, false⟩, some ⟨.int 0, 0, false⟩, none]) ?_ (step (ρ' := [some ⟨dB b, 0, false⟩, some ⟨dF d, 0, false⟩, some ⟨.int k1, 0, false⟩, none]) ?_ (step (ρ' := [some ⟨dB b, 0, false⟩, some ⟨dF d, 0, false⟩, some ⟨.int k1, 0, false⟩, some ⟨.int k1, 0, false⟩]) ?_
    (step (ρ' := [some ⟨dB b, 0, false⟩, some ⟨dF d, 0, false⟩, some ⟨.int k1, 0, false⟩, some ⟨.int k2, 0, false⟩]) ?_ (step (ρ' := [some ⟨dB b, 0, false⟩, some ⟨dF d, 0, false⟩, some ⟨.int k1, 0, false⟩, some ⟨.int k3, 0, false⟩]) ?_ (stop ?_))))))
  · simp
  · simp only [exS]
    exact e1
  · simp
  · simp only [exS]
    exact e2
  · simp only [exS]
    exact e3
  · simp [dR, rngB, hLo, hHi]
end
end PL
set_option exponentiation.threshold 10000
/-! PL41: bounds drawn, ranges asked for. -/
namespace PL
open PySem L2
/-! ### dues are not below nought -/
def NN (r : List Fr) : Prop := ∀ p ∈ r, 0 ≤ p.1 ∧ 0 < p.2
theorem NN.get {r : List Fr} (h : NN r) (i : Nat) : 0 ≤ (r.getD i (0, 1)).1 ∧ 0 < (r.getD i (0, 1)).2 := by
  rw [List.getD_eq_getElem?_getD]
  cases e : r[i]? with
  | none => exact ⟨by decide, by decide⟩
  | some p => exact h p (List.mem_of_getElem? e)
theorem lowF_nn {a b : Int} (ha : 0 ≤ a) (hb : 0 < b) : 0 ≤ (lowF a b).1 ∧ 0 < (lowF a b).2 :=
  ⟨Int.fdiv_nonneg ha (Int.natCast_nonneg _), (lowF_low (a := a) hb).pos⟩
theorem w_nn {ws : List Int} (h : ∀ x ∈ ws, 0 ≤ x ∧ x ≤ 1000) (i : Nat) : 0 ≤ ws.getD i 0 := by
  rw [List.getD_eq_getElem?_getD]
  cases e : ws[i]? with
  | none => exact Int.le_refl _
  | some p => exact (h p (List.mem_of_getElem? e)).1
theorem rowF_nn {m M : Nat} {first : List Fr} {p : Nat × List Int} (h : NN first) (S : SpOk m M p) {i : Int} (hi : 0 ≤ i) : NN (rowF first i p.2) := by
  intro q hq
  obtain ⟨who, _, rfl⟩ := List.mem_map.mp hq
  obtain ⟨n1, n2⟩ := h.get who
  refine lowF_nn ?_ (Int.mul_pos n2 S.pos)
  exact Int.add_nonneg (Int.mul_nonneg n1 (Int.le_of_lt S.pos)) (Int.mul_nonneg (Int.mul_nonneg hi (w_nn S.w who)) (Int.le_of_lt n2))
theorem addSp_nn {m M : Nat} {T : List (List Fr)} {p : Nat × List Int} (h : ∀ r ∈ T, NN r) (S : SpOk m M p) : ∀ r ∈ addSp T p, NN r := by
  intro r hr
  rcases List.mem_append.mp hr with k | k
  · exact h r k
  · obtain ⟨i, _, rfl⟩ := List.mem_map.mp k
    refine rowF_nn ?_ S (by omega)
    by_cases e : T = []
    · subst e
      intro q hq
      simp at hq
    · exact h _ (last_mem e)
theorem fold_nn {m M : Nat} : ∀ (s : Sps) (T : List (List Fr)), (∀ p ∈ s, SpOk m M p) → (∀ r ∈ T, NN r) → ∀ r ∈ s.foldl addSp T, NN r
  | [], T, _, h => h
  | p :: s, T, S, h => fold_nn s (addSp T p) (fun q hq => S q (List.mem_cons_of_mem _ hq)) (addSp_nn h (S p List.mem_cons_self))
theorem duesF_nn {m M : Nat} {s : Sps} (S : SpsOk m M s) : ∀ r ∈ duesF m s, NN r := fold_nn s _ S.sp fun r hr q hq => by
  have e : r = List.replicate m (0, 1) := by simpa using hr
  rw [e] at hq
  rw [(List.mem_replicate.mp hq).2]
  exact ⟨by decide, by decide⟩
theorem due_nn {m M : Nat} {s : Sps} (S : SpsOk m M s) (z w : Nat) : 0 ≤ (dueF (duesF m s) z w).1 := by
  unfold dueF
  rw [List.getD_eq_getElem?_getD (l := duesF m s)]
  cases e : (duesF m s)[z]? with
  | none => simp
  | some r => exact (NN.get (duesF_nn S r (List.mem_of_getElem? e)) w).1
/-! ### a bound drawn -/
theorem at_mem {l : List D} {k : Int} (h0 : 0 ≤ k) (h : k < l.length) : ∃ d ∈ l, atD l k = .ok d 0 := by
  obtain ⟨j, rfl⟩ := Int.eq_ofNat_of_zero_le h0
  have hj : j < l.length := by omega
  refine ⟨l[j], List.getElem_mem hj, ?_⟩
  rw [atD_nat, List.getElem?_eq_getElem hj]
def mosts : List D := [dF (0, 1), dF (1, 2), dF (1, 1), dF (3, 4), dF (2, 3), dF (5, 2)]
theorem mosts_ok {d : D} (h : d ∈ mosts) (o : Bool) : ∃ p : Fr, d = dF p ∧ BdOk (p, o) := by
  simp only [mosts, List.mem_cons, List.not_mem_nil, or_false] at h
  cases o <;> rcases h with h | h | h | h | h | h <;> exact ⟨_, h, ⟨⟨by decide, by decide, by decide, by decide⟩, by decide, by decide⟩⟩
def sLBound (d low : Nat) : List St := [.asg 2 (.call d [.var 0, .con (.int 1), .con (.int 6)]) .imm, .asg 3 (.ix (.lst [.tup [.con (.int 0), .con (.int 1)], .tup [.con (.int 1), .con (.int 2)], .tup [.con (.int 1), .con (.int 1)], .tup [.con (.int 3), .con (.int 4)], .tup [.con (.int 2), .con (.int 3)], .tup [.con (.int 5), .con (.int 2)]]) (.call d [.var 0, .con (.int 2), .con (.int 6)])) (.fz [0]), .ife (.cmp .lt (.var 2) (.con (.int 4))) [.asg 4 (.ix (.ix (.var 1) (.call d [.var 0, .con (.int 3), .bi .len [.var 1]])) (.call d [.var 0, .con (.int 4), .bi .len [.ix (.var 1) (.con (.int 0))]])) (.fz [0, 1]), .asg 5 (.bin .mod (.ix (.var 4) (.con (.int 0))) (.ix (.var 4) (.con (.int 1)))) .imm, .asg 3 (.call low [.ix (.lst [.var 5, .bin .sub (.ix (.var 4) (.con (.int 1))) (.var 5)]) (.bin .mod (.var 2) (.con (.int 2))), .ix (.var 4) (.con (.int 1))]) .imm] [], .ret (.tup [.var 3, .cmp .eq (.call d [.var 0, .con (.int 5), .con (.int 2)]) (.con (.int 1))])]
theorem lbound_ok {Γ : Fe} {d low : Nat} {Γd : Fe} (hD : Γ.fn d = runF Γd 6 3 sDraw) (hlow : ∀ a b : Int, 0 < b → b.natAbs ≤ 10 ^ 250 → Γ.fn low [.int a, .int b] = .ok (dF (lowF a b)) 9) {m : Nat} (m1 : 1 ≤ m) (m6 : m ≤ 6) {T : List (List Fr)} (tb : TB (10 ^ 15) m T) (tl : T.length ≤ 1000) (c : Int) :
    ∃ b, BdOk b ∧ runF Γ 6 2 (sLBound d low) [.int c, .lst (lT T)] = .ok (dB b) 9 := by
  have T0 : 0 < T.length := List.length_pos_iff.mpr tb.ne
  obtain ⟨r1, r2⟩ := tb.row (t := 0) T0
  obtain ⟨way, ew, w0, w6⟩ := draw_ok c 1 6 (by decide) (by decide) (by decide) (by decide)
  obtain ⟨k2, ek2, k20, k26⟩ := draw_ok c 2 6 (by decide) (by decide) (by decide) (by decide)
  obtain ⟨k3, ek3, k30, k31⟩ := draw_ok c 3 (T.length : Nat) (by decide) (by decide) (by omega) (by omega)
  obtain ⟨k4, ek4, k40, k41⟩ := draw_ok c 4 (m : Nat) (by decide) (by decide) (by omega) (by omega)
  obtain ⟨k5, ek5, _, _⟩ := draw_ok c 5 2 (by decide) (by decide) (by decide) (by decide)
  have ew := ew Γd
  have ek2 := ek2 Γd
  have ek3 := ek3 Γd
  have ek4 := ek4 Γd
  have ek5 := ek5 Γd
  rw [← hD] at ew ek2 ek3 ek4 ek5
  obtain ⟨j3, rfl⟩ := Int.eq_ofNat_of_zero_le k30
  obtain ⟨j4, rfl⟩ := Int.eq_ofNat_of_zero_le k40
  have h3 : j3 < T.length := by omega
  obtain ⟨q1, q2⟩ := tb.row h3
  have h4 : j4 < (T.getD j3 []).length := by omega
  have A0 : atD (lT T) 0 = .ok (.lst (lF (T.getD 0 []))) 0 := lT_at T0
  have A3 := lT_at h3
  have A4 := lF_at h4
  have P := FB.get q2 h4
  obtain ⟨x, hx, ex⟩ := at_mem (l := mosts) k20 (by simpa [mosts] using k26)
  obtain ⟨p2, rfl, B2⟩ := mosts_ok hx (decide (k5 = 1))
  have ex' : atD [.tup [.int 0, .int 1], .tup [.int 1, .int 2], .tup [.int 1, .int 1], .tup [.int 3, .int 4], .tup [.int 2, .int 3], .tup [.int 5, .int 2]] k2 = .ok (dF p2) 0 := ex
  have l0 : (lF (T.getD 0 [])).length = m := by rw [lF_len]; exact r1
  generalize T.getD 0 [] = row0 at *
  generalize (T.getD j3 []).getD j4 (0, 1) = p at *
  generalize T.getD j3 [] = row3 at *
  by_cases hw : way < 4
  · obtain ⟨part, hp⟩ : ∃ part, p.1.fmod p.2 = part := ⟨_, rfl⟩
    have pp := P.pos
    have pl := P.low
    have n1 := Int.fmod_nonneg_of_pos p.1 pp
    have n2 := Int.fmod_lt_of_pos p.1 pp
    rw [hp] at n1 n2
    have pz : ¬ p.2 = 0 := by omega
    obtain ⟨t, et, t1, t2⟩ : ∃ t : Int, atD [.int part, .int (p.2 - part)] (way.fmod 2) = .ok (.int t) 0 ∧ 0 ≤ t ∧ t ≤ p.2 := by
      have h1 := Int.fmod_nonneg_of_pos way (b := 2) (by decide)
      have h2 := Int.fmod_lt_of_pos way (b := 2) (by decide)
      rcases (by omega : way.fmod 2 = 0 ∨ way.fmod 2 = 1) with h | h
      · exact ⟨part, by rw [h]; simp, n1, by omega⟩
      · exact ⟨p.2 - part, by rw [h]; simp, by omega, by omega⟩
    have el := hlow t p.2 pp (by omega)
    have L := lowF_low (a := t) pp
    have nn := lowF_nn t1 pp
    refine ⟨(lowF t p.2, decide (k5 = 1)), ⟨(lowF_fb (B := 10 ^ 15) pp (by omega) pl).mono (by decide), nn.1, ?_⟩, ?_⟩
    · have e := L.eq
      show (lowF t p.2).1 ≤ 300 * (lowF t p.2).2
      have e2 : (lowF t p.2).1 * p.2 ≤ (lowF t p.2).2 * p.2 := by
        rw [e, Int.mul_comm (lowF t p.2).2]
        exact Int.mul_le_mul_of_nonneg_right t2 (Int.le_of_lt nn.2)
      have := Int.le_of_mul_le_mul_right e2 pp
      have := nn.2
      omega
    · refine run_of rfl (step (ρ' := [some ⟨.int c, 0, false⟩, some ⟨.lst (lT T), 0, false⟩, some ⟨.int way, 0, false⟩, none, none, none]) ?_ (step (ρ' := [some ⟨.int c, 0, false⟩, some ⟨.lst (lT T), 0, false⟩, some ⟨.int way, 0, false⟩, some ⟨dF p2, 0, false⟩, none, none]) ?_
        (step (ρ' := [some ⟨.int c, 0, false⟩, some ⟨.lst (lT T), 0, false⟩, some ⟨.int way, 0, false⟩, some ⟨dF (lowF t p.2), 9, false⟩, some ⟨dF p, 0, false⟩, some ⟨.int part, 0, false⟩]) ?_ (stop ?_))))
      · simp [ew]
      · simp [ek2, ex']
      · have e1 : exB Γ [.asg 4 (.ix (.ix (.var 1) (.call d [.var 0, .con (.int 3), .bi .len [.var 1]])) (.call d [.var 0, .con (.int 4), .bi .len [.ix (.var 1) (.con (.int 0))]])) (.fz [0, 1]), .asg 5 (.bin .mod (.ix (.var 4) (.con (.int 0))) (.ix (.var 4) (.con (.int 1)))) .imm, .asg 3 (.call low [.ix (.lst [.var 5, .bin .sub (.ix (.var 4) (.con (.int 1))) (.var 5)]) (.bin .mod (.var 2) (.con (.int 2))), .ix (.var 4) (.con (.int 1))]) .imm] [some ⟨.int c, 0, false⟩, some ⟨.lst (lT T), 0, false⟩, some ⟨.int way, 0, false⟩, some ⟨dF p2, 0, false⟩, none, none] = .nx [some ⟨.int c, 0, false⟩, some ⟨.lst (lT T), 0, false⟩, some ⟨.int way, 0, false⟩, some ⟨dF (lowF t p.2), 9, false⟩, some ⟨dF p, 0, false⟩, some ⟨.int part, 0, false⟩] := by
          refine step (ρ' := [some ⟨.int c, 0, false⟩, some ⟨.lst (lT T), 0, false⟩, some ⟨.int way, 0, false⟩, some ⟨dF p2, 0, false⟩, some ⟨dF p, 0, false⟩, none]) ?_ (step (ρ' := [some ⟨.int c, 0, false⟩, some ⟨.lst (lT T), 0, false⟩, some ⟨.int way, 0, false⟩, some ⟨dF p2, 0, false⟩, some ⟨dF p, 0, false⟩, some ⟨.int part, 0, false⟩]) ?_ (step ?_ (exB_nil _ _)))
          · simp [-atD_0, A0, A3, A4, ek3, ek4, l0]
          · simp [dF, pz, hp]
          · simp [dF] at el ⊢
            simp [et, el]
        simp only [exS]
        have ec : evT Γ (.cmp .lt (.var 2) (.con (.int 4))) (viewA [some ⟨.int c, 0, false⟩, some ⟨.lst (lT T), 0, false⟩, some ⟨.int way, 0, false⟩, some ⟨dF p2, 0, false⟩, none, none]) = .ok true := by simp [hw]
        rw [ec]
        exact e1
      · simp [ek5, dB]
  · refine ⟨(p2, decide (k5 = 1)), B2, ?_⟩
    refine run_of rfl (step (ρ' := [some ⟨.int c, 0, false⟩, some ⟨.lst (lT T), 0, false⟩, some ⟨.int way, 0, false⟩, none, none, none]) ?_ (step (ρ' := [some ⟨.int c, 0, false⟩, some ⟨.lst (lT T), 0, false⟩, some ⟨.int way, 0, false⟩, some ⟨dF p2, 0, false⟩, none, none]) ?_
        (step (ρ' := [some ⟨.int c, 0, false⟩, some ⟨.lst (lT T), 0, false⟩, some ⟨.int way, 0, false⟩, some ⟨dF p2, 0, false⟩, none, none]) ?_ (stop ?_))))
    · simp [ew]
    · simp [ek2, ex']
    · simp [hw]
    · simp [ek5, dB]
/-! ### a range asked for -/
def sRangeOf (ck du lo hi : Nat) : List St := [.ex (.call ck [.var 1]), .asg 4 (.meth du (.var 0) [.var 2, .var 3]) (.fz [0, 2, 3]), .ret (.tup [.call lo [.var 1, .var 4], .call hi [.var 1, .var 4]])]
abbrev CkB (Γ : Fe) (ck : Nat) : Prop := ∀ b : Bd, BdOk b → Γ.fn ck [dB b] = .ok .non 0
abbrev LowOk (Γ : Fe) (lo : Nat) : Prop := ∀ (b : Bd) (d : Fr), BdOk b → FB (10 ^ 15) d → Γ.fn lo [dB b, dF d] = .ok (.int (lowB b d)) 0
abbrev HighOk (Γ : Fe) (hi : Nat) : Prop := ∀ (b : Bd) (d : Fr), BdOk b → FB (10 ^ 15) d → Γ.fn hi [dB b, dF d] = .ok (.int (highB b d)) 0
section
variable {Γ : Fe} {m M : Nat} {s : Sps} {ck du lo hi : Nat} {b : Bd}
theorem rangeOf_ok (S : SpsOk m M s) (hM : M ≤ 60) (hc : CkB Γ ck) (hl : LowOk Γ lo) (hh : HighOk Γ hi) (h1 : Γ.mh du 0 = true) (hd : ∀ z w : Nat, z ≤ turnsF s → w < m → Γ.me du 0 [dP m s, .int z, .int w] = .ok (dF (dueF (duesF m s) z w)) 0)
    (B : BdOk b) {z w : Nat} (hz : z ≤ turnsF s) (hw : w < m) : runF Γ 5 4 (sRangeOf ck du lo hi) [dP m s, dB b, .int z, .int w] = .ok (dR (rngB b (dueF (duesF m s) z w))) 9 := by
  have F := due_at S hM hz hw
  have e0 := hc b B
  have e1 := hd z w hz hw
  have e2 := hl b _ B F
  have e3 := hh b _ B F
  generalize dueF (duesF m s) z w = d at *
  refine run_of rfl (step (ρ' := [some ⟨dP m s, 0, false⟩, some ⟨dB b, 0, false⟩, some ⟨.int z, 0, false⟩, some ⟨.int w, 0, false⟩, none]) ?_ (step (ρ' := [some ⟨dP m s, 0, false⟩, some ⟨dB b, 0, false⟩, some ⟨.int z, 0, false⟩, some ⟨.int w, 0, false⟩, some ⟨dF d, 0, false⟩]) ?_ (stop ?_)))
  · simp [e0]
  · unfold dP at e1 ⊢
    simp [h1, e1]
  · simp [e2, e3, dR, rngB]
theorem rangeOf_exn (hc : CkB Γ ck) (h1 : Γ.mh du 0 = true) (B : BdOk b) {d1 d2 : D} {x : Exn} (hd : Γ.me du 0 [dP m s, d1, d2] = .exn x) : runF Γ 5 4 (sRangeOf ck du lo hi) [dP m s, dB b, d1, d2] = .exn x := by
  have e0 := hc b B
  unfold dP at hd ⊢
  simp [sRangeOf, e0, h1, hd]
end
end PL
/-! PL42: which class an exception is of, by what the written part says. -/
namespace PL
open PySem L2
section
variable {K : PySem.W.Frag} {A B : Addr} {b : Bool}
theorem kitCls_ref (c : PySem.W.isClsIn K B = true) (t : PySem.W.typeIn K (.ref B) = some (.type "type")) (q : PySem.W.subIn K (.ref A) (.ref B) = some b) : PySem.W.kitCls K (.ref A) (.ref B) = some b := by
  have c' : (PySem.W.clsIn K B).isSome = true := c
  unfold PySem.W.kitCls
  dsimp only
  rw [c', t, if_pos (by rfl)]
  exact q
theorem kit_ref (s : PySem.W.subIn K (.ref A) (.ref A) = some true) (c : PySem.W.isClsIn K B = true) (t : PySem.W.typeIn K (.ref B) = some (.type "type")) (q : PySem.W.subIn K (.ref A) (.ref B) = some b) : PySem.W.kitOne K (.ref A) (.ref B) = some b := by
  unfold PySem.W.kitOne
  by_cases h : A = B
  · subst h
    rw [s] at q
    rw [if_pos (by simp)]
    exact q
  · rw [if_neg (by simpa using h)]
    exact kitCls_ref c t q
theorem exm_ref (x : PySem.W.subIn K (.ref B) (.type "BaseException") = some true) (c : PySem.W.isClsIn K B = true) (t : PySem.W.typeIn K (.ref B) = some (.type "type")) (q : PySem.W.subIn K (.ref A) (.ref B) = some b) : PySem.W.exmOne K (.ref A) (.ref B) = some b := by
  unfold PySem.W.exmOne
  rw [x, if_pos (by rfl)]
  exact kitCls_ref c t q
theorem kitCls_VE (q : PySem.W.subIn K (.ref A) (.type "ValueError") = some b) : PySem.W.kitCls K (.ref A) (.type "ValueError") = some b := by
  unfold PySem.W.kitCls
  dsimp only
  rw [if_pos (by decide +kernel)]
  exact q
theorem kit_VE (q : PySem.W.subIn K (.ref A) (.type "ValueError") = some b) : PySem.W.kitOne K (.ref A) (.type "ValueError") = some b := by
  unfold PySem.W.kitOne
  rw [if_neg (by simp)]
  exact kitCls_VE q
theorem exm_VE (x : PySem.W.subIn K (.type "ValueError") (.type "BaseException") = some true) (q : PySem.W.subIn K (.ref A) (.type "ValueError") = some b) : PySem.W.exmOne K (.ref A) (.type "ValueError") = some b := by
  unfold PySem.W.exmOne
  rw [x, if_pos (by rfl)]
  exact kitCls_VE q
end
/-! ### no exception within -/
@[simp] theorem nEx_dF (p : Fr) : nEx (dF p) = true := by simp [dF]
@[simp] theorem nEx_dB (b : Bd) : nEx (dB b) = true := by simp [dB]
@[simp] theorem nExL_lF (l : List Fr) : nExL (lF l) = true := nExL_all fun d hd => by
  obtain ⟨i, _, rfl⟩ := List.mem_map.mp hd
  exact nEx_dF i
@[simp] theorem nExL_lT (T : List (List Fr)) : nExL (lT T) = true := nExL_all fun d hd => by
  obtain ⟨i, _, rfl⟩ := List.mem_map.mp hd
  simp
@[simp] theorem nEx_dP (m : Nat) (s : Sps) : nEx (dP m s) = true := by
  unfold dP
  rw [nEx_obj, nExL_cons, nExL_cons, nEx_lst, nEx_lst, nExL_lT, nExL_nil, nExL_all fun d hd => by
    obtain ⟨i, _, rfl⟩ := List.mem_map.mp hd
    simp [dK]]
  rfl
theorem frzO_not {l : List Nat} {k : Nat} (h : l.contains k = false) (o : Option Sl) : frzO l k o = o := by
  cases o with
  | none => rfl
  | some s => unfold frzO; dsimp only; rw [h]; rfl
end PL
set_option exponentiation.threshold 10000
/-! PL43: a loop that returns at the first; windows. -/
namespace PL
open PySem L2
def stopO : OS → Bool
  | .rt _ _ => true
  | .exn _ => true
  | _ => false
/-- a for that ends at the first item of a kind -/
theorem forS_find {tg : List Nat} {b : En → OS} (I : Nat → En → Prop) (P : Nat → Bool) (o : Nat → OS) (ho : ∀ i, stopO (o i) = true) : ∀ {xs : List D} {ρ : En} (k : Nat), I k ρ →
    (∀ i x ρ, xs[i]? = some x → I (k + i) ρ → ∃ ρ1, takeS tg x ρ = some ρ1 ∧ (if P (k + i) then b ρ1 = o (k + i) else ∃ ρ2, (b ρ1 = .nx ρ2 ∨ b ρ1 = .ct ρ2) ∧ I (k + i + 1) ρ2)) →
    (∃ i, i < xs.length ∧ P (k + i) = true ∧ (∀ j, j < i → P (k + j) = false) ∧ forS tg b xs ρ = o (k + i)) ∨
    ((∀ j, j < xs.length → P (k + j) = false) ∧ ∃ ρ', forS tg b xs ρ = .nx ρ' ∧ I (k + xs.length) ρ')
  | [], ρ, k, h0, _ => .inr ⟨fun j h => absurd h (by simp), ρ, rfl, h0⟩
  | x :: xs, ρ, k, h0, hs => by
    obtain ⟨ρ1, e1, h1⟩ := hs 0 x ρ rfl h0
    rw [Nat.add_zero] at h1
    cases hp : P k with
    | true =>
      rw [hp, if_pos rfl] at h1
      refine .inl ⟨0, by simp, hp, fun j h => absurd h (by omega), ?_⟩
      unfold forS
      rw [e1]
      dsimp only
      rw [h1, Nat.add_zero]
      have := ho k
      cases e : o k <;> rw [e] at this <;> first | rfl | cases this
    | false =>
      rw [hp, if_neg (by decide)] at h1
      obtain ⟨ρ2, e2, h2⟩ := h1
      have e3 : forS tg b (x :: xs) ρ = forS tg b xs ρ2 := by
        rw [forS, e1]
        dsimp only
        rcases e2 with e2 | e2 <;> rw [e2]
      rcases forS_find I P o ho (xs := xs) (ρ := ρ2) (k + 1) h2 fun i y ρ hy hi => by
        have := hs (i + 1) y ρ (by simpa using hy) (by rw [show k + (i + 1) = k + 1 + i by omega]; exact hi)
        rw [show k + (i + 1) = k + 1 + i by omega] at this
        exact this with ⟨i, a1, a2, a3, a4⟩ | ⟨a1, ρ', a2, a3⟩
      · refine .inl ⟨i + 1, by simpa using a1, by rw [show k + (i + 1) = k + 1 + i by omega]; exact a2, fun j hj => ?_, ?_⟩
        · cases j with
          | zero => exact hp
          | succ j => rw [show k + (j + 1) = k + 1 + j by omega]; exact a3 j (by omega)
        · rw [e3, a4, show k + 1 + i = k + (i + 1) by omega]
      · refine .inr ⟨fun j hj => ?_, ρ', by rw [e3, a2], by rw [List.length_cons, show k + (xs.length + 1) = k + 1 + xs.length by omega]; exact a3⟩
        cases j with
        | zero => exact hp
        | succ j => rw [show k + (j + 1) = k + 1 + j by omega]; exact a1 j (by simpa using hj)
/-- the first of n numbers at which f comes to k -/
def firstF (f : Nat → Int) (k : Int) : Nat → Option Nat
  | 0 => none
  | n + 1 => match firstF f k n with
    | some t => some t
    | none => if k ≤ f n then some n else none
theorem firstF_none {f : Nat → Int} {k : Int} : ∀ {n : Nat}, (∀ j, j < n → ¬ k ≤ f j) → firstF f k n = none
  | 0, _ => rfl
  | n + 1, h => by
    unfold firstF
    rw [firstF_none fun j hj => h j (by omega)]
    dsimp only
    rw [if_neg (h n (by omega))]
theorem firstF_some {f : Nat → Int} {k : Int} {i : Nat} (h1 : k ≤ f i) (h2 : ∀ j, j < i → ¬ k ≤ f j) : ∀ {n : Nat}, i < n → firstF f k n = some i
  | 0, h => absurd h (by omega)
  | n + 1, h => by
    unfold firstF
    by_cases e : i = n
    · subst e
      rw [firstF_none h2]
      dsimp only
      rw [if_pos h1]
    · rw [firstF_some h1 h2 (by omega)]
def dO : Option Nat → D
  | none => .non
  | some t => .int t
@[simp] theorem dO_none : dO none = .non := rfl
@[simp] theorem dO_some (t : Nat) : dO (some t) = .int t := rfl
@[simp] theorem imm_dO (n : Nat) (o : Option Nat) : immB n (dO o) = true := by cases o <;> simp
@[simp] theorem isi_bool_dO (o : Option Nat) : isiD .bool (dO o) = .ok (.bl false) 0 := by cases o <;> rfl
theorem shp_dO (n : Nat) (o : Option Nat) : shp n (dO o) = true := by cases o <;> simp
theorem eq_dO (o : Option Nat) : eqD (dO o) (dO o) = true := by cases o <;> simp [eqD]
section
variable {Γ : Fe} {m M : Nat} {s : Sps} {b : Bd}
/-! ### windows -/
def sWindowL (r : Nat) : List St := [.asgs [7, 8] (.call r [.var 0, .var 1, .var 6, .var 2]) .imm, .ife (.and (.cmp .isN (.var 4) (.con .non)) (.cmp .ge (.var 8) (.var 3))) [.asg 4 (.var 6) .imm] [], .ife (.and (.cmp .isN (.var 5) (.con .non)) (.cmp .ge (.var 7) (.var 3))) [.asg 5 (.var 6) .imm] []]
def sWindow (ck cc w c t r : Nat) : List St := [.ex (.call ck [.var 1]), .ex (.meth cc (.var 0) [.var 2]), .ife (.or (.not (.call w [.var 3])) (.cmp .lt (.var 3) (.con (.int 1)))) [.raise c none] [], .asg 4 (.con .non) .imm, .asg 5 (.con .non) .imm, .fo .rng1 [.bin .add (.meth t (.var 0) []) (.con (.int 1))] [6] [] .imm (sWindowL r), .rett [4, 5]]
def loF (b : Bd) (T : List (List Fr)) (w t : Nat) : Int := lowB b (dueF T t w)
def hiF (b : Bd) (T : List (List Fr)) (w t : Nat) : Int := highB b (dueF T t w)
def dWin (b : Bd) (T : List (List Fr)) (w : Nat) (k : Int) : D := .tup [dO (firstF (hiF b T w) k T.length), dO (firstF (loF b T w) k T.length)]
theorem first_step (f : Nat → Int) (k : Int) (n : Nat) : firstF f k (n + 1) = match firstF f k n with | some t => some t | none => if k ≤ f n then some n else none := rfl
theorem window_ok {ck cc wh c t r cC : Nat} (S : SpsOk m M s) (hM : M ≤ 60) (hck : CkB Γ ck) (h1 : Γ.mh cc 0 = true) (hC : CkC Γ cc cC m s) (hw : ∀ d, argD d = true → Γ.fn wh [d] = .ok (.bl (isWD d)) 0) (h2 : Γ.mh t 0 = true) (ht : Γ.me t 0 [dP m s] = .ok (.int (turnsF s)) 0)
    (hr : ∀ (b : Bd) (z w : Nat), BdOk b → z ≤ turnsF s → w < m → Γ.fn r [dP m s, dB b, .int z, .int w] = .ok (dR (rngB b (dueF (duesF m s) z w))) 9) (B : BdOk b) {w : Nat} (hwm : w < m) {k : Int} (hk : 1 ≤ k) :
    runF Γ 9 4 (sWindow ck cc wh c t r) [dP m s, dB b, .int w, .int k] = .ok (dWin b (duesF m s) w k) 9 := by
  have e0 := hck b B
  have eC := hC (.int w) rfl
  have w3 : (w : Int) ≤ (m : Int) - 1 := by omega
  have w4 : (0 : Int) ≤ w := by omega
  simp [inT, w3, w4] at eC
  have eW := hw (.int k) rfl
  have tl := (duesF_tb S hM).2
  have dl := duesF_len m s
  obtain ⟨ρ', e, o6, o7, o8, rfl, _⟩ := for_rng (tg := [6]) (b := exB Γ (sWindowL r)) (lo := 0) (n := turnsF s + 1) (ρ := [some ⟨dP m s, 0, false⟩, some ⟨dB b, 0, false⟩, some ⟨.int w, 0, false⟩, some ⟨.int k, 0, false⟩, some ⟨.non, 0, false⟩, some ⟨.non, 0, false⟩, none, none, none])
    (fun i ρ => ∃ o6 o7 o8, ρ = [some ⟨dP m s, 0, false⟩, some ⟨dB b, 0, false⟩, some ⟨.int w, 0, false⟩, some ⟨.int k, 0, false⟩, some ⟨dO (firstF (hiF b (duesF m s) w) k i), 0, false⟩, some ⟨dO (firstF (loF b (duesF m s) w) k i), 0, false⟩, o6, o7, o8] ∧ lkO o6 = false ∧ lkO o7 = false ∧ lkO o8 = false) ⟨none, none, none, rfl, rfl, rfl, rfl⟩ fun i ρ hi ⟨o6, o7, o8, e, k6, k7, k8⟩ => by
      subst e
      have q := hr b i w B (by omega) hwm
      have L : lowB b (dueF (duesF m s) i w) = loF b (duesF m s) w i := rfl
      have H : highB b (dueF (duesF m s) i w) = hiF b (duesF m s) w i := rfl
      unfold rngB dR at q
      rw [L, H] at q
      refine ⟨[some ⟨dP m s, 0, false⟩, some ⟨dB b, 0, false⟩, some ⟨.int w, 0, false⟩, some ⟨.int k, 0, false⟩, some ⟨dO (firstF (hiF b (duesF m s) w) k i), 0, false⟩, some ⟨dO (firstF (loF b (duesF m s) w) k i), 0, false⟩, some ⟨.int i, 0, false⟩, o7, o8], _, by simp [k6], .inl ?_, some ⟨.int i, 0, false⟩, some ⟨.int (loF b (duesF m s) w i), 0, false⟩, some ⟨.int (hiF b (duesF m s) w i), 0, false⟩, rfl, rfl, rfl, rfl⟩
      rw [first_step, first_step]
      refine step (ρ' := [some ⟨dP m s, 0, false⟩, some ⟨dB b, 0, false⟩, some ⟨.int w, 0, false⟩, some ⟨.int k, 0, false⟩, some ⟨dO (firstF (hiF b (duesF m s) w) k i), 0, false⟩, some ⟨dO (firstF (loF b (duesF m s) w) k i), 0, false⟩, some ⟨.int i, 0, false⟩, some ⟨.int (loF b (duesF m s) w i), 0, false⟩, some ⟨.int (hiF b (duesF m s) w i), 0, false⟩]) ?_ ?_
      · simp [q, k7, k8]
      generalize loF b (duesF m s) w i = lo at *
      generalize hiF b (duesF m s) w i = hi at *
      generalize firstF (hiF b (duesF m s) w) k i = p1 at *
      generalize firstF (loF b (duesF m s) w) k i = p2 at *
      cases p1 with
      | none =>
        cases p2 with
        | none => by_cases c1 : k ≤ hi <;> by_cases c2 : k ≤ lo <;> simp [c1, c2]
        | some y => by_cases c1 : k ≤ hi <;> simp [c1]
      | some x =>
        cases p2 with
        | none => by_cases c2 : k ≤ lo <;> simp [c2]
        | some y => simp
  have sk : smallI ((turnsF s : Int) + 1) = true := smallI_of (by omega) (by omega)
  have n1 : ((turnsF s : Int) + 1).toNat = turnsF s + 1 := by omega
  have k1 : ¬ k < 1 := by omega
  refine run_of rfl (step (ρ' := [some ⟨dP m s, 0, false⟩, some ⟨dB b, 0, false⟩, some ⟨.int w, 0, false⟩, some ⟨.int k, 0, false⟩, none, none, none, none, none]) ?_ (step (ρ' := [some ⟨dP m s, 0, false⟩, some ⟨dB b, 0, false⟩, some ⟨.int w, 0, false⟩, some ⟨.int k, 0, false⟩, none, none, none, none, none]) ?_
    (step (ρ' := [some ⟨dP m s, 0, false⟩, some ⟨dB b, 0, false⟩, some ⟨.int w, 0, false⟩, some ⟨.int k, 0, false⟩, none, none, none, none, none]) ?_ (step (ρ' := [some ⟨dP m s, 0, false⟩, some ⟨dB b, 0, false⟩, some ⟨.int w, 0, false⟩, some ⟨.int k, 0, false⟩, some ⟨.non, 0, false⟩, none, none, none, none]) ?_
    (step (ρ' := [some ⟨dP m s, 0, false⟩, some ⟨dB b, 0, false⟩, some ⟨.int w, 0, false⟩, some ⟨.int k, 0, false⟩, some ⟨.non, 0, false⟩, some ⟨.non, 0, false⟩, none, none, none]) ?_ (step (ρ' := [some ⟨dP m s, 0, false⟩, some ⟨dB b, 0, false⟩, some ⟨.int w, 0, false⟩, some ⟨.int k, 0, false⟩, some ⟨dO (firstF (hiF b (duesF m s) w) k (turnsF s + 1)), 0, false⟩, some ⟨dO (firstF (loF b (duesF m s) w) k (turnsF s + 1)), 0, false⟩, o6, o7, o8]) ?_ (stop ?_)))))))
  · simp [e0]
  · unfold dP at eC ⊢
    simp [h1, eC]
  · simp [eW, isWD, k1]
  · simp
  · simp
  · unfold dP at ht e ⊢
    simp [h2, ht, sk, n1]
    exact e
  · unfold dWin
    rw [dl]
    simp
theorem window_noC {ck cc wh c t r cC : Nat} (hck : CkB Γ ck) (h1 : Γ.mh cc 0 = true) (hC : CkC Γ cc cC m s) (B : BdOk b) (d1 d2 : D) (a1 : argD d1 = true) (n : inT d1 0 ((m : Int) - 1) = false) :
    runF Γ 9 4 (sWindow ck cc wh c t r) [dP m s, dB b, d1, d2] = .exn ⟨cC, none⟩ := by
  have e0 := hck b B
  have eC := hC d1 a1
  rw [n] at eC
  unfold dP at eC ⊢
  simp at eC
  simp [sWindow, e0, h1, eC]
theorem window_noK {ck cc wh c t r cC : Nat} (hck : CkB Γ ck) (h1 : Γ.mh cc 0 = true) (hC : CkC Γ cc cC m s) (hw : ∀ d, argD d = true → Γ.fn wh [d] = .ok (.bl (isWD d)) 0) (hz : Γ.rz c = true) (B : BdOk b) (d1 d2 : D) (a1 : argD d1 = true) (a2 : argD d2 = true) (y : inT d1 0 ((m : Int) - 1) = true) (n : ∀ z, d2 = .int z → z < 1) :
    runF Γ 9 4 (sWindow ck cc wh c t r) [dP m s, dB b, d1, d2] = .exn ⟨c, none⟩ := by
  have e0 := hck b B
  have eC := hC d1 a1
  rw [y] at eC
  have eW := hw d2 a2
  unfold dP at eC ⊢
  simp at eC
  cases d2 with
  | int z =>
    have := n z rfl
    simp [sWindow, e0, h1, eC, eW, isWD, this, hz]
  | _ => first
    | (cases a2; done)
    | simp [sWindow, e0, h1, eC, eW, isWD, hz]
/-! ### the law's own -/
def dTab (b : Bd) (T : List (List Fr)) : D := .lst (T.map fun r => .lst (r.map fun d => dR (rngB b d)))
def sLFirstL : List St := [.ife (.cmp .ge (.ix (.ix (.ix (.var 0) (.var 4)) (.var 1)) (.var 2)) (.var 3)) [.retv 4] []]
def sLFirst : List St := [.fo .rng1 [.bi .len [.var 0]] [4] [] .imm sLFirstL, .ret (.con .non)]
theorem tab_at {b : Bd} {T : List (List Fr)} {t : Nat} (h : t < T.length) : atD (T.map fun r => D.lst (r.map fun d => dR (rngB b d))) (t : Nat) = .ok (.lst ((T.getD t []).map fun d => dR (rngB b d))) 0 := by
  rw [atD_nat, List.getElem?_map, List.getElem?_eq_getElem h, List.getD_eq_getElem?_getD, List.getElem?_eq_getElem h]
  rfl
theorem row_at {b : Bd} {r : List Fr} {w : Nat} (h : w < r.length) : atD (r.map fun d => dR (rngB b d)) (w : Nat) = .ok (dR (rngB b (r.getD w (0, 1)))) 0 := by
  rw [atD_nat, List.getElem?_map, List.getElem?_eq_getElem h, List.getD_eq_getElem?_getD, List.getElem?_eq_getElem h]
  rfl
theorem lfirst_ok {T : List (List Fr)} (hl : ∀ r ∈ T, r.length = m) (tl : T.length ≤ 1000) {w : Nat} (hw : w < m) (side : Bool) (k : Int) :
    runF Γ 5 4 sLFirst [dTab b T, .int w, .int (if side then 1 else 0), .int k] = .ok (dO (firstF (if side then hiF b T w else loF b T w) k T.length)) 0 := by
  have sk : smallI (T.length : Int) = true := smallI_of (by omega) (by omega)
  obtain ⟨f, hf⟩ : ∃ f : Nat → Int, f = (if side then hiF b T w else loF b T w) := ⟨_, rfl⟩
  have r := forS_find (tg := [4]) (b := exB Γ sLFirstL) (fun _ ρ => ∃ o4, ρ = [some ⟨dTab b T, 0, false⟩, some ⟨.int w, 0, false⟩, some ⟨.int (if side then 1 else 0), 0, false⟩, some ⟨.int k, 0, false⟩, o4] ∧ lkO o4 = false)
    (fun i => decide (k ≤ f i)) (fun i => .rt (.int i) 0) (fun _ => rfl) (xs := rngD 0 T.length) (ρ := [some ⟨dTab b T, 0, false⟩, some ⟨.int w, 0, false⟩, some ⟨.int (if side then 1 else 0), 0, false⟩, some ⟨.int k, 0, false⟩, none]) 0 ⟨none, rfl, rfl⟩ fun i d ρ hd ⟨o4, e, k4⟩ => by
      subst e
      obtain ⟨hi, rfl⟩ := rngD_at hd
      rw [Nat.zero_add]
      have A := tab_at (b := b) hi
      have hr : (T.getD i []).length = m := hl _ (by rw [List.getD_eq_getElem?_getD, List.getElem?_eq_getElem hi]; exact List.getElem_mem hi)
      have R := row_at (b := b) (r := T.getD i []) (w := w) (by omega)
      have ef : f i = if side then highB b ((T.getD i []).getD w (0, 1)) else lowB b ((T.getD i []).getD w (0, 1)) := by rw [hf]; cases side <;> rfl
      refine ⟨[some ⟨dTab b T, 0, false⟩, some ⟨.int w, 0, false⟩, some ⟨.int (if side then 1 else 0), 0, false⟩, some ⟨.int k, 0, false⟩, some ⟨.int i, 0, false⟩], by simp [k4], ?_⟩
      unfold dTab dR rngB at *
      generalize (T.getD i []).getD w (0, 1) = d at *
      generalize T.getD i [] = row at *
      cases side
      · simp only [Bool.false_eq_true, if_false] at ef ⊢
        rw [ef]
        by_cases c : k ≤ lowB b d
        · rw [decide_eq_true c, if_pos rfl]
          simp [sLFirstL, A, R, c]
        · rw [decide_eq_false c, if_neg (by decide)]
          exact ⟨_, .inl (by simp [sLFirstL, A, R, c]; rfl), _, rfl, rfl⟩
      · simp only [if_true] at ef ⊢
        rw [ef]
        by_cases c : k ≤ highB b d
        · rw [decide_eq_true c, if_pos rfl]
          simp [sLFirstL, A, R, c]
        · rw [decide_eq_false c, if_neg (by decide)]
          exact ⟨_, .inl (by simp [sLFirstL, A, R, c]; rfl), _, rfl, rfl⟩
  rw [rngD_len] at r
  have ll : (T.map fun r => D.lst (r.map fun d => dR (rngB b d))).length = T.length := List.length_map _
  rw [← hf]
  rcases r with ⟨i, h1, h2, h3, h4⟩ | ⟨h1, ρ', h2, o4, rfl, h3⟩
  · rw [Nat.zero_add] at h2 h4
    rw [firstF_some (of_decide_eq_true h2) (fun j hj => by have := h3 j hj; rw [Nat.zero_add] at this; exact of_decide_eq_false this) h1]
    refine run_of rfl (stop ?_)
    unfold dTab at h4 ⊢
    simp [ll, sk]
    exact h4
  · rw [firstF_none fun j hj => by have := h1 j hj; rw [Nat.zero_add] at this; exact of_decide_eq_false this]
    refine run_of rfl (step (ρ' := [some ⟨dTab b T, 0, false⟩, some ⟨.int w, 0, false⟩, some ⟨.int (if side then 1 else 0), 0, false⟩, some ⟨.int k, 0, false⟩, o4]) ?_ (stop ?_))
    · unfold dTab at h2 ⊢
      simp [ll, sk]
      exact h2
    · simp
end
end PL
set_option exponentiation.threshold 10000
/-! PL44: a due is at most the number of turns. -/
namespace PL
open PySem L2
def LE (t : Int) (r : List Fr) : Prop := ∀ p ∈ r, p.1 ≤ t * p.2
theorem LE.get {t : Int} {r : List Fr} (ht : 0 ≤ t) (h : LE t r) (i : Nat) : (r.getD i (0, 1)).1 ≤ t * (r.getD i (0, 1)).2 := by
  rw [List.getD_eq_getElem?_getD]
  cases e : r[i]? with
  | none => simpa using ht
  | some p => exact h p (List.mem_of_getElem? e)
theorem sum_ge {ws : List Int} (h : ∀ x ∈ ws, 0 ≤ x ∧ x ≤ 1000) (i : Nat) : ws.getD i 0 ≤ ws.sum := by
  induction ws generalizing i with
  | nil => simp
  | cons x ws ih =>
    have h1 := h x List.mem_cons_self
    have h2 := fun y hy => h y (List.mem_cons_of_mem _ hy)
    have s := (sum_nn h2).1
    rw [List.sum_cons]
    cases i with
    | zero => simp; omega
    | succ i =>
      have := ih h2 i
      simp at this ⊢
      omega
theorem lowF_le {a b t : Int} (hb : 0 < b) (h : a ≤ t * b) : (lowF a b).1 ≤ t * (lowF a b).2 := by
  have L := lowF_low (a := a) hb
  have e := L.eq
  have hp := L.pos
  refine Int.le_of_mul_le_mul_right ?_ hb
  rw [e]
  have := Int.mul_le_mul_of_nonneg_right h (Int.le_of_lt hp)
  calc a * (lowF a b).2 ≤ t * b * (lowF a b).2 := this
    _ = t * (lowF a b).2 * b := by ac_rfl
theorem rowF_le {m M : Nat} {first : List Fr} {p : Nat × List Int} {t i : Int} (ht : 0 ≤ t) (n : NN first) (h : LE t first) (S : SpOk m M p) (hi : 0 ≤ i) : LE (t + i) (rowF first i p.2) := by
  intro q hq
  obtain ⟨who, _, rfl⟩ := List.mem_map.mp hq
  obtain ⟨n1, n2⟩ := n.get who
  have l := h.get ht who
  have w := sum_ge S.w who
  have w0 := w_nn S.w who
  unfold stp
  generalize first.getD who (0, 1) = q at *
  generalize p.2.getD who 0 = c at *
  have hs := S.pos
  generalize p.2.sum = s at *
  refine lowF_le (Int.mul_pos n2 hs) ?_
  have a1 := Int.mul_le_mul_of_nonneg_right l (Int.le_of_lt hs)
  have a2 := Int.mul_le_mul_of_nonneg_left w hi
  have a3 := Int.mul_le_mul_of_nonneg_right a2 (Int.le_of_lt n2)
  calc q.1 * s + i * c * q.2 ≤ t * q.2 * s + i * s * q.2 := Int.add_le_add a1 a3
    _ = (t + i) * (q.2 * s) := by rw [Int.add_mul]; congr 1 <;> ac_rfl
/-- each row's dues are at most its number -/
def NB (T : List (List Fr)) : Prop := ∀ t, t < T.length → LE t (T.getD t [])
theorem gd_last {T : List (List Fr)} (h : T ≠ []) : T.getLastD [] = T.getD (T.length - 1) [] := by
  rw [List.getLastD_eq_getLast?, List.getLast?_eq_getElem?, List.getD_eq_getElem?_getD]
theorem gd_app1 {T X : List (List Fr)} {t : Nat} (h : t < T.length) : (T ++ X).getD t [] = T.getD t [] := by
  rw [List.getD_eq_getElem?_getD, List.getD_eq_getElem?_getD, List.getElem?_append_left h]
theorem gd_app2 {T X : List (List Fr)} {t : Nat} (h : T.length ≤ t) : (T ++ X).getD t [] = X.getD (t - T.length) [] := by
  rw [List.getD_eq_getElem?_getD, List.getD_eq_getElem?_getD, List.getElem?_append_right h]
theorem addSp_nb {m M : Nat} {T : List (List Fr)} {p : Nat × List Int} (hT : T ≠ []) (n : ∀ r ∈ T, NN r) (h : NB T) (S : SpOk m M p) : NB (addSp T p) := by
  intro t ht
  have hl : 0 < T.length := List.length_pos_iff.mpr hT
  unfold addSp at ht ⊢
  by_cases c : t < T.length
  · rw [gd_app1 c]
    exact h t c
  · rw [gd_app2 (by omega)]
    simp only [spellR, List.length_append, List.length_map, List.length_range] at ht
    have e : (spellR (T.getLastD []) p.1 p.2).getD (t - T.length) [] = rowF (T.getLastD []) (1 + ((t - T.length : Nat) : Int)) p.2 := by
      unfold spellR
      rw [List.getD_eq_getElem?_getD, List.getElem?_map, List.getElem?_range (by omega)]
      rfl
    rw [e]
    have k := rowF_le (t := ((T.length - 1 : Nat) : Int)) (i := 1 + ((t - T.length : Nat) : Int)) (by omega) (n _ (last_mem hT)) (by rw [gd_last hT]; exact h _ (by omega)) S (by omega)
    rw [show ((T.length - 1 : Nat) : Int) + (1 + ((t - T.length : Nat) : Int)) = (t : Int) by omega] at k
    exact k
theorem fold_nb {m M : Nat} : ∀ (s : Sps) (T : List (List Fr)), (∀ p ∈ s, SpOk m M p) → T ≠ [] → (∀ r ∈ T, NN r) → NB T → NB (s.foldl addSp T)
  | [], T, _, _, _, h => h
  | p :: s, T, S, hT, n, h => fold_nb s (addSp T p) (fun q hq => S q (List.mem_cons_of_mem _ hq)) (by unfold addSp; simp [hT]) (addSp_nn n (S p List.mem_cons_self)) (addSp_nb hT n h (S p List.mem_cons_self))
theorem duesF_nb {m M : Nat} {s : Sps} (S : SpsOk m M s) : NB (duesF m s) := fold_nb s _ S.sp (by simp) (fun r hr q hq => by
  have e : r = List.replicate m (0, 1) := by simpa using hr
  rw [e] at hq
  rw [(List.mem_replicate.mp hq).2]
  exact ⟨by decide, by decide⟩) fun t ht => by
  have e : t = 0 := by simpa using ht
  subst e
  intro q hq
  have hq' : q ∈ List.replicate m ((0 : Int), (1 : Int)) := by simpa using hq
  rw [(List.mem_replicate.mp hq').2]
  decide
theorem due_le {m M : Nat} {s : Sps} (S : SpsOk m M s) {z : Nat} (w : Nat) (hz : z ≤ turnsF s) : (dueF (duesF m s) z w).1 ≤ z * (dueF (duesF m s) z w).2 := by
  have dl := duesF_len m s
  exact (duesF_nb S z (by omega)).get (by omega) w
/-! ### comprehensions over what is mapped -/
theorem comp_map {α : Type} {tg : List Nat} {elt : Ev → Res} {δ : Ev} (f g : α → D) (n : Nat) : ∀ {l : List α}, (∀ a ∈ l, ∃ δ1, takeE tg (f a) δ = some δ1 ∧ elt δ1 = .ok (g a) n) → compL tg elt (fun _ => .ok true) (l.map f) δ = .ok (l.map fun a => (g a, n))
  | [], _ => rfl
  | a :: l, h => by
    obtain ⟨δ1, e1, e2⟩ := h a List.mem_cons_self
    have ih := comp_map f g n (l := l) fun x hx => h x (List.mem_cons_of_mem _ hx)
    rw [List.map_cons, List.map_cons]
    unfold compL
    rw [e1]
    dsimp only
    rw [e2, ih]
theorem newL_map {α : Type} {g : α → D} {n : Nat} {l : List α} (hl : l.length ≤ 16777216) (hi : ∀ a ∈ l, immB n (g a) = true) : newL (l.map fun a => (g a, n)) = .ok (.lst (l.map g)) 10 := by
  have dp : dep (l.map fun a => (g a, n)) = 9 := dep_imm fun p hp => by
    obtain ⟨d, hd, rfl⟩ := List.mem_map.mp hp
    exact hi d hd
  rw [newL_eq, dp, if_pos (by simpa using hl), List.map_map]
  rfl
@[simp] theorem eq_non : eqD .non .non = true := by unfold eqD; rfl
end PL
set_option exponentiation.threshold 10000
/-! PL45: rows looked at, counts, lags; what is refused. -/
namespace PL
open PySem L2
section
variable {Γ : Fe} {m M : Nat} {s : Sps} {row : List Int}
/-- what is no row: at the first place that cannot stand -/
def badAt (m : Nat) (s : Sps) (xs : List D) (i : Nat) : Bool := decide (turnsF s ≤ i) || !inT (xs.getD i .non) 0 ((m : Int) - 1)
theorem ckRow_bad {t w mn c : Nat} {r0 : St} (ht : Γ.mh t 0 = true) (ht2 : Γ.me t 0 [dP m s] = .ok (.int (turnsF s)) 0) (hm : Γ.mh mn 0 = true) (hm2 : Γ.me mn 0 [dP m s] = .ok (.int m) 0) (hw : ∀ d, argD d = true → Γ.fn w [d] = .ok (.bl (isWD d)) 0) (hr : Γ.ra c = true)
    {xs : List D} (hz : xs.length ≤ 1000) (ha : ∀ d ∈ xs, argD d = true) {j : Nat} (hj : j < xs.length) (h1 : badAt m s xs j = true) (h2 : ∀ i, i < j → badAt m s xs i = false) :
    runF Γ 3 2 (sCkRow t w mn r0 (.raise c (some (.var 2)))) [dP m s, .lst xs] = .exn ⟨c, some (.int j)⟩ := by
  have sk : smallI (xs.length : Int) = true := smallI_of (by omega) (by omega)
  have r := forS_find (tg := [2]) (b := exB Γ (sCkRowL t w mn (.raise c (some (.var 2))))) (fun _ ρ => ∃ o2, ρ = [some ⟨dP m s, 0, false⟩, some ⟨.lst xs, 0, false⟩, o2] ∧ lkO o2 = false)
    (badAt m s xs) (fun i => .exn ⟨c, some (.int i)⟩) (fun _ => rfl) (xs := rngD 0 xs.length) (ρ := [some ⟨dP m s, 0, false⟩, some ⟨.lst xs, 0, false⟩, none]) 0 ⟨none, rfl, rfl⟩ fun i d ρ hd ⟨o2, e, k2⟩ => by
      subst e
      obtain ⟨hi, rfl⟩ := rngD_at hd
      rw [Nat.zero_add]
      have A : atD xs (i : Int) = .ok (xs.getD i .non) 0 := by
        rw [atD_nat, List.getElem?_eq_getElem hi, List.getD_eq_getElem?_getD, List.getElem?_eq_getElem hi]
        rfl
      have aa := ha (xs.getD i .non) (by rw [List.getD_eq_getElem?_getD, List.getElem?_eq_getElem hi]; exact List.getElem_mem hi)
      refine ⟨[some ⟨dP m s, 0, false⟩, some ⟨.lst xs, 0, false⟩, some ⟨.int i, 0, false⟩], by simp [k2], ?_⟩
      have ew := hw _ aa
      unfold badAt
      unfold dP at ht2 hm2 ⊢
      generalize xs.getD i .non = q at *
      by_cases c1 : turnsF s ≤ i
      · have c1' : (turnsF s : Int) ≤ i := by omega
        rw [decide_eq_true c1, Bool.true_or, if_pos rfl]
        simp [sCkRowL, ht, ht2, c1', hr]
      · have c1' : ¬ (turnsF s : Int) ≤ i := by omega
        rw [decide_eq_false c1, Bool.false_or]
        cases q with
        | int z =>
          by_cases z1 : 0 ≤ z
          · by_cases z2 : z < m
            · have z3 : z ≤ (m : Int) - 1 := by omega
              have e : inT (.int z) 0 ((m : Int) - 1) = true := by simp [inT, z1, z3]
              rw [e]
              exact ⟨_, .inl (by simp [sCkRowL, ht, ht2, c1', -atD_0, A, ew, isWD, z1, z2, hm, hm2]; rfl), _, rfl, rfl⟩
            · have z3 : ¬ z ≤ (m : Int) - 1 := by omega
              have e : inT (.int z) 0 ((m : Int) - 1) = false := by simp [inT, z3]
              rw [e]
              simp [sCkRowL, ht, ht2, c1', -atD_0, A, ew, isWD, z1, z2, hm, hm2, hr]
          · have e : inT (.int z) 0 ((m : Int) - 1) = false := by simp [inT, z1]
            rw [e]
            simp [sCkRowL, ht, ht2, c1', -atD_0, A, ew, isWD, z1, hr]
        | _ => first
          | (cases aa; done)
          | simp [sCkRowL, ht, ht2, c1', -atD_0, A, ew, isWD, hr, inT]
  rcases r with ⟨i, a1, a2, a3, a4⟩ | ⟨a1, _⟩
  · rw [Nat.zero_add] at a2 a4
    have ij : i = j := by
      rcases Nat.lt_trichotomy i j with z | z | z
      · rw [h2 i z] at a2; cases a2
      · exact z
      · have := a3 j z
        rw [Nat.zero_add, h1] at this
        cases this
    subst ij
    rw [runF_eq, if_pos (by rfl)]
    show endF (exB Γ (sCkRow t w mn r0 (.raise c (some (.var 2)))) [some ⟨dP m s, 0, false⟩, some ⟨.lst xs, 0, false⟩, none]) = _
    have key : exB Γ (sCkRow t w mn r0 (.raise c (some (.var 2)))) [some ⟨dP m s, 0, false⟩, some ⟨.lst xs, 0, false⟩, none] = .exn ⟨c, some (.int i)⟩ := by
      refine step (ρ' := [some ⟨dP m s, 0, false⟩, some ⟨.lst xs, 0, false⟩, none]) ?_ ?_
      · simp
      · rw [exB_cons]
        have e : exS Γ (.fo .rng1 [.bi .len [.var 1]] [2] [] .imm (sCkRowL t w mn (.raise c (some (.var 2))))) [some ⟨dP m s, 0, false⟩, some ⟨.lst xs, 0, false⟩, none] = .exn ⟨c, some (.int i)⟩ := by
          simp [sk]
          exact a4
        rw [e]
        rfl
    rw [key]
    rfl
  · rw [rngD_len] at a1
    have := a1 j hj
    rw [Nat.zero_add, h1] at this
    cases this
theorem ckRow_no {t w mn c : Nat} {r : St} (hr : Γ.ra c = true) {d : D} (hl : isiD .list d = .ok (.bl false) 0) : runF Γ 3 2 (sCkRow t w mn (.raise c (some (.con (.int 0)))) r) [dP m s, d] = .exn ⟨c, some (.int 0)⟩ := by
  simp [sCkRow, hl, hr]
def sCkWi (w c : Nat) : List St := [.ife (.or (.not (.call w [.var 1])) (.not (.cmp2 .le .le (.con (.int 0)) (.var 1) (.bi .len [.var 0])))) [.raise c none] []]
theorem ckWi_ok {w c : Nat} (hw : ∀ d, argD d = true → Γ.fn w [d] = .ok (.bl (isWD d)) 0) (hr : Γ.rz c = true) (xs : List D) (d : D) (h : argD d = true) :
    runF Γ 2 2 (sCkWi w c) [.lst xs, d] = if inT d 0 xs.length then .ok .non 0 else .exn ⟨c, none⟩ := by
  have e := hw d h
  cases d with
  | int z => by_cases h1 : 0 ≤ z <;> by_cases h2 : z ≤ xs.length <;> simp [sCkWi, e, hr, isWD, inT, h1, h2]
  | _ => first
    | (cases h; done)
    | simp [sCkWi, e, hr, isWD, inT]
/-! ### counts -/
def sCountedL : List St := [.setp 3 [] (.var 4) (.bin .add (.ix (.var 3) (.var 4)) (.con (.int 1))) .imm]
def sCounted (mn : Nat) : List St := [.asg 3 (.bin .mul (.lst [.con (.int 0)]) (.meth mn (.var 0) [])) .imm, .fo .seq [.sl (.var 1) .omit (.var 2)] [4] [] (.fz [1, 2]) sCountedL, .retv 3]
theorem cnt_0 (m : Nat) (r : List Int) : (List.replicate m [D.int 0]).flatten = lI (cntF m r 0) := by
  unfold lI cntF
  apply List.ext_getElem
  · simp
  · intro i h1 h2
    simp
theorem counted_ok {mn : Nat} (hm : Γ.mh mn 0 = true) (hm2 : Γ.me mn 0 [dP m s] = .ok (.int m) 0) (m6 : m ≤ 6) (W : Wi m row) (hz : row.length ≤ 1000) {t : Nat} (ht : t ≤ row.length) :
    runF Γ 5 3 (sCounted mn) [dP m s, .lst (lI row), .int t] = .ok (.lst (lI (cntF m row t))) 1 := by
  have sk : smallI (m : Int) = true := smallI_of (by omega) (by omega)
  have hcut := lI_take row t
  have len : (row.take t).length = t := by rw [List.length_take]; omega
  obtain ⟨ρ', e, o4, rfl, _⟩ := forS_to (tg := [4]) (b := exB Γ sCountedL) (xs := lI (row.take t)) (ρ := [some ⟨dP m s, 0, false⟩, some ⟨.lst (lI row), 0, false⟩, some ⟨.int t, 0, false⟩, some ⟨.lst (lI (cntF m row 0)), 1, false⟩, none])
    (fun i ρ => ∃ o4, ρ = [some ⟨dP m s, 0, false⟩, some ⟨.lst (lI row), 0, false⟩, some ⟨.int t, 0, false⟩, some ⟨.lst (lI (cntF m row i)), 1, false⟩, o4] ∧ lkO o4 = false) 0 ⟨none, rfl, rfl⟩ fun i d ρ hd ⟨o4, e, k4⟩ => by
      subst e
      rw [Nat.zero_add]
      unfold lI at hd
      rw [List.getElem?_map] at hd
      have hi : i < t := by
        rcases Nat.lt_or_ge i t with z | z
        · exact z
        · rw [List.getElem?_eq_none (by omega)] at hd
          cases hd
      have hir : i < row.length := by omega
      rw [List.getElem?_take, if_pos hi, List.getElem?_eq_getElem hir] at hd
      cases hd
      obtain ⟨x0, x1⟩ := W row[i] (List.getElem_mem hir)
      have st := cnt_step W hir
      have cl := cnt_len m row i
      obtain ⟨w, hw⟩ := Int.eq_ofNat_of_zero_le x0
      have hwm : w < m := by omega
      have A := cnt_at (m := m) (r := row) (t := i) (who := w) hwm
      have ix := ixN_nat (n := (cntF m row i).length) (k := (w : Int)) (by omega) (by omega)
      refine ⟨[some ⟨dP m s, 0, false⟩, some ⟨.lst (lI row), 0, false⟩, some ⟨.int t, 0, false⟩, some ⟨.lst (lI (cntF m row i)), 1, false⟩, some ⟨.int w, 0, false⟩], [some ⟨dP m s, 0, false⟩, some ⟨.lst (lI row), 0, false⟩, some ⟨.int t, 0, false⟩, some ⟨.lst (lI (cntF m row (i + 1))), 1, false⟩, some ⟨.int w, 0, false⟩], by rw [hw]; simp [k4], .inl ?_, _, rfl, rfl⟩
      have e2 := set_int (cntF m row i) (row[i].toNat) (((row.take i).count row[i] + 1 : Nat) : Int)
      rw [st, hw, Int.natCast_add, Int.natCast_one] at e2
      simp [sCountedL, A, ix, mutS_eq]
      simpa using e2
  refine run_of rfl (step (ρ' := [some ⟨dP m s, 0, false⟩, some ⟨.lst (lI row), 0, false⟩, some ⟨.int t, 0, false⟩, some ⟨.lst (lI (cntF m row 0)), 1, false⟩, none]) ?_ (step (ρ' := [some ⟨dP m s, 0, false⟩, some ⟨.lst (lI row), 0, false⟩, some ⟨.int t, 0, false⟩, some ⟨.lst (lI (cntF m row t)), 1, false⟩, o4]) ?_ (stop ?_)))
  · have r0 := cnt_0 m row
    unfold dP at hm2 ⊢
    have sz : m ≤ 16777216 := by omega
    simp [hm, hm2, sk, sz, r0]
  · simp [hcut]
    have l2 : (lI (row.take t)).length = t := by rw [← len]; simp [lI]
    rw [Nat.zero_add, l2] at e
    exact e
  · simp
/-! ### counts and lags asked for -/
def sCounts (ck wi co : Nat) : List St := [.ex (.call ck [.var 0, .var 1]), .ex (.call wi [.var 1, .var 2]), .ret (.call co [.var 0, .var 1, .var 2])]
def sLag (ck wi cc mi du co : Nat) : List St := [.ex (.call ck [.var 0, .var 1]), .ex (.call wi [.var 1, .var 2]), .ex (.meth cc (.var 0) [.var 3]), .ret (.call mi [.meth du (.var 0) [.var 2, .var 3], .tup [.ix (.call co [.var 0, .var 1, .var 2]) (.var 3), .con (.int 1)]])]
abbrev CkWi (Γ : Fe) (wi c : Nat) : Prop := ∀ (xs : List D) (d : D), argD d = true → Γ.fn wi [.lst xs, d] = if inT d 0 xs.length then .ok .non 0 else .exn ⟨c, none⟩
theorem counts_ok {ck wi co c : Nat} (h1 : Γ.fn ck [dP m s, .lst (lI row)] = .ok .non 0) (hw : CkWi Γ wi c) {t : Nat} (ht : t ≤ row.length) (hc : Γ.fn co [dP m s, .lst (lI row), .int t] = .ok (.lst (lI (cntF m row t))) 1) :
    runF Γ 3 3 (sCounts ck wi co) [dP m s, .lst (lI row), .int t] = .ok (.lst (lI (cntF m row t))) 1 := by
  have e := hw (lI row) (.int t) rfl
  have l : (lI row).length = row.length := by simp [lI]
  have i : inT (.int (t : Int)) 0 (lI row).length = true := by rw [l]; simp [inT]; omega
  rw [i] at e
  simp at e
  refine run_of rfl (step (ρ' := [some ⟨dP m s, 0, false⟩, some ⟨.lst (lI row), 0, false⟩, some ⟨.int t, 0, false⟩]) ?_ (step (ρ' := [some ⟨dP m s, 0, false⟩, some ⟨.lst (lI row), 0, false⟩, some ⟨.int t, 0, false⟩]) ?_ (stop ?_)))
  · simp [h1]
  · simp [e]
  · simp [hc]
theorem counts_exn1 {ck wi co : Nat} {d1 d2 : D} {x : Exn} (h1 : Γ.fn ck [dP m s, d1] = .exn x) : runF Γ 3 3 (sCounts ck wi co) [dP m s, d1, d2] = .exn x := by
  simp [sCounts, h1]
theorem counts_exn2 {ck wi co c : Nat} {xs : List D} {d2 : D} (h1 : Γ.fn ck [dP m s, .lst xs] = .ok .non 0) (hw : CkWi Γ wi c) (a : argD d2 = true) (n : inT d2 0 xs.length = false) : runF Γ 3 3 (sCounts ck wi co) [dP m s, .lst xs, d2] = .exn ⟨c, none⟩ := by
  have e := hw xs d2 a
  rw [n] at e
  simp at e
  simp [sCounts, h1, e]
theorem lag_exn1 {ck wi cc mi du co : Nat} {d1 d2 d3 : D} {x : Exn} (h1 : Γ.fn ck [dP m s, d1] = .exn x) : runF Γ 4 4 (sLag ck wi cc mi du co) [dP m s, d1, d2, d3] = .exn x := by
  simp [sLag, h1]
theorem lag_exn2 {ck wi cc mi du co c : Nat} {xs : List D} {d2 d3 : D} (h1 : Γ.fn ck [dP m s, .lst xs] = .ok .non 0) (hw : CkWi Γ wi c) (a : argD d2 = true) (n : inT d2 0 xs.length = false) : runF Γ 4 4 (sLag ck wi cc mi du co) [dP m s, .lst xs, d2, d3] = .exn ⟨c, none⟩ := by
  have e := hw xs d2 a
  rw [n] at e
  simp at e
  simp [sLag, h1, e]
theorem lag_exn3 {ck wi cc mi du co c cC : Nat} {xs : List D} {d2 d3 : D} (h1 : Γ.fn ck [dP m s, .lst xs] = .ok .non 0) (hw : CkWi Γ wi c) (a : argD d2 = true) (y : inT d2 0 xs.length = true) (hh : Γ.mh cc 0 = true) (hC : CkC Γ cc cC m s) (a3 : argD d3 = true) (n : inT d3 0 ((m : Int) - 1) = false) :
    runF Γ 4 4 (sLag ck wi cc mi du co) [dP m s, .lst xs, d2, d3] = .exn ⟨cC, none⟩ := by
  have e := hw xs d2 a
  rw [y] at e
  simp at e
  have eC := hC d3 a3
  rw [n] at eC
  unfold dP at eC h1 ⊢
  simp at eC
  simp [sLag, h1, e, hh, eC]
theorem lag_ok {ck wi cc mi du co c cC : Nat} (S : SpsOk m M s) (hM : M ≤ 60) (hz : row.length ≤ 1000) (hR : row.length ≤ turnsF s) (h1 : Γ.fn ck [dP m s, .lst (lI row)] = .ok .non 0) (hw : CkWi Γ wi c) (hh : Γ.mh cc 0 = true) (hC : CkC Γ cc cC m s) {t w : Nat} (ht : t ≤ row.length) (hwm : w < m)
    (hd : Γ.mh du 0 = true) (hdu : ∀ z w : Nat, z ≤ turnsF s → w < m → Γ.me du 0 [dP m s, .int z, .int w] = .ok (dF (dueF (duesF m s) z w)) 0) (hc : Γ.fn co [dP m s, .lst (lI row), .int t] = .ok (.lst (lI (cntF m row t))) 1)
    (hmi : ∀ (p : Fr) (c B : Int), FB B p → B ≤ 10 ^ 100 → c.natAbs ≤ 10 ^ 50 → Γ.fn mi [dF p, .tup [.int c, .int 1]] = .ok (dF (lagP p c)) 9) :
    runF Γ 4 4 (sLag ck wi cc mi du co) [dP m s, .lst (lI row), .int t, .int w] = .ok (dF (lagP (dueF (duesF m s) t w) ((row.take t).count (w : Int) : Nat))) 9 := by
  have e := hw (lI row) (.int t) rfl
  have l : (lI row).length = row.length := by simp [lI]
  have i : inT (.int (t : Int)) 0 (lI row).length = true := by rw [l]; simp [inT]; omega
  rw [i] at e
  simp at e
  have eC := hC (.int w) rfl
  have w3 : (w : Int) ≤ (m : Int) - 1 := by omega
  have w4 : (0 : Int) ≤ w := by omega
  simp [inT, w3, w4] at eC
  have F := due_at S hM (z := t) (w := w) (by omega) hwm
  have eD := hdu t w (by omega) hwm
  have A := cnt_at (m := m) (r := row) (t := t) (who := w) hwm
  have cl : (row.take t).count (w : Int) ≤ 1000 := Nat.le_trans List.count_le_length (by rw [List.length_take]; omega)
  have eM := hmi _ ((row.take t).count (w : Int) : Nat) _ F (by decide) (by omega)
  generalize dueF (duesF m s) t w = d at *
  generalize (row.take t).count (w : Int) = n at *
  refine run_of rfl (step (ρ' := [some ⟨dP m s, 0, false⟩, some ⟨.lst (lI row), 0, false⟩, some ⟨.int t, 0, false⟩, some ⟨.int w, 0, false⟩]) ?_ (step (ρ' := [some ⟨dP m s, 0, false⟩, some ⟨.lst (lI row), 0, false⟩, some ⟨.int t, 0, false⟩, some ⟨.int w, 0, false⟩]) ?_ (step (ρ' := [some ⟨dP m s, 0, false⟩, some ⟨.lst (lI row), 0, false⟩, some ⟨.int t, 0, false⟩, some ⟨.int w, 0, false⟩]) ?_ (stop ?_))))
  · simp [h1]
  · simp [e]
  · unfold dP at eC ⊢
    simp [hh, eC]
  · unfold dP at eD hc ⊢
    simp [hd, eD, hc, A, eM]
end
end PL
/-! PL46: what is like itself. -/
namespace PL
open PySem L2
mutual
theorem eqD_refl : ∀ {n : Nat} {d : D}, shp n d = true → eqD d d = true
  | _, .non, _ => by unfold eqD; rfl
  | _, .bl b, _ => by unfold eqD; simp
  | _, .int i, _ => by unfold eqD; simp
  | _, .str s, _ => by unfold eqD; simp
  | 0, .tup _, h => by simp [shp] at h
  | 0, .lst _, h => by simp [shp] at h
  | n + 1, .tup l, h => by
    unfold shp at h
    unfold eqD
    exact eqDL_refl h
  | n + 1, .lst l, h => by
    unfold shp at h
    unfold eqD
    exact eqDL_refl h
  | 0, .dct _ _, h => by simp [shp] at h
  | n + 1, .dct _ _, h => by simp [shp] at h
  | 0, .obj _ _ _, h => by simp [shp] at h
  | n + 1, .obj _ _ _, h => by simp [shp] at h
  | 0, .exc _ _, h => by simp [shp] at h
  | n + 1, .exc _ _, h => by simp [shp] at h
theorem eqDL_refl : ∀ {n : Nat} {l : List D}, shpL n l = true → eqDL l l = true
  | _, [], _ => by unfold eqDL; rfl
  | n, d :: l, h => by
    unfold shpL at h
    simp only [Bool.and_eq_true] at h
    unfold eqDL
    rw [eqD_refl h.1, eqDL_refl h.2]
    rfl
end
theorem shpL_all {n : Nat} : ∀ {l : List D}, (∀ d ∈ l, shp n d = true) → shpL n l = true
  | [], _ => by unfold shpL; rfl
  | d :: l, h => by
    unfold shpL
    rw [h d List.mem_cons_self, shpL_all fun x hx => h x (List.mem_cons_of_mem _ hx)]
    rfl
theorem shp_lst {n : Nat} {l : List D} (h : ∀ d ∈ l, shp n d = true) : shp (n + 1) (.lst l) = true := by
  unfold shp
  exact shpL_all h
theorem shpT_all {n : Nat} {l : List D} (h : ∀ d ∈ l, shp n d = true) : shp (n + 1) (.tup l) = true := by
  unfold shp
  exact shpL_all h
theorem shp_dF (n : Nat) (p : Fr) : shp (n + 1) (dF p) = true := shpT_all fun d hd => by
  simp only [List.mem_cons, List.not_mem_nil, or_false] at hd
  rcases hd with rfl | rfl <;> exact shp_int _ n
theorem shp_lsI (n : Nat) (l : List Int) : shp (n + 1) (.lst (lI l)) = true := shp_lst fun d hd => by
  obtain ⟨i, _, rfl⟩ := List.mem_map.mp hd
  exact shp_int _ n
theorem shp_lF (n : Nat) (l : List Fr) : shp (n + 2) (.lst (lF l)) = true := shp_lst fun d hd => by
  obtain ⟨i, _, rfl⟩ := List.mem_map.mp hd
  exact shp_dF n i
/-- a thing is like itself -/
theorem cmp_self {d : D} (h : shp 60 d = true) : cmpD .eq d d = .ok (.bl true) 0 ∧ cmpD .ne d d = .ok (.bl false) 0 := by
  rw [cmp_eq, cmp_ne, h, eqD_refl h]
  exact ⟨rfl, rfl⟩
@[simp] theorem nEx_dct (k l : List D) : nEx (.dct k l) = nExL l := by rw [nEx]
@[simp] theorem isi_list_non : isiD .list .non = .ok (.bl false) 0 := rfl
@[simp] theorem isi_list_str (s : Str) : isiD .list (.str s) = .ok (.bl false) 0 := rfl
@[simp] theorem isi_list_dct (l : List D) : isiD .list (.dct [] l) = .ok (.bl false) 0 := rfl
@[simp] theorem isi_list_bl (b : Bool) : isiD .list (.bl b) = .ok (.bl false) 0 := rfl
@[simp] theorem isi_tuple_non : isiD .tuple .non = .ok (.bl false) 0 := rfl
@[simp] theorem isi_tuple_str (s : Str) : isiD .tuple (.str s) = .ok (.bl false) 0 := rfl
@[simp] theorem isi_tuple_bl (b : Bool) : isiD .tuple (.bl b) = .ok (.bl false) 0 := rfl
end PL
set_option exponentiation.threshold 10000
/-! PL47: rows that keep a bound. -/
namespace PL
open PySem L2
section
variable {Γ : Fe} {m M : Nat} {s : Sps} {b : Bd} {row : List Int}
def sLagKeeps (le un : Nat) : List St := [.ife (.ix (.var 0) (.con (.int 1))) [.ret (.call le [.call un [.var 1], .ix (.var 0) (.con (.int 0))])] [], .ret (.not (.call le [.ix (.var 0) (.con (.int 0)), .call un [.var 1]]))]
def keepsP (b : Bd) (p : Fr) : Bool := letsF b (absI p.1) p.2
theorem BdOk.lb (B : BdOk b) : LB b.1 := ⟨B.fb.pos, B.fb.low, by have := B.fb.top; omega⟩
theorem lagKeeps_ok {le un : Nat} (hun : ∀ p, Γ.fn un [dF p] = .ok (dF (uns p)) 9) (hle : ∀ p q : Fr, LB p → LB q → Γ.fn le [dF p, dF q] = .ok (.bl (decide (p.1 * q.2 < q.1 * p.2))) 0) (B : BdOk b) {p : Fr} (P : LB p) : runF Γ 2 2 (sLagKeeps le un) [dB b, dF p] = .ok (.bl (keepsP b p)) 0 := by
  have e1 := hun p
  have e2 := hle (uns p) b.1 P.uns B.lb
  have e3 := hle b.1 (uns p) B.lb P.uns
  have u : (uns p).1 = absI p.1 := rfl
  have v : (uns p).2 = p.2 := rfl
  unfold keepsP letsF
  rw [u, v] at e2 e3
  obtain ⟨q, o⟩ := b
  cases o
  · simp [sLagKeeps, dB, e1, e3]
    rw [Bool.eq_iff_iff]
    simp
  · simp [sLagKeeps, dB, e1, e2]
/-- all rows of a table, one by one, till one is not -/
def sRowsL0 (c : Ex) : List St := [.ife (.not c) [.ret (.con (.bl false))] []]
def sRowsL (c : Ex) : List St := [.fo .seq [.var 3] [4] [] (.fz [3]) (sRowsL0 c)]
theorem row_loop {c : Ex} {K : Fr → Bool} {P : Fr → Prop} {x0 x1 x2 x3 : Sl} (hc : ∀ p, P p → evT Γ (.not c) (viewA [some x0, some x1, some x2, some x3, some ⟨dF p, 0, false⟩]) = .ok (!K p)) : ∀ (r : List Fr) (o4 : Option Sl), lkO o4 = false → (∀ p ∈ r, P p) →
    (r.all K = true ∧ ∃ o4', lkO o4' = false ∧ forS [4] (exB Γ (sRowsL0 c)) (lF r) [some x0, some x1, some x2, some x3, o4] = .nx [some x0, some x1, some x2, some x3, o4']) ∨
    (r.all K = false ∧ forS [4] (exB Γ (sRowsL0 c)) (lF r) [some x0, some x1, some x2, some x3, o4] = .rt (.bl false) 0)
  | [], o4, k4, _ => .inl ⟨rfl, o4, k4, rfl⟩
  | p :: r, o4, k4, h => by
    have hp := hc p (h p List.mem_cons_self)
    have ih := row_loop (K := K) hc r (some ⟨dF p, 0, false⟩) rfl fun q hq => h q (List.mem_cons_of_mem _ hq)
    have tk : takeS [4] (dF p) [some x0, some x1, some x2, some x3, o4] = some [some x0, some x1, some x2, some x3, some ⟨dF p, 0, false⟩] := by simp [k4]
    have eb : exB Γ (sRowsL0 c) [some x0, some x1, some x2, some x3, some ⟨dF p, 0, false⟩] = if K p then .nx [some x0, some x1, some x2, some x3, some ⟨dF p, 0, false⟩] else .rt (.bl false) 0 := by
      unfold sRowsL0
      rw [exB_cons]
      have e : exS Γ (.ife (.not c) [.ret (.con (.bl false))] []) [some x0, some x1, some x2, some x3, some ⟨dF p, 0, false⟩] = if K p then .nx [some x0, some x1, some x2, some x3, some ⟨dF p, 0, false⟩] else .rt (.bl false) 0 := by
        rw [exS, hp]
        cases K p <;> simp
      rw [e]
      cases K p <;> simp
    have ef : forS [4] (exB Γ (sRowsL0 c)) (lF (p :: r)) [some x0, some x1, some x2, some x3, o4] = if K p then forS [4] (exB Γ (sRowsL0 c)) (lF r) [some x0, some x1, some x2, some x3, some ⟨dF p, 0, false⟩] else .rt (.bl false) 0 := by
      show forS [4] (exB Γ (sRowsL0 c)) (dF p :: lF r) _ = _
      rw [forS, tk]
      dsimp only
      rw [eb]
      cases K p <;> rfl
    rw [ef, List.all_cons]
    cases K p with
    | true => simpa using ih
    | false => exact .inr ⟨rfl, rfl⟩
theorem rows_loop {c : Ex} {K : Fr → Bool} {P : Fr → Prop} {x0 x1 x2 : Sl} (hc : ∀ p r, P p → evT Γ (.not c) (viewA [some x0, some x1, some x2, some ⟨.lst (lF r), 0, false⟩, some ⟨dF p, 0, false⟩]) = .ok (!K p)) : ∀ (T : List (List Fr)) (o3 o4 : Option Sl), lkO o3 = false → lkO o4 = false → (∀ r ∈ T, ∀ p ∈ r, P p) →
    ((T.all fun r => r.all K) = true ∧ ∃ o3' o4', forS [3] (exB Γ (sRowsL c)) (lT T) [some x0, some x1, some x2, o3, o4] = .nx [some x0, some x1, some x2, o3', o4']) ∨
    ((T.all fun r => r.all K) = false ∧ forS [3] (exB Γ (sRowsL c)) (lT T) [some x0, some x1, some x2, o3, o4] = .rt (.bl false) 0)
  | [], o3, o4, _, _, _ => .inl ⟨rfl, o3, o4, rfl⟩
  | r :: T, o3, o4, k3, k4, h => by
    have tk : takeS [3] (.lst (lF r)) [some x0, some x1, some x2, o3, o4] = some [some x0, some x1, some x2, some ⟨.lst (lF r), 0, false⟩, o4] := by simp [k3]
    have fz0 : ∀ (x : Sl) (k : Nat), k ≠ 3 → frzO [3] k (some x) = some x := fun x k hk => frzO_not (by simp [hk]) _
    have es : exB Γ (sRowsL c) [some x0, some x1, some x2, some ⟨.lst (lF r), 0, false⟩, o4] = (forS [4] (exB Γ (sRowsL0 c)) (lF r) [some x0, some x1, some x2, some ⟨.lst (lF r), 0, false⟩, o4]).seq fun ρ => .nx ρ := by
      unfold sRowsL
      rw [exB_cons]
      have e : exS Γ (.fo .seq [.var 3] [4] [] (.fz [3]) (sRowsL0 c)) [some x0, some x1, some x2, some ⟨.lst (lF r), 0, false⟩, o4] = forS [4] (exB Γ (sRowsL0 c)) (lF r) [some x0, some x1, some x2, some ⟨.lst (lF r), 0, false⟩, o4] := by
        simp [fz0, frzO_not (l := [3]) (k := 4) (by decide)]
      rw [e]
      congr 1
    have ef : forS [3] (exB Γ (sRowsL c)) (lT (r :: T)) [some x0, some x1, some x2, o3, o4] = match exB Γ (sRowsL c) [some x0, some x1, some x2, some ⟨.lst (lF r), 0, false⟩, o4] with
      | .nx ρ2 => forS [3] (exB Γ (sRowsL c)) (lT T) ρ2
      | .ct ρ2 => forS [3] (exB Γ (sRowsL c)) (lT T) ρ2
      | .bk ρ2 => .nx ρ2
      | .rt d n => .rt d n
      | .exn e => .exn e
      | .bad => .bad := by
      show forS [3] (exB Γ (sRowsL c)) (.lst (lF r) :: lT T) _ = _
      rw [forS, tk]
      try rfl
    rw [ef, es, List.all_cons]
    rcases row_loop (K := K) (P := P) (x3 := ⟨.lst (lF r), 0, false⟩) (fun p hp => hc p r hp) r o4 k4 (h r List.mem_cons_self) with ⟨a, o4', k, e⟩ | ⟨a, e⟩
    · rw [e, a]
      have ih := rows_loop (K := K) (P := P) hc T (some ⟨.lst (lF r), 0, false⟩) o4' rfl k fun q hq => h q (List.mem_cons_of_mem _ hq)
      simpa using ih
    · rw [e, a]
      exact .inr ⟨rfl, rfl⟩
def keepsL (b : Bd) (T : List (List Fr)) : Bool := T.all fun r => r.all (keepsP b)
theorem LT.mem {T : List (List Fr)} (L : LT m T) : ∀ r ∈ T, ∀ p ∈ r, LB p := fun r hr p hp => by
  obtain ⟨t, ht, rfl⟩ := List.getElem_of_mem hr
  obtain ⟨w, hw, rfl⟩ := List.getElem_of_mem hp
  have e1 : T.getD t [] = T[t] := by rw [List.getD_eq_getElem?_getD, List.getElem?_eq_getElem ht]; rfl
  have l := L.row t ht
  rw [e1] at l
  have := L.lb t w ht (by omega)
  rw [e1, List.getD_eq_getElem?_getD, List.getElem?_eq_getElem hw] at this
  exact this
def sKeeps (cb cr lg lk : Nat) : List St := [.ex (.call cb [.var 1]), .ex (.call cr [.var 0, .var 2]), .fo .seq [.call lg [.var 0, .var 2]] [3] [] (.fz [0, 2]) (sRowsL (.call lk [.var 1, .var 4])), .ret (.con (.bl true))]
theorem keeps_ok {cb cr lg lk : Nat} {n : Nat} {T : List (List Fr)} (hcb : CkB Γ cb) (hcr : Γ.fn cr [dP m s, .lst (lI row)] = .ok .non 0) (hlg : Γ.fn lg [dP m s, .lst (lI row)] = .ok (.lst (lT T)) n) (hlk : ∀ p, LB p → Γ.fn lk [dB b, dF p] = .ok (.bl (keepsP b p)) 0) (L : LT m T) (B : BdOk b) :
    runF Γ 5 3 (sKeeps cb cr lg lk) [dP m s, dB b, .lst (lI row)] = .ok (.bl (keepsL b T)) 0 := by
  have e0 := hcb b B
  have r := rows_loop (Γ := Γ) (c := .call lk [.var 1, .var 4]) (K := keepsP b) (P := LB) (x0 := ⟨dP m s, 0, false⟩) (x1 := ⟨dB b, 0, false⟩) (x2 := ⟨.lst (lI row), 0, false⟩) (fun p r hp => by
    have := hlk p hp
    simp [this]) T none none rfl rfl L.mem
  unfold keepsL
  rcases r with ⟨a, o3, o4, e⟩ | ⟨a, e⟩
  · rw [a]
    refine run_of rfl (step (ρ' := [some ⟨dP m s, 0, false⟩, some ⟨dB b, 0, false⟩, some ⟨.lst (lI row), 0, false⟩, none, none]) ?_ (step (ρ' := [some ⟨dP m s, 0, false⟩, some ⟨dB b, 0, false⟩, some ⟨.lst (lI row), 0, false⟩, none, none]) ?_ (step (ρ' := [some ⟨dP m s, 0, false⟩, some ⟨dB b, 0, false⟩, some ⟨.lst (lI row), 0, false⟩, o3, o4]) ?_ (stop ?_))))
    · simp [e0]
    · simp [hcr]
    · simp [hlg]
      exact e
    · simp
  · rw [a]
    refine run_of rfl (step (ρ' := [some ⟨dP m s, 0, false⟩, some ⟨dB b, 0, false⟩, some ⟨.lst (lI row), 0, false⟩, none, none]) ?_ (step (ρ' := [some ⟨dP m s, 0, false⟩, some ⟨dB b, 0, false⟩, some ⟨.lst (lI row), 0, false⟩, none, none]) ?_ (stop ?_)))
    · simp [e0]
    · simp [hcr]
    · simp [hlg]
      exact e
theorem keeps_exn {cb cr lg lk : Nat} (hcb : CkB Γ cb) (B : BdOk b) {d : D} {x : Exn} (hcr : Γ.fn cr [dP m s, d] = .exn x) : runF Γ 5 3 (sKeeps cb cr lg lk) [dP m s, dB b, d] = .exn x := by
  have e0 := hcb b B
  simp [sKeeps, e0, hcr]
/-- the law's own -/
def sLDue (lg lk : Nat) : List St := [.fo .seq [.call lg [.var 0, .var 1]] [3] [] (.fz [0, 1]) (sRowsL (.call lk [.var 2, .var 4])), .ret (.con (.bl true))]
theorem ldue_ok {lg lk : Nat} {n : Nat} {T U : List (List Fr)} (hlg : Γ.fn lg [.lst (lT U), .lst (lI row)] = .ok (.lst (lT T)) n) (hlk : ∀ p, LB p → Γ.fn lk [dB b, dF p] = .ok (.bl (keepsP b p)) 0) (L : LT m T) :
    runF Γ 5 3 (sLDue lg lk) [.lst (lT U), .lst (lI row), dB b] = .ok (.bl (keepsL b T)) 0 := by
  have r := rows_loop (Γ := Γ) (c := .call lk [.var 2, .var 4]) (K := keepsP b) (P := LB) (x0 := ⟨.lst (lT U), 0, false⟩) (x1 := ⟨.lst (lI row), 0, false⟩) (x2 := ⟨dB b, 0, false⟩) (fun p r hp => by
    have := hlk p hp
    simp [this]) T none none rfl rfl L.mem
  unfold keepsL
  rcases r with ⟨a, o3, o4, e⟩ | ⟨a, e⟩
  · rw [a]
    refine run_of rfl (step (ρ' := [some ⟨.lst (lT U), 0, false⟩, some ⟨.lst (lI row), 0, false⟩, some ⟨dB b, 0, false⟩, o3, o4]) ?_ (stop ?_))
    · simp [hlg]
      exact e
    · simp
  · rw [a]
    refine run_of rfl (stop ?_)
    simp [hlg]
    exact e
end
/-! ### what the worst is like -/
structure WB (p : Fr) : Prop where
  pos : 0 < p.2
  one : Int.gcd p.1 p.2 = 1
  nn : 0 ≤ p.1
  le : p.1 ≤ 300 * p.2
  lo : p.2 ≤ 10 ^ 15
theorem WB.fold {α : Type} {f : Fr × Nat × Nat → α → Fr × Nat × Nat} : ∀ (l : List α) (s : Fr × Nat × Nat), (∀ s a, a ∈ l → WB s.1 → WB (f s a).1) → WB s.1 → WB (l.foldl f s).1
  | [], s, _, h => h
  | a :: l, s, k, h => WB.fold l (f s a) (fun s b hb => k s b (List.mem_cons_of_mem _ hb)) (k s a List.mem_cons_self h)
theorem wF_wb {m : Nat} {T : List (List Fr)} (h : ∀ t w, t < T.length → w < m → WB (uns ((T.getD t []).getD w (0, 1)))) : WB (wF m T).1 := by
  unfold wF
  refine WB.fold _ _ (fun s t ht hs => ?_) ⟨by decide, by decide, by decide, by decide, by decide⟩
  have ht' : t < T.length := List.mem_range.mp ht
  unfold wRow
  refine WB.fold _ _ (fun s w hw hs => ?_) hs
  have hw' : w < m := List.mem_range.mp hw
  unfold wCell
  split
  · exact h t w ht' hw'
  · exact hs
theorem lags_wb {m M : Nat} {s : Sps} {row : List Int} (S : SpsOk m M s) (hM : M ≤ 60) (hT : turnsF s ≤ 300) (hl : row.length ≤ turnsF s) : ∀ t w, t < (lagsF (duesF m s) m row (row.length + 1)).length → w < m → WB (uns (((lagsF (duesF m s) m row (row.length + 1)).getD t []).getD w (0, 1))) := fun t w ht hw => by
  have ht' : t < row.length + 1 := by simpa [lagsF] using ht
  have e : ((lagsF (duesF m s) m row (row.length + 1)).getD t []).getD w (0, 1) = lagP (dueF (duesF m s) t w) (((row.take t).count ((w : Nat) : Int) : Nat) : Int) := by
    unfold lagsF
    rw [List.getD_eq_getElem?_getD (l := (List.range _).map _), List.getElem?_map, List.getElem?_range ht']
    show (lagRow _ _ _ _).getD w (0, 1) = _
    unfold lagRow
    rw [List.getD_eq_getElem?_getD, List.getElem?_map, List.getElem?_range hw]
    rfl
  rw [e]
  have F := due_at S hM (z := t) (w := w) (by omega) hw
  have n := due_nn S t w
  have l := due_le S (z := t) w (by omega)
  have c1 : (row.take t).count ((w : Nat) : Int) ≤ (row.take t).length := List.count_le_length
  rw [List.length_take] at c1
  generalize dueF (duesF m s) t w = p at *
  generalize (row.take t).count ((w : Nat) : Int) = c at *
  have g := lagP_gcd (c : Int) F.one
  have q := F.pos
  have b1 : (t : Int) * p.2 ≤ 300 * p.2 := Int.mul_le_mul_of_nonneg_right (by omega) (Int.le_of_lt q)
  have b2 : (c : Int) * p.2 ≤ 300 * p.2 := Int.mul_le_mul_of_nonneg_right (by omega) (Int.le_of_lt q)
  have b3 : 0 ≤ (c : Int) * p.2 := Int.mul_nonneg (by omega) (Int.le_of_lt q)
  unfold uns lagP at *
  dsimp only at *
  generalize (c : Int) * p.2 = x at *
  generalize (t : Int) * p.2 = y at *
  split
  · exact ⟨q, by simpa using g, by dsimp only; omega, by dsimp only; omega, F.low⟩
  · exact ⟨q, g, by dsimp only; omega, by dsimp only; omega, F.low⟩
theorem keeps_nil {m M : Nat} {s : Sps} (S : SpsOk m M s) (b : Bd) : keepsL b (lagsF (duesF m s) m [] 1) = keepsP b (0, 1) := by
  have m1 := S.m1
  have d0 := duesF_0 m s
  have e : ∀ w ∈ List.range m, lagP (((duesF m s).getD 0 []).getD w (0, 1)) (((([] : List Int).take 0).count ((w : Nat) : Int) : Nat) : Int) = (0, 1) := fun w hw => by
    rw [d0, List.getD_eq_getElem?_getD, List.getElem?_replicate, if_pos (List.mem_range.mp hw)]
    rfl
  show (([lagRow (duesF m s) m [] 0] : List (List Fr)).all fun r => r.all (keepsP b)) = _
  unfold lagRow
  rw [List.map_congr_left e]
  cases h : keepsP b (0, 1) with
  | true => simp [h]
  | false =>
    refine List.all_eq_false.mpr ⟨(List.range m).map fun _ => ((0 : Int), (1 : Int)), by simp, ?_⟩
    refine fun z => ?_
    have z2 := List.all_eq_true.mp z (0, 1) (List.mem_map.mpr ⟨0, List.mem_range.mpr (by omega), rfl⟩)
    rw [h] at z2
    cases z2
end PL
set_option exponentiation.threshold 10000
/-! PL48: beginnings, drawn or fair; bounds and ranges of them. -/
namespace PL
open PySem L2
section
variable {Γ : Fe} {m M : Nat} {s : Sps} {b : Bd} {row : List Int}
/-! ### the one that is behind most -/
def sBehindL : List St := [.ife (.cmp .gt (.bin .mul (.ix (.ix (.var 0) (.var 2)) (.con (.int 0))) (.ix (.ix (.var 0) (.var 1)) (.con (.int 1)))) (.bin .mul (.ix (.ix (.var 0) (.var 1)) (.con (.int 0))) (.ix (.ix (.var 0) (.var 2)) (.con (.int 1))))) [.asg 1 (.var 2) .imm] []]
def sBehind : List St := [.asg 1 (.con (.int 0)) .imm, .fo .rng1 [.bi .len [.var 0]] [2] [] .imm sBehindL, .retv 1]
theorem behind_ok {r : List Fr} (hl : r.length = m) (m1 : 1 ≤ m) (m6 : m ≤ 6) (h : ∀ p ∈ r, LB p) : ∃ w, w < m ∧ runF Γ 3 1 sBehind [.lst (lF r)] = .ok (.int (w : Nat)) 0 := by
  have sk : smallI (m : Int) = true := smallI_of (by omega) (by omega)
  have hg : ∀ i, i < m → LB (r.getD i (0, 1)) := fun i hi => by
    rw [List.getD_eq_getElem?_getD, List.getElem?_eq_getElem (by omega)]
    exact h _ (List.getElem_mem _)
  obtain ⟨ρ', e, w, o2, rfl, hw, _⟩ := for_rng (tg := [2]) (b := exB Γ sBehindL) (lo := 0) (n := m) (ρ := [some ⟨.lst (lF r), 0, false⟩, some ⟨.int 0, 0, false⟩, none])
    (fun _ ρ => ∃ (w : Nat) (o2 : Option Sl), ρ = [some ⟨.lst (lF r), 0, false⟩, some ⟨.int w, 0, false⟩, o2] ∧ w < m ∧ lkO o2 = false) ⟨0, none, rfl, by omega, rfl⟩ fun i ρ hi ⟨w, o2, e, hw, k2⟩ => by
      subst e
      have A := lF_at (l := r) (i := i) (by omega)
      have C := lF_at (l := r) (i := w) (by omega)
      have P := hg i hi
      have Q := hg w hw
      generalize r.getD i (0, 1) = p at *
      generalize r.getD w (0, 1) = q at *
      have a1 := P.top
      have a2 := P.low
      have a3 := P.pos
      have b1 := Q.top
      have b2 := Q.low
      have b3 := Q.pos
      have n1 : mulOk p.1 q.2 = true := small_mul (by omega) (by omega)
      have n2 : mulOk q.1 p.2 = true := small_mul (by omega) (by omega)
      by_cases c : q.1 * p.2 < p.1 * q.2
      · exact ⟨_, _, by simp [k2]; rfl, .inl (by simp [sBehindL, A, C, dF, n1, n2, c]), i, some ⟨.int i, 0, false⟩, rfl, hi, rfl⟩
      · exact ⟨_, _, by simp [k2]; rfl, .inl (by simp [sBehindL, A, C, dF, n1, n2, c]), w, some ⟨.int i, 0, false⟩, rfl, hw, rfl⟩
  have ll : (lF r).length = m := by rw [lF_len]; exact hl
  refine ⟨w, hw, run_of rfl (step (ρ' := [some ⟨.lst (lF r), 0, false⟩, some ⟨.int 0, 0, false⟩, none]) ?_ (step (ρ' := [some ⟨.lst (lF r), 0, false⟩, some ⟨.int w, 0, false⟩, o2]) ?_ (stop ?_)))⟩
  · simp
  · generalize lF r = L at *
    simp [ll, sk]
    exact e
  · simp
/-! ### a beginning -/
def sBeginX : Ex := .tup [.bin .sub (.ix (.var 7) (.con (.int 0))) (.bin .mul (.bm .count (.var 2) [.var 6]) (.ix (.var 7) (.con (.int 1)))), .ix (.var 7) (.con (.int 1))]
def sBeginL (d bh : Nat) : List St := [.asg 5 (.comp .enum [.ix (.var 1) (.bin .add (.var 4) (.con (.int 1)))] [6, 7] sBeginX) .imm, .ife (.and (.var 3) (.cmp .gt (.call d [.var 0, .bin .add (.con (.int 9)) (.var 4), .con (.int 5)]) (.con (.int 0)))) [.app 2 [] (.call bh [.var 5]) .imm] [.app 2 [] (.call d [.var 0, .bin .add (.con (.int 3)) (.var 4), .bi .len [.var 5]]) .imm]]
def sBegin (d bh : Nat) : List St := [.asg 2 (.lst []) (.fz []), .asg 3 (.cmp .lt (.call d [.var 0, .con (.int 1), .con (.int 4)]) (.con (.int 2))) .imm, .fo .rng1 [.call d [.var 0, .con (.int 0), .bi .len [.var 1]]] [4] [] .imm (sBeginL d bh), .retv 2]
/-- lags behind a row, of a table's row -/
def owed (r : List Fr) (l : List Int) : List Fr := (List.range r.length).map fun w : Nat => lagP (r.getD w (0, 1)) ((l.count ((w : Nat) : Int) : Nat) : Int)
theorem lagP_lb {p : Fr} (P : FB (10 ^ 15) p) {c : Nat} (hc : c ≤ 1000) : LB (lagP p c) := by
  have a1 := P.top
  have a2 := P.low
  have a3 := P.pos
  have : ((c : Int) * p.2).natAbs ≤ 1000 * 10 ^ 15 := by
    rw [Int.natAbs_mul]
    exact Nat.mul_le_mul (by omega) (by omega)
  refine ⟨a3, Int.le_trans a2 (by decide), ?_⟩
  unfold lagP
  dsimp only
  omega
theorem begin_ok {d bh : Nat} {Γd : Fe} (hD : Γ.fn d = runF Γd 6 3 sDraw) (hbh : ∀ r : List Fr, r.length = m → (∀ p ∈ r, LB p) → ∃ w, w < m ∧ Γ.fn bh [.lst (lF r)] = .ok (.int (w : Nat)) 0) (m1 : 1 ≤ m) (m6 : m ≤ 6) {T : List (List Fr)} (tb : TB (10 ^ 15) m T) (tl : T.length ≤ 900) (c : Int) :
    ∃ l, runF Γ 8 2 (sBegin d bh) [.int c, .lst (lT T)] = .ok (.lst (lI l)) 10 ∧ l.length < T.length ∧ Wi m l := by
  have T0 : 0 < T.length := List.length_pos_iff.mpr tb.ne
  obtain ⟨k1, ek1, _, _⟩ := draw_ok c 1 4 (by decide) (by decide) (by decide) (by decide)
  obtain ⟨n, en, n0, n1⟩ := draw_ok c 0 (T.length : Nat) (by decide) (by decide) (by omega) (by omega)
  have ek1 := ek1 Γd
  have en := en Γd
  rw [← hD] at ek1 en
  obtain ⟨n, rfl⟩ := Int.eq_ofNat_of_zero_le n0
  have hn : n < T.length := by omega
  obtain ⟨ρ', e, l, o4, o5, rfl, hl, hW, _⟩ := for_rng (tg := [4]) (b := exB Γ (sBeginL d bh)) (lo := 0) (n := n) (ρ := [some ⟨.int c, 0, false⟩, some ⟨.lst (lT T), 0, false⟩, some ⟨.lst (lI []), 10, false⟩, some ⟨.bl (decide (k1 < 2)), 0, false⟩, none, none, none, none])
    (fun i ρ => ∃ (l : List Int) (o4 o5 : Option Sl), ρ = [some ⟨.int c, 0, false⟩, some ⟨.lst (lT T), 0, false⟩, some ⟨.lst (lI l), 10, false⟩, some ⟨.bl (decide (k1 < 2)), 0, false⟩, o4, o5, none, none] ∧ l.length = i ∧ Wi m l ∧ lkO o4 = false ∧ lkO o5 = false) ⟨[], none, none, rfl, rfl, fun x hx => (by cases hx), rfl, rfl⟩ fun i ρ hi ⟨l, o4, o5, e, hl, hW, j4, j5⟩ => by
      subst e
      have ht : i + 1 < T.length := by omega
      have A := lT_at (T := T) (t := i + 1) ht
      obtain ⟨r1, r2⟩ := tb.row (t := i + 1) ht
      generalize T.getD (i + 1) [] = r at *
      have cc : ∀ a0 a1 a3 a4 a5 : Option D, compL [6, 7] (evE Γ sBeginX) (fun _ => .ok true) ((lF r).zipIdx.map fun p => D.tup [.int (p.2 : Nat), p.1]) [a0, a1, some (.lst (lI l)), a3, a4, a5, none, none] = .ok ((owed r l).map fun p => (dF p, 9)) := fun a0 a1 a3 a4 a5 => by
        have h := compL_to (fun w => (dF (lagP (r.getD w (0, 1)) ((l.count ((w : Nat) : Int) : Nat) : Int)), 9)) (tg := [6, 7]) (elt := evE Γ sBeginX) (cnd := fun _ => .ok true) (δ := [a0, a1, some (.lst (lI l)), a3, a4, a5, none, none]) (xs := (lF r).zipIdx.map fun p => D.tup [.int (p.2 : Nat), p.1]) 0 fun w x hx => by
          rw [List.getElem?_map, List.getElem?_zipIdx] at hx
          cases ew : (lF r)[w]? with
          | none => rw [ew] at hx; cases hx
          | some y =>
            rw [ew] at hx
            cases hx
            unfold lF at ew
            rw [List.getElem?_map] at ew
            cases er : r[w]? with
            | none => rw [er] at ew; cases ew
            | some p =>
              rw [er] at ew
              cases ew
              have P := r2 p (List.mem_of_getElem? er)
              have cl : l.count ((w : Nat) : Int) ≤ 1000 := Nat.le_trans List.count_le_length (by omega)
              have mk : mulOk ((l.count ((w : Nat) : Int) : Nat) : Int) p.2 = true := small_mul (by omega) (by have := P.pos; have := P.low; omega)
              rw [Nat.zero_add, List.getD_eq_getElem?_getD, er]
              exact ⟨_, rfl, rfl, by simp [sBeginX, dF, mk, lagP]⟩
        rw [h]
        congr 1
        unfold owed
        rw [List.map_map]
        have : ((lF r).zipIdx.map fun p => D.tup [.int (p.2 : Nat), p.1]).length = r.length := by simp
        rw [this]
        simp
      have ol : (owed r l).length = m := by simp [owed, r1]
      have nF := newL_frs (T := owed r l) (by omega)
      have oL : ∀ p ∈ owed r l, LB p := fun p hp => by
        obtain ⟨w, hw, rfl⟩ := List.mem_map.mp hp
        have hw' := List.mem_range.mp hw
        have cl : l.count ((w : Nat) : Int) ≤ 1000 := Nat.le_trans List.count_le_length (by omega)
        exact lagP_lb (FB.get r2 hw') cl
      obtain ⟨k9, ek9, _, _⟩ := draw_ok c (9 + (i : Int)) 5 (by omega) (by omega) (by decide) (by decide)
      obtain ⟨k3, ek3, k30, k31⟩ := draw_ok c (3 + (i : Int)) (m : Nat) (by omega) (by omega) (by omega) (by omega)
      have ek9 := ek9 Γd
      have ek3 := ek3 Γd
      rw [← hD] at ek9 ek3
      obtain ⟨w, hw, eb⟩ := hbh (owed r l) ol oL
      have lol : (lF (owed r l)).length = m := by rw [lF_len]; exact ol
      have A' : atD (lT T) ((i : Int) + 1) = .ok (.lst (lF r)) 0 := A
      have hll : (lI l).length < 16777216 := by simp [lI]; omega
      have fin : ∃ x : Int, 0 ≤ x ∧ x < m ∧ exB Γ (sBeginL d bh) [some ⟨.int c, 0, false⟩, some ⟨.lst (lT T), 0, false⟩, some ⟨.lst (lI l), 10, false⟩, some ⟨.bl (decide (k1 < 2)), 0, false⟩, some ⟨.int i, 0, false⟩, o5, none, none] = .nx [some ⟨.int c, 0, false⟩, some ⟨.lst (lT T), 0, false⟩, some ⟨.lst (lI (l ++ [x])), 10, false⟩, some ⟨.bl (decide (k1 < 2)), 0, false⟩, some ⟨.int i, 0, false⟩, some ⟨.lst (lF (owed r l)), 10, false⟩, none, none] := by
        have s1 : exS Γ (.asg 5 (.comp .enum [.ix (.var 1) (.bin .add (.var 4) (.con (.int 1)))] [6, 7] sBeginX) .imm) [some ⟨.int c, 0, false⟩, some ⟨.lst (lT T), 0, false⟩, some ⟨.lst (lI l), 10, false⟩, some ⟨.bl (decide (k1 < 2)), 0, false⟩, some ⟨.int i, 0, false⟩, o5, none, none] = .nx [some ⟨.int c, 0, false⟩, some ⟨.lst (lT T), 0, false⟩, some ⟨.lst (lI l), 10, false⟩, some ⟨.bl (decide (k1 < 2)), 0, false⟩, some ⟨.int i, 0, false⟩, some ⟨.lst (lF (owed r l)), 10, false⟩, none, none] := by
          simp [-newL_eq, A', compD, cc, nF, j5]
        have ap : ∀ x : Int, lI l ++ [.int x] = lI (l ++ [x]) := fun x => by simp [lI]
        generalize lF (owed r l) = O at *
        by_cases c1 : k1 < 2
        · by_cases c2 : 0 < k9
          · refine ⟨w, by omega, by omega, step s1 (step ?_ (exB_nil _ _))⟩
            have a := ap w
            generalize lI (l ++ [(w : Int)]) = Q at *
            generalize lI l = P at *
            simp [c1, ek9, c2, eb, mutS_eq, pathOk_eq, hll, a]
          · refine ⟨k3, k30, by omega, step s1 (step ?_ (exB_nil _ _))⟩
            have a := ap k3
            generalize lI (l ++ [k3]) = Q at *
            generalize lI l = P at *
            simp [c1, ek9, c2, lol, ek3, mutS_eq, pathOk_eq, hll, a]
        · refine ⟨k3, k30, by omega, step s1 (step ?_ (exB_nil _ _))⟩
          have a := ap k3
          generalize lI (l ++ [k3]) = Q at *
          generalize lI l = P at *
          simp [c1, lol, ek3, mutS_eq, pathOk_eq, hll, a]
      obtain ⟨x, x0, x1, ef⟩ := fin
      exact ⟨_, _, by simp [j4], .inl ef, l ++ [x], some ⟨.int i, 0, false⟩, some ⟨.lst (lF (owed r l)), 10, false⟩, rfl, by simp [hl], hW.app fun y hy => by simp at hy; omega, rfl, rfl⟩
  have sk : smallI (n : Int) = true := smallI_of (by omega) (by omega)
  have ll : (lT T).length = T.length := lT_len T
  refine ⟨l, run_of rfl (step (ρ' := [some ⟨.int c, 0, false⟩, some ⟨.lst (lT T), 0, false⟩, some ⟨.lst (lI []), 10, false⟩, none, none, none, none, none]) ?_ (step (ρ' := [some ⟨.int c, 0, false⟩, some ⟨.lst (lT T), 0, false⟩, some ⟨.lst (lI []), 10, false⟩, some ⟨.bl (decide (k1 < 2)), 0, false⟩, none, none, none, none]) ?_ (step (ρ' := [some ⟨.int c, 0, false⟩, some ⟨.lst (lT T), 0, false⟩, some ⟨.lst (lI l), 10, false⟩, some ⟨.bl (decide (k1 < 2)), 0, false⟩, o4, o5, none, none]) ?_ (stop ?_)))), by omega, hW⟩
  · simp [lI]
  · simp [ek1]
  · simp [en, sk]
    exact e
  · simp
end
end PL
set_option exponentiation.threshold 10000
/-! PL49: a bound for a beginning, ranges of beginnings. -/
namespace PL
open PySem L2
section
variable {Γ : Fe} {m M : Nat} {s : Sps} {b : Bd} {row : List Int}
def mosts5 : List D := [dF (1, 1), dF (1, 2), dF (3, 2), dF (2, 1), dF (4, 1)]
theorem mosts5_ok {d : D} (h : d ∈ mosts5) (o : Bool) : ∃ p : Fr, d = dF p ∧ BdOk (p, o) := by
  simp only [mosts5, List.mem_cons, List.not_mem_nil, or_false] at h
  cases o <;> rcases h with h | h | h | h | h <;> exact ⟨_, h, ⟨⟨by decide, by decide, by decide, by decide⟩, by decide, by decide⟩⟩
def sOnB1 (d low : Nat) : List St := [.asg 4 (.bin .add (.bi .len [.var 2]) (.call d [.var 0, .con (.int 3), .bin .sub (.bi .len [.var 1]) (.bi .len [.var 2])])) .imm, .asg 5 (.call d [.var 0, .con (.int 4), .bi .len [.ix (.var 1) (.con (.int 0))]]) .imm, .asg 6 (.ix (.ix (.var 1) (.var 4)) (.var 5)) (.fz [1, 4, 5]), .asg 7 (.bi .abs [.bin .sub (.ix (.var 6) (.con (.int 0))) (.bin .mul (.bin .add (.bm .count (.var 2) [.var 5]) (.call d [.var 0, .con (.int 6), .con (.int 3)])) (.ix (.var 6) (.con (.int 1))))]) .imm, .asg 3 (.call low [.var 7, .ix (.var 6) (.con (.int 1))]) .imm]
def sOnB (d low : Nat) : List St := [.asg 3 (.ix (.lst [.tup [.con (.int 1), .con (.int 1)], .tup [.con (.int 1), .con (.int 2)], .tup [.con (.int 3), .con (.int 2)], .tup [.con (.int 2), .con (.int 1)], .tup [.con (.int 4), .con (.int 1)]]) (.call d [.var 0, .con (.int 2), .con (.int 5)])) (.fz [0]), .ife (.cmp .gt (.call d [.var 0, .con (.int 1), .con (.int 3)]) (.con (.int 0))) (sOnB1 d low) [], .ret (.tup [.var 3, .cmp .eq (.call d [.var 0, .con (.int 5), .con (.int 2)]) (.con (.int 1))])]
theorem onB_ok {d low : Nat} {Γd : Fe} (hD : Γ.fn d = runF Γd 6 3 sDraw) (hlow : ∀ a b : Int, 0 < b → b.natAbs ≤ 10 ^ 250 → Γ.fn low [.int a, .int b] = .ok (dF (lowF a b)) 9) (m1 : 1 ≤ m) (m6 : m ≤ 6) {T : List (List Fr)} (tb : TB (10 ^ 15) m T) (nb : NB T) (nn : ∀ r ∈ T, NN r) (tl : T.length ≤ 290) (rl : row.length < T.length) (c : Int) :
    ∃ b, BdOk b ∧ runF Γ 8 3 (sOnB d low) [.int c, .lst (lT T), .lst (lI row)] = .ok (dB b) 9 := by
  have T0 : 0 < T.length := List.length_pos_iff.mpr tb.ne
  obtain ⟨r1, _⟩ := tb.row (t := 0) T0
  obtain ⟨k1, ek1, _, _⟩ := draw_ok c 1 3 (by decide) (by decide) (by decide) (by decide)
  obtain ⟨k2, ek2, k20, k25⟩ := draw_ok c 2 5 (by decide) (by decide) (by decide) (by decide)
  obtain ⟨k3, ek3, k30, k31⟩ := draw_ok c 3 ((T.length : Int) - row.length) (by decide) (by decide) (by omega) (by omega)
  obtain ⟨k4, ek4, k40, k41⟩ := draw_ok c 4 (m : Nat) (by decide) (by decide) (by omega) (by omega)
  obtain ⟨k5, ek5, _, _⟩ := draw_ok c 5 2 (by decide) (by decide) (by decide) (by decide)
  obtain ⟨k6, ek6, k60, k61⟩ := draw_ok c 6 3 (by decide) (by decide) (by decide) (by decide)
  have ek1 := ek1 Γd
  have ek2 := ek2 Γd
  have ek3 := ek3 Γd
  have ek4 := ek4 Γd
  have ek5 := ek5 Γd
  have ek6 := ek6 Γd
  rw [← hD] at ek1 ek2 ek3 ek4 ek5 ek6
  obtain ⟨k3, rfl⟩ := Int.eq_ofNat_of_zero_le k30
  obtain ⟨w, rfl⟩ := Int.eq_ofNat_of_zero_le k40
  obtain ⟨x, hx, ex⟩ := at_mem (l := mosts5) k20 (by simpa [mosts5] using k25)
  obtain ⟨p2, rfl, B2⟩ := mosts5_ok hx (decide (k5 = 1))
  have ex' : atD [.tup [.int 1, .int 1], .tup [.int 1, .int 2], .tup [.int 3, .int 2], .tup [.int 2, .int 1], .tup [.int 4, .int 1]] k2 = .ok (dF p2) 0 := ex
  by_cases hw : 0 < k1
  · obtain ⟨t, ht⟩ : ∃ t, row.length + k3 = t := ⟨_, rfl⟩
    have h3 : t < T.length := by omega
    obtain ⟨q1, q2⟩ := tb.row h3
    have h4 : w < (T.getD t []).length := by omega
    have A0 : atD (lT T) 0 = .ok (.lst (lF (T.getD 0 []))) 0 := lT_at T0
    have A3 := lT_at h3
    have A4 := lF_at h4
    have P := FB.get q2 h4
    have lep := (nb t h3).get (by omega) w
    have nnp := (nn (T.getD t []) (by rw [List.getD_eq_getElem?_getD, List.getElem?_eq_getElem h3]; exact List.getElem_mem h3)).get w
    have l0 : (lF (T.getD 0 [])).length = m := by rw [lF_len]; exact r1
    have ll : (lI row).length = row.length := by simp [lI]
    generalize T.getD 0 [] = row0 at *
    generalize (T.getD t []).getD w (0, 1) = p at *
    generalize T.getD t [] = row3 at *
    have cl : row.count (w : Int) ≤ row.length := List.count_le_length
    have cnt : bmD .count (lI row) [.int (w : Int)] = .ok (.int (row.count (w : Int) : Nat)) 0 := by simp
    generalize row.count (w : Int) = n at *
    have pp := P.pos
    have pl := P.low
    have pt := P.top
    have b1 : ((n : Int) + k6) * p.2 ≤ 300 * p.2 := Int.mul_le_mul_of_nonneg_right (by omega) (Int.le_of_lt pp)
    have b2 : 0 ≤ ((n : Int) + k6) * p.2 := Int.mul_nonneg (by omega) (Int.le_of_lt pp)
    have b3 : (t : Int) * p.2 ≤ 300 * p.2 := Int.mul_le_mul_of_nonneg_right (by omega) (Int.le_of_lt pp)
    have mk : mulOk ((n : Int) + k6) p.2 = true := small_mul (by omega) (by omega)
    obtain ⟨far, hf⟩ : ∃ far : Int, (if p.1 - ((n : Int) + k6) * p.2 < 0 then -(p.1 - ((n : Int) + k6) * p.2) else p.1 - ((n : Int) + k6) * p.2) = far := ⟨_, rfl⟩
    have f1 : 0 ≤ far ∧ far ≤ 300 * p.2 := by
      rw [← hf]
      generalize ((n : Int) + k6) * p.2 = y at *
      generalize (t : Int) * p.2 = y2 at *
      have := nnp.1
      split <;> omega
    have el := hlow far p.2 pp (by omega)
    have nn2 := lowF_nn f1.1 pp
    refine ⟨(lowF far p.2, decide (k5 = 1)), ⟨lowF_fb pp (by omega) (by omega), nn2.1, lowF_le pp f1.2⟩, ?_⟩
    have ht' : (row.length : Int) + (k3 : Int) = (t : Int) := by omega
    have e1 : exB Γ (sOnB1 d low) [some ⟨.int c, 0, false⟩, some ⟨.lst (lT T), 0, false⟩, some ⟨.lst (lI row), 0, false⟩, some ⟨dF p2, 0, false⟩, none, none, none, none] = .nx [some ⟨.int c, 0, false⟩, some ⟨.lst (lT T), 0, false⟩, some ⟨.lst (lI row), 0, false⟩, some ⟨dF (lowF far p.2), 9, false⟩, some ⟨.int t, 0, false⟩, some ⟨.int w, 0, false⟩, some ⟨dF p, 0, false⟩, some ⟨.int far, 0, false⟩] := by
      refine step (ρ' := [some ⟨.int c, 0, false⟩, some ⟨.lst (lT T), 0, false⟩, some ⟨.lst (lI row), 0, false⟩, some ⟨dF p2, 0, false⟩, some ⟨.int t, 0, false⟩, none, none, none]) ?_ (step (ρ' := [some ⟨.int c, 0, false⟩, some ⟨.lst (lT T), 0, false⟩, some ⟨.lst (lI row), 0, false⟩, some ⟨dF p2, 0, false⟩, some ⟨.int t, 0, false⟩, some ⟨.int w, 0, false⟩, none, none]) ?_
        (step (ρ' := [some ⟨.int c, 0, false⟩, some ⟨.lst (lT T), 0, false⟩, some ⟨.lst (lI row), 0, false⟩, some ⟨dF p2, 0, false⟩, some ⟨.int t, 0, false⟩, some ⟨.int w, 0, false⟩, some ⟨dF p, 0, false⟩, none]) ?_ (step (ρ' := [some ⟨.int c, 0, false⟩, some ⟨.lst (lT T), 0, false⟩, some ⟨.lst (lI row), 0, false⟩, some ⟨dF p2, 0, false⟩, some ⟨.int t, 0, false⟩, some ⟨.int w, 0, false⟩, some ⟨dF p, 0, false⟩, some ⟨.int far, 0, false⟩]) ?_ (step ?_ (exB_nil _ _)))))
      · simp [ll, ek3, ht']
      · simp [-atD_0, A0, l0, ek4]
      · simp [A3, A4]
      · simp [-bm_count, cnt, ek6, dF, mk]
        simpa using hf
      · simp [dF] at el ⊢
        simp [el]
    refine run_of rfl (step (ρ' := [some ⟨.int c, 0, false⟩, some ⟨.lst (lT T), 0, false⟩, some ⟨.lst (lI row), 0, false⟩, some ⟨dF p2, 0, false⟩, none, none, none, none]) ?_ (step (ρ' := [some ⟨.int c, 0, false⟩, some ⟨.lst (lT T), 0, false⟩, some ⟨.lst (lI row), 0, false⟩, some ⟨dF (lowF far p.2), 9, false⟩, some ⟨.int t, 0, false⟩, some ⟨.int w, 0, false⟩, some ⟨dF p, 0, false⟩, some ⟨.int far, 0, false⟩]) ?_ (stop ?_)))
    · simp [ek2, ex']
    · simp only [exS]
      have ec : evT Γ (.cmp .gt (.call d [.var 0, .con (.int 1), .con (.int 3)]) (.con (.int 0))) (viewA [some ⟨.int c, 0, false⟩, some ⟨.lst (lT T), 0, false⟩, some ⟨.lst (lI row), 0, false⟩, some ⟨dF p2, 0, false⟩, none, none, none, none]) = .ok true := by simp [ek1, hw]
      rw [ec]
      exact e1
    · simp [ek5, dB]
  · refine ⟨(p2, decide (k5 = 1)), B2, ?_⟩
    refine run_of rfl (step (ρ' := [some ⟨.int c, 0, false⟩, some ⟨.lst (lT T), 0, false⟩, some ⟨.lst (lI row), 0, false⟩, some ⟨dF p2, 0, false⟩, none, none, none, none]) ?_ (step (ρ' := [some ⟨.int c, 0, false⟩, some ⟨.lst (lT T), 0, false⟩, some ⟨.lst (lI row), 0, false⟩, some ⟨dF p2, 0, false⟩, none, none, none, none]) ?_ (stop ?_)))
    · simp [ek2, ex']
    · simp [ek1, hw]
    · simp [ek5, dB]
/-! ### ranges of a beginning -/
def mxI (i j : Int) : Int := if j > i then j else i
def tallyF (m : Nat) (row : List Int) : List Int := (List.range m).map fun w : Nat => ((row.count ((w : Nat) : Int) : Nat) : Int)
def begCell (b : Bd) (row : List Int) (r : List Fr) (w : Nat) : Int × Int := (mxI (row.count ((w : Nat) : Int) : Nat) (lowB b (r.getD w (0, 1))), highB b (r.getD w (0, 1)))
def begRow (b : Bd) (m : Nat) (row : List Int) (r : List Fr) : List D := (List.range m).map fun w => dR (begCell b row r w)
def beg0 (m : Nat) (row : List Int) : List D := (List.range m).map fun w : Nat => dR (((row.count ((w : Nat) : Int) : Nat) : Int), ((row.count ((w : Nat) : Int) : Nat) : Int))
def begT (b : Bd) (m : Nat) (row : List Int) (X : List (List Fr)) : List D := .lst (beg0 m row) :: X.map fun r => .lst (begRow b m row r)
def sBegunX0 : Ex := .bm .count (.var 2) [.var 7]
def sBegunX1 : Ex := .tup [.var 8, .var 8]
def sBegunX2 (rg : Nat) : Ex := .call rg [.var 1, .var 9]
def sBegunX3 : Ex := .tup [.bi .max2 [.ix (.var 3) (.var 7), .ix (.ix (.var 6) (.var 7)) (.con (.int 0))], .ix (.ix (.var 6) (.var 7)) (.con (.int 1))]
def sBegunL (rg : Nat) : List St := [.asg 6 (.comp .seq [.var 5] [9] (sBegunX2 rg)) (.fz [1, 5]), .app 4 [] (.comp .rng1 [.bi .len [.var 3]] [7] sBegunX3) (.fz [3, 6])]
def sBegun (rg : Nat) : List St := [.asg 3 (.comp .rng1 [.bi .len [.ix (.var 0) (.con (.int 0))]] [7] sBegunX0) (.fz [0, 2]), .asg 4 (.lst [.comp .seq [.var 3] [8] sBegunX1]) (.fz [3]), .fo .seq [.sl (.var 0) (.bin .add (.bi .len [.var 2]) (.con (.int 1))) .omit] [5] [] (.fz [0, 2]) (sBegunL rg), .retv 4]
theorem tally_at {w : Nat} (hw : w < m) : atD (lI (tallyF m row)) (w : Nat) = .ok (.int (row.count ((w : Nat) : Int) : Nat)) 0 := by
  have := lI_at (l := tallyF m row) (i := w) (by simp [tallyF]; exact hw)
  rw [this]
  simp [tallyF]
theorem imm_dRs {α : Type} (n : Nat) (f : α → Int × Int) : ∀ l : List α, immBL n (l.map fun a => dR (f a)) = true
  | [] => by simp
  | a :: l => by rw [List.map_cons, immL_cons, imm_dRs n f l]; simp [dR]
theorem begun_ok {rg : Nat} (hrg : ∀ d : Fr, FB (10 ^ 15) d → 0 ≤ d.1 → Γ.fn rg [dB b, dF d] = .ok (dR (rngB b d)) 9) (m1 : 1 ≤ m) (m6 : m ≤ 6) {T : List (List Fr)} (tb : TB (10 ^ 15) m T) (nn : ∀ r ∈ T, NN r) (tl : T.length ≤ 900) (hz : row.length ≤ 900) :
    runF Γ 10 3 (sBegun rg) [.lst (lT T), dB b, .lst (lI row)] = .ok (.lst (begT b m row (T.drop (row.length + 1)))) 10 := by
  have T0 : 0 < T.length := List.length_pos_iff.mpr tb.ne
  obtain ⟨r1, _⟩ := tb.row (t := 0) T0
  have A0 : atD (lT T) 0 = .ok (.lst (lF (T.getD 0 []))) 0 := lT_at T0
  have l0 : (lF (T.getD 0 [])).length = m := by rw [lF_len]; exact r1
  have skm : smallI (m : Int) = true := smallI_of (by omega) (by omega)
  generalize T.getD 0 [] = row0 at *
  have c0 : ∀ a0 a1 a3 a4 a5 a6 a8 a9 : Option D, compL [7] (evE Γ sBegunX0) (fun _ => .ok true) (rngD 0 m) [a0, a1, some (.lst (lI row)), a3, a4, a5, a6, none, a8, a9] = .ok ((tallyF m row).map fun z => (.int z, 0)) := fun a0 a1 a3 a4 a5 a6 a8 a9 => by
    rw [compL_rng (fun w => (.int (row.count ((w : Nat) : Int) : Nat), 0)) fun w hw => ?_]
    · unfold tallyF
      rw [List.map_map]
      rfl
    · rw [Int.zero_add]
      exact ⟨_, takeE_one _ _ _, rfl, by simp [sBegunX0]⟩
  have n0 := newL_ints (T := tallyF m row) (by simp [tallyF]; omega)
  have e0 : ((tallyF m row).map fun z => dR (z, z)) = beg0 m row := by
    unfold tallyF beg0
    rw [List.map_map]
    rfl
  have c1 : ∀ a0 a1 a2 a3 a4 a5 a6 a7 a9 : Option D, compL [8] (evE Γ sBegunX1) (fun _ => .ok true) (lI (tallyF m row)) [a0, a1, a2, a3, a4, a5, a6, a7, none, a9] = .ok ((tallyF m row).map fun z => (dR (z, z), 9)) := fun a0 a1 a2 a3 a4 a5 a6 a7 a9 =>
    comp_map D.int (fun z => dR (z, z)) 9 fun z _ => ⟨_, takeE_one _ _ _, by simp [sBegunX1, dR]⟩
  have n1 := newL_map (g := fun z : Int => dR (z, z)) (n := 9) (l := tallyF m row) (by simp [tallyF]; omega) fun z _ => by simp [dR]
  rw [e0] at n1
  obtain ⟨X, hX⟩ : ∃ X, T.drop (row.length + 1) = X := ⟨_, rfl⟩
  have Xm : ∀ r ∈ X, r ∈ T := fun r hr => by rw [← hX] at hr; exact List.mem_of_mem_drop hr
  have Xl : X.length ≤ 900 := by rw [← hX, List.length_drop]; omega
  obtain ⟨ρ', e, o5, o6, rfl, _⟩ := forS_to (tg := [5]) (b := exB Γ (sBegunL rg)) (xs := lT X) (ρ := [some ⟨.lst (lT T), 0, false⟩, some ⟨dB b, 0, false⟩, some ⟨.lst (lI row), 0, false⟩, some ⟨.lst (lI (tallyF m row)), 0, false⟩, some ⟨.lst (begT b m row []), 10, false⟩, none, none, none, none, none])
    (fun i ρ => ∃ o5 o6, ρ = [some ⟨.lst (lT T), 0, false⟩, some ⟨dB b, 0, false⟩, some ⟨.lst (lI row), 0, false⟩, some ⟨.lst (lI (tallyF m row)), 0, false⟩, some ⟨.lst (begT b m row (X.take i)), 10, false⟩, o5, o6, none, none, none] ∧ lkO o5 = false ∧ lkO o6 = false) 0 ⟨none, none, rfl, rfl, rfl⟩ fun i d ρ hd ⟨o5, o6, e, k5, k6⟩ => by
      subst e
      rw [Nat.zero_add]
      unfold lT at hd
      rw [List.getElem?_map] at hd
      have hi : i < X.length := by
        rcases Nat.lt_or_ge i X.length with z | z
        · exact z
        · rw [List.getElem?_eq_none z] at hd
          cases hd
      rw [List.getElem?_eq_getElem hi] at hd
      cases hd
      have hm := Xm _ (List.getElem_mem hi)
      have et : X.take (i + 1) = X.take i ++ [X[i]] := List.take_succ_eq_append_getElem hi
      have lr := tb.len _ hm
      have fr := tb.fb _ hm
      have nr := nn _ hm
      generalize X[i] = r at *
      have c2 : ∀ a0 a2 a3 a4 a6 a7 a8 : Option D, compL [9] (evE Γ (sBegunX2 rg)) (fun _ => .ok true) (lF r) [a0, some (dB b), a2, a3, a4, some (.lst (lF r)), a6, a7, a8, none] = .ok (r.map fun d => (dR (rngB b d), 9)) := fun a0 a2 a3 a4 a6 a7 a8 =>
        comp_map dF (fun d => dR (rngB b d)) 9 fun d hd => ⟨_, takeE_one _ _ _, by have := hrg d (fr d hd) (nr d hd).1; simp [sBegunX2, this]⟩
      have n2 := newL_map (g := fun d => dR (rngB b d)) (n := 9) (l := r) (by omega) fun d _ => by simp [dR]
      have c3 : ∀ a0 a1 a2 a4 a5 a8 a9 : Option D, compL [7] (evE Γ sBegunX3) (fun _ => .ok true) (rngD 0 m) [a0, a1, a2, some (.lst (lI (tallyF m row))), a4, a5, some (.lst (r.map fun d => dR (rngB b d))), none, a8, a9] = .ok ((List.range m).map fun w => (dR (begCell b row r w), 9)) := fun a0 a1 a2 a4 a5 a8 a9 => by
        refine compL_rng (fun w => (dR (begCell b row r w), 9)) fun w hw => ?_
        have A := tally_at (row := row) hw
        have R : atD (r.map fun d => dR (rngB b d)) (w : Nat) = .ok (.tup [.int (lowB b (r.getD w (0, 1))), .int (highB b (r.getD w (0, 1)))]) 0 := row_at (b := b) (r := r) (w := w) (by omega)
        rw [Int.zero_add]
        refine ⟨_, takeE_one _ _ _, rfl, ?_⟩
        unfold begCell mxI
        generalize r.getD w (0, 1) = d at *
        generalize (r.map fun d => dR (rngB b d)) = L at *
        simp [sBegunX3, A, R, dR]
      have n3 := newL_map (g := fun w => dR (begCell b row r w)) (n := 9) (l := List.range m) (by simp; omega) fun w _ => by simp [dR]
      have ea : begT b m row (X.take i) ++ [.lst (begRow b m row r)] = begT b m row (X.take (i + 1)) := by
        rw [et]
        unfold begT
        rw [List.map_append]
        rfl
      have tlen : (lI (tallyF m row)).length = m := by simp [lI, tallyF]
      have blen : (begT b m row (X.take i)).length < 16777216 := by unfold begT; simp; omega
      have imB : immB 10 (.lst (begRow b m row r)) = true := by
        unfold immB
        exact imm_dRs 9 _ _
      refine ⟨[some ⟨.lst (lT T), 0, false⟩, some ⟨dB b, 0, false⟩, some ⟨.lst (lI row), 0, false⟩, some ⟨.lst (lI (tallyF m row)), 0, false⟩, some ⟨.lst (begT b m row (X.take i)), 10, false⟩, some ⟨.lst (lF r), 0, false⟩, o6, none, none, none], [some ⟨.lst (lT T), 0, false⟩, some ⟨dB b, 0, false⟩, some ⟨.lst (lI row), 0, false⟩, some ⟨.lst (lI (tallyF m row)), 0, false⟩, some ⟨.lst (begT b m row (X.take (i + 1))), 10, false⟩, some ⟨.lst (lF r), 0, false⟩, some ⟨.lst (r.map fun d => dR (rngB b d)), 0, false⟩, none, none, none], by simp [k5], .inl ?_, _, _, rfl, rfl, rfl⟩
      have n3' : newL ((List.range m).map fun w => ((dR (begCell b row r w), 9) : D × Nat)) = .ok (.lst (begRow b m row r)) 10 := n3
      generalize lI (tallyF m row) = TL at *
      generalize begT b m row (X.take i) = BT at *
      generalize begT b m row (X.take (i + 1)) = BT2 at *
      generalize (.lst (begRow b m row r) : D) = BR at *
      generalize (r.map fun d => dR (rngB b d)) = RR at *
      refine step (ρ' := [some ⟨.lst (lT T), 0, false⟩, some ⟨dB b, 0, false⟩, some ⟨.lst (lI row), 0, false⟩, some ⟨.lst TL, 0, false⟩, some ⟨.lst BT, 10, false⟩, some ⟨.lst (lF r), 0, false⟩, some ⟨.lst RR, 10, false⟩, none, none, none]) ?_ (step ?_ (exB_nil _ _))
      · simp [-newL_eq, compD, c2, n2, k6]
      · simp [-newL_eq, compD, tlen, skm, c3, n3', mutS_eq, pathOk_eq, blen, ea, imB]
  have hcut : cutD (lT T) (some ((row.length : Int) + 1)) none = lT X := by
    have := cut_from (lT T) (row.length + 1)
    rw [Int.natCast_add, Int.natCast_one] at this
    rw [this, ← hX]
    unfold lT
    rw [List.map_drop]
  have ll : (lI row).length = row.length := by simp [lI]
  refine run_of rfl (step (ρ' := [some ⟨.lst (lT T), 0, false⟩, some ⟨dB b, 0, false⟩, some ⟨.lst (lI row), 0, false⟩, some ⟨.lst (lI (tallyF m row)), 10, false⟩, none, none, none, none, none, none]) ?_ (step (ρ' := [some ⟨.lst (lT T), 0, false⟩, some ⟨dB b, 0, false⟩, some ⟨.lst (lI row), 0, false⟩, some ⟨.lst (lI (tallyF m row)), 0, false⟩, some ⟨.lst (begT b m row []), 10, false⟩, none, none, none, none, none]) ?_
    (step (ρ' := [some ⟨.lst (lT T), 0, false⟩, some ⟨dB b, 0, false⟩, some ⟨.lst (lI row), 0, false⟩, some ⟨.lst (lI (tallyF m row)), 0, false⟩, some ⟨.lst (begT b m row X), 10, false⟩, o5, o6, none, none, none]) ?_ (stop ?_))))
  · simp [-newL_eq, -atD_0, compD, A0, l0, skm, c0, n0]
  · have im0 : immB 10 (.lst (beg0 m row)) = true := by
      unfold immB
      exact imm_dRs 9 _ _
    generalize lI (tallyF m row) = TL at *
    unfold begT
    generalize (beg0 m row) = BR at *
    have nO : newL [(D.lst BR, 10)] = .ok (.lst [.lst BR]) 10 := by
      rw [newL_eq, dep_cons, im0]
      rfl
    simp [-newL_eq, compD, c1, n1, nO]
  · have lx : (lT X).length = X.length := lT_len X
    rw [Nat.zero_add, lx, List.take_length] at e
    simp [ll, hcut]
    exact e
  · simp [hX]
theorem begT_at0 {w : Nat} (hw : w < m) (X : List (List Fr)) : (atD (begT b m row X) 0).bind (fun x => ixD x (.int (w : Nat))) = .ok (dR (((row.count ((w : Nat) : Int) : Nat) : Int), ((row.count ((w : Nat) : Int) : Nat) : Int))) 0 := by
  have e : atD (begT b m row X) 0 = .ok (.lst (beg0 m row)) 0 := by simp [begT]
  rw [e]
  show atD (beg0 m row) (w : Nat) = _
  rw [atD_nat]
  unfold beg0
  rw [List.getElem?_map, List.getElem?_range hw]
  rfl
theorem begT_at {k w : Nat} (hw : w < m) {X : List (List Fr)} (hk : k < X.length) : (atD (begT b m row X) ((k : Nat) + 1)).bind (fun x => ixD x (.int (w : Nat))) = .ok (dR (begCell b row (X.getD k []) w)) 0 := by
  have e : atD (begT b m row X) ((k : Nat) + 1) = .ok (.lst (begRow b m row (X.getD k []))) 0 := by
    have := atD_nat (begT b m row X) (k + 1)
    rw [Int.natCast_add, Int.natCast_one] at this
    rw [this]
    unfold begT
    rw [List.getElem?_cons_succ, List.getElem?_map, List.getElem?_eq_getElem hk, List.getD_eq_getElem?_getD, List.getElem?_eq_getElem hk]
    rfl
  rw [e]
  show atD (begRow b m row (X.getD k [])) (w : Nat) = _
  rw [atD_nat]
  unfold begRow
  rw [List.getElem?_map, List.getElem?_range hw]
  rfl
end
end PL
set_option exponentiation.threshold 10000
/-! PL50: ranges of a beginning asked for. -/
namespace PL
open PySem L2
section
variable {Γ : Fe} {m M : Nat} {s : Sps} {b : Bd} {row : List Int}
def sBegR (cb cr ct cc du lo hi : Nat) : List St := [.ex (.call cb [.var 1]), .ex (.call cr [.var 0, .var 2]), .ex (.meth ct (.var 0) [.var 3, .bi .len [.var 2]]), .ex (.meth cc (.var 0) [.var 4]), .asg 5 (.bm .count (.var 2) [.var 4]) .imm, .ife (.cmp .eq (.var 3) (.bi .len [.var 2])) [.ret (.tup [.var 5, .var 5])] [], .asg 6 (.meth du (.var 0) [.var 3, .var 4]) (.fz [0, 3, 4]), .ret (.tup [.bi .max2 [.var 5, .call lo [.var 1, .var 6]], .call hi [.var 1, .var 6]])]
def begAt (b : Bd) (T : List (List Fr)) (row : List Int) (t w : Nat) : Int × Int := if t = row.length then (((row.count ((w : Nat) : Int) : Nat) : Int), ((row.count ((w : Nat) : Int) : Nat) : Int)) else begCell b row (T.getD t []) w
theorem begR_ok {cb cr ct cc du lo hi cT cC : Nat} (S : SpsOk m M s) (hM : M ≤ 60) (hcb : CkB Γ cb) (hcr : Γ.fn cr [dP m s, .lst (lI row)] = .ok .non 0) (h1 : Γ.mh ct 0 = true) (h2 : Γ.mh cc 0 = true) (h3 : Γ.mh du 0 = true) (hT : CkT Γ ct cT m s) (hC : CkC Γ cc cC m s)
    (hd : ∀ z w : Nat, z ≤ turnsF s → w < m → Γ.me du 0 [dP m s, .int z, .int w] = .ok (dF (dueF (duesF m s) z w)) 0) (hl : LowOk Γ lo) (hh : HighOk Γ hi) (B : BdOk b) (hz : row.length ≤ 900) {t w : Nat} (t1 : row.length ≤ t) (t2 : t ≤ turnsF s) (hw : w < m) :
    runF Γ 7 5 (sBegR cb cr ct cc du lo hi) [dP m s, dB b, .lst (lI row), .int t, .int w] = .ok (dR (begAt b (duesF m s) row t w)) 9 := by
  have e0 := hcb b B
  have eT := hT (.int t) rfl (row.length : Nat)
  have eC := hC (.int w) rfl
  have w3 : (w : Int) ≤ (m : Int) - 1 := by omega
  have w4 : (0 : Int) ≤ w := by omega
  have z4 : (row.length : Int) ≤ t := by omega
  have z5 : (t : Int) ≤ turnsF s := by omega
  simp [inT, z4, z5, w3, w4] at eT eC
  have ll : (lI row).length = row.length := by simp [lI]
  have eD := hd t w t2 hw
  have F := due_at S hM (z := t) (w := w) t2 hw
  have e1 := hl b _ B F
  have e2 := hh b _ B F
  have cnt : bmD .count (lI row) [.int (w : Int)] = .ok (.int (row.count (w : Int) : Nat)) 0 := by simp
  unfold begAt begCell mxI
  unfold dueF at eD e1 e2
  generalize ((duesF m s).getD t []).getD w (0, 1) = d at *
  generalize row.count (w : Int) = n at *
  by_cases h : t = row.length
  · rw [if_pos h]
    have h' : (t : Int) = row.length := by omega
    refine run_of rfl (step (ρ' := [some ⟨dP m s, 0, false⟩, some ⟨dB b, 0, false⟩, some ⟨.lst (lI row), 0, false⟩, some ⟨.int t, 0, false⟩, some ⟨.int w, 0, false⟩, none, none]) ?_ (step (ρ' := [some ⟨dP m s, 0, false⟩, some ⟨dB b, 0, false⟩, some ⟨.lst (lI row), 0, false⟩, some ⟨.int t, 0, false⟩, some ⟨.int w, 0, false⟩, none, none]) ?_ (step (ρ' := [some ⟨dP m s, 0, false⟩, some ⟨dB b, 0, false⟩, some ⟨.lst (lI row), 0, false⟩, some ⟨.int t, 0, false⟩, some ⟨.int w, 0, false⟩, none, none]) ?_
      (step (ρ' := [some ⟨dP m s, 0, false⟩, some ⟨dB b, 0, false⟩, some ⟨.lst (lI row), 0, false⟩, some ⟨.int t, 0, false⟩, some ⟨.int w, 0, false⟩, none, none]) ?_ (step (ρ' := [some ⟨dP m s, 0, false⟩, some ⟨dB b, 0, false⟩, some ⟨.lst (lI row), 0, false⟩, some ⟨.int t, 0, false⟩, some ⟨.int w, 0, false⟩, some ⟨.int n, 0, false⟩, none]) ?_ (stop ?_))))))
    · simp [e0]
    · simp [hcr]
    · unfold dP at eT ⊢
      generalize lI row = R at *
      simp [h1, ll, eT]
    · unfold dP at eC ⊢
      simp [h2, eC]
    · simp [-bm_count, cnt]
    · generalize lI row = R at *
      simp [ll, h', dR]
  · rw [if_neg h]
    have h' : ¬ (t : Int) = row.length := by omega
    refine run_of rfl (step (ρ' := [some ⟨dP m s, 0, false⟩, some ⟨dB b, 0, false⟩, some ⟨.lst (lI row), 0, false⟩, some ⟨.int t, 0, false⟩, some ⟨.int w, 0, false⟩, none, none]) ?_ (step (ρ' := [some ⟨dP m s, 0, false⟩, some ⟨dB b, 0, false⟩, some ⟨.lst (lI row), 0, false⟩, some ⟨.int t, 0, false⟩, some ⟨.int w, 0, false⟩, none, none]) ?_ (step (ρ' := [some ⟨dP m s, 0, false⟩, some ⟨dB b, 0, false⟩, some ⟨.lst (lI row), 0, false⟩, some ⟨.int t, 0, false⟩, some ⟨.int w, 0, false⟩, none, none]) ?_
      (step (ρ' := [some ⟨dP m s, 0, false⟩, some ⟨dB b, 0, false⟩, some ⟨.lst (lI row), 0, false⟩, some ⟨.int t, 0, false⟩, some ⟨.int w, 0, false⟩, none, none]) ?_ (step (ρ' := [some ⟨dP m s, 0, false⟩, some ⟨dB b, 0, false⟩, some ⟨.lst (lI row), 0, false⟩, some ⟨.int t, 0, false⟩, some ⟨.int w, 0, false⟩, some ⟨.int n, 0, false⟩, none]) ?_
      (step (ρ' := [some ⟨dP m s, 0, false⟩, some ⟨dB b, 0, false⟩, some ⟨.lst (lI row), 0, false⟩, some ⟨.int t, 0, false⟩, some ⟨.int w, 0, false⟩, some ⟨.int n, 0, false⟩, none]) ?_ (step (ρ' := [some ⟨dP m s, 0, false⟩, some ⟨dB b, 0, false⟩, some ⟨.lst (lI row), 0, false⟩, some ⟨.int t, 0, false⟩, some ⟨.int w, 0, false⟩, some ⟨.int n, 0, false⟩, some ⟨dF d, 0, false⟩]) ?_ (stop ?_))))))))
    · simp [e0]
    · simp [hcr]
    · unfold dP at eT ⊢
      generalize lI row = R at *
      simp [h1, ll, eT]
    · unfold dP at eC ⊢
      simp [h2, eC]
    · simp [-bm_count, cnt]
    · generalize lI row = R at *
      simp [ll, h']
    · unfold dP at eD ⊢
      simp [h3, eD]
    · simp [e1, e2, dR]
theorem begR_x1 {cb cr ct cc du lo hi : Nat} {d1 d2 d3 d4 : D} {x : Exn} (h : Γ.fn cb [d1] = .exn x) : runF Γ 7 5 (sBegR cb cr ct cc du lo hi) [dP m s, d1, d2, d3, d4] = .exn x := by
  simp [sBegR, h]
theorem begR_x2 {cb cr ct cc du lo hi : Nat} {d2 d3 d4 : D} {x : Exn} (hcb : CkB Γ cb) (B : BdOk b) (h : Γ.fn cr [dP m s, d2] = .exn x) : runF Γ 7 5 (sBegR cb cr ct cc du lo hi) [dP m s, dB b, d2, d3, d4] = .exn x := by
  have e0 := hcb b B
  simp [sBegR, e0, h]
theorem begR_x3 {cb cr ct cc du lo hi cT : Nat} {d3 d4 : D} (hcb : CkB Γ cb) (B : BdOk b) (hcr : Γ.fn cr [dP m s, .lst (lI row)] = .ok .non 0) (h1 : Γ.mh ct 0 = true) (hT : CkT Γ ct cT m s) (a : argD d3 = true) (n : inT d3 (row.length : Nat) (turnsF s) = false) :
    runF Γ 7 5 (sBegR cb cr ct cc du lo hi) [dP m s, dB b, .lst (lI row), d3, d4] = .exn ⟨cT, none⟩ := by
  have e0 := hcb b B
  have eT := hT d3 a (row.length : Nat)
  rw [n] at eT
  have ll : (lI row).length = row.length := by simp [lI]
  unfold dP at eT hcr ⊢
  simp at eT
  generalize lI row = R at *
  simp [sBegR, e0, hcr, h1, ll, eT]
theorem begR_x4 {cb cr ct cc du lo hi cT cC : Nat} {d3 d4 : D} (hcb : CkB Γ cb) (B : BdOk b) (hcr : Γ.fn cr [dP m s, .lst (lI row)] = .ok .non 0) (h1 : Γ.mh ct 0 = true) (hT : CkT Γ ct cT m s) (a : argD d3 = true) (y : inT d3 (row.length : Nat) (turnsF s) = true) (h2 : Γ.mh cc 0 = true) (hC : CkC Γ cc cC m s) (a4 : argD d4 = true) (n : inT d4 0 ((m : Int) - 1) = false) :
    runF Γ 7 5 (sBegR cb cr ct cc du lo hi) [dP m s, dB b, .lst (lI row), d3, d4] = .exn ⟨cC, none⟩ := by
  have e0 := hcb b B
  have eT := hT d3 a (row.length : Nat)
  rw [y] at eT
  have eC := hC d4 a4
  rw [n] at eC
  have ll : (lI row).length = row.length := by simp [lI]
  unfold dP at eT eC hcr ⊢
  simp at eT eC
  generalize lI row = R at *
  simp [sBegR, e0, hcr, h1, ll, eT, h2, eC]
/-- no bound at all -/
theorem ckB_non {fr le g c : Nat} {r2 : St} (hz : Γ.rz c = true) {d : D} (hd : isiD .tuple d = .ok (.bl false) 0) : runF Γ 1 1 (sCkB fr le g (.raise c none) r2) [d] = .exn ⟨c, none⟩ := by
  simp [sCkB, hd, hz]
end
end PL
namespace PL.K14
open PySem L2 PyProof.Rows
/-! ### the defs, as functions -/
def gl0 : Nat → PL.D := fun k => if k = 0 then .int 8 else if k = 1 then .int 60 else if k = 2 then .int 6 else if k = 3 then .int 1000 else if k = 4 then .int 240 else if k = 5 then .tup [.int 0, .int 1] else if k = 6 then .int 300 else .non
def fo0 : Nat → Nat → Bool := fun c f => decide (c = 0 ∧ f = 0) || decide (c = 0 ∧ f = 1)
def tb0 : List (Nat × Nat × Bool) := [(2, 0, true), (2, 1, false), (2, 2, true), (2, 3, false), (2, 4, true), (2, 5, false), (3, 0, true), (3, 1, false), (3, 2, false), (3, 3, true), (3, 4, true), (3, 5, false), (5, 0, true), (5, 1, false), (5, 2, false), (5, 3, false), (5, 4, true), (5, 5, true)]
def ra0 : List Nat := [3]
def rz0 : List Nat := [2, 5]
noncomputable def E0 : Fe := { fn := fun _ _ => .bad, me := fun _ _ _ => .bad, ma := fun _ _ => .bad, gl := gl0, fo := fo0, mh := fun _ _ => false, sub := subT tb0, rz := rzT rz0, ra := rzT ra0 }
@[simp] theorem tb_2_0 : subT tb0 2 0 = some true := by decide
@[simp] theorem tb_2_1 : subT tb0 2 1 = some false := by decide
@[simp] theorem tb_2_2 : subT tb0 2 2 = some true := by decide
@[simp] theorem tb_2_3 : subT tb0 2 3 = some false := by decide
@[simp] theorem tb_2_4 : subT tb0 2 4 = some true := by decide
@[simp] theorem tb_2_5 : subT tb0 2 5 = some false := by decide
@[simp] theorem tb_3_0 : subT tb0 3 0 = some true := by decide
@[simp] theorem tb_3_1 : subT tb0 3 1 = some false := by decide
@[simp] theorem tb_3_2 : subT tb0 3 2 = some false := by decide
@[simp] theorem tb_3_3 : subT tb0 3 3 = some true := by decide
@[simp] theorem tb_3_4 : subT tb0 3 4 = some true := by decide
@[simp] theorem tb_3_5 : subT tb0 3 5 = some false := by decide
@[simp] theorem tb_5_0 : subT tb0 5 0 = some true := by decide
@[simp] theorem tb_5_1 : subT tb0 5 1 = some false := by decide
@[simp] theorem tb_5_2 : subT tb0 5 2 = some false := by decide
@[simp] theorem tb_5_3 : subT tb0 5 3 = some false := by decide
@[simp] theorem tb_5_4 : subT tb0 5 4 = some true := by decide
@[simp] theorem tb_5_5 : subT tb0 5 5 = some true := by decide
@[simp] theorem rz_2 : rzT rz0 2 = true := by decide
@[simp] theorem ra_3 : rzT ra0 3 = true := by decide
@[simp] theorem rz_5 : rzT rz0 5 = true := by decide
/-- _law_draw: _law_cell, _law_k, _law_bound_here, _law_stir, _law_left, _law_j -/
def b0L0 : List PL.St := [.asg 4 (.bin .fdiv (.var 4) (.var 2)) .imm]
def b0 : List PL.St := [.ife (.cmp .ge (.var 0) (.bin .pow (.con (.int 10)) (.con (.int 18)))) [.asg 4 (.var 0) (.fz [0]), .fo .rng1 [.var 1] [5] [] .imm b0L0, .ret (.bin .mod (.var 4) (.var 2))] [], .asg 3 (.bin .mod (.bin .mul (.bin .add (.bin .add (.bin .mod (.var 0) (.con (.int 1000000007))) (.bin .mul (.con (.int 1009)) (.var 1))) (.con (.int 17))) (.con (.int 69621))) (.con (.int 2147483647))) .imm, .asg 3 (.bin .mod (.bin .add (.bin .add (.bin .mul (.var 3) (.var 3)) (.bin .mul (.con (.int 40503)) (.var 1))) (.con (.int 5))) (.con (.int 2147483629))) .imm, .ret (.bin .mod (.bin .fdiv (.bin .mod (.bin .mul (.var 3) (.con (.int 48271))) (.con (.int 2147483647))) (.con (.int 32))) (.var 2))]
noncomputable def f0 : List PL.D → Res := runF E0 6 3 b0
noncomputable def E1 : Fe := E0.addFn 0 f0
@[simp] theorem ef0 : E0.fo = fo0 := rfl
/-- _law_weight: _law_cell, _law_k, _law_way -/
def b1 : List PL.St := [.asg 2 (.call 0 [.var 0, .var 1, .con (.int 9)]) .imm, .ret (.ix (.lst [.con (.int 0), .con (.int 1), .con (.int 1), .con (.int 2), .con (.int 3), .con (.int 5), .con (.int 7), .bin .add (.con (.int 1)) (.call 0 [.var 0, .bin .add (.var 1) (.con (.int 40)), .con (.int 30)]), .call 0 [.var 0, .bin .add (.var 1) (.con (.int 41)), .con (.int 1001)]]) (.var 2))]
noncomputable def f1 : List PL.D → Res := runF E1 3 2 b1
noncomputable def E2 : Fe := E1.addFn 1 f1
@[simp] theorem e1_0 : E1.fn 0 = f0 := rfl
@[simp] theorem ef1 : E1.fo = fo0 := rfl
/-- _law_spells: _law_cell, _law_other, _law_most, _law_many, _law_found, _law_k, _law_weights, _law_who -/
def b2X0 : Ex := .call 1 [.var 1, .bin .add (.bin .mul (.con (.int 7)) (.var 5)) (.var 7)]
def b2L0 : List PL.St := [.asg 6 (.comp .rng1 [.var 3] [7] b2X0) (.fz [1, 3, 5]), .ife (.cmp .eq (.bi .sum [.var 6]) (.con (.int 0))) [.setp 6 [] (.call 0 [.var 1, .bin .add (.con (.int 30)) (.var 5), .var 3]) (.con (.int 1)) .imm] [], .app 4 [] (.tup [.bin .add (.con (.int 1)) (.call 0 [.var 0, .bin .add (.con (.int 4)) (.var 5), .var 2]), .var 6]) (.fz [0, 2, 5, 6])]
def b2 : List PL.St := [.asg 3 (.bin .add (.con (.int 2)) (.call 0 [.var 0, .con (.int 0), .con (.int 4)])) .imm, .ife (.cmp .eq (.call 0 [.var 0, .con (.int 1), .con (.int 8)]) (.con (.int 1))) [.asg 3 (.ix (.lst [.con (.int 1), .con (.int 6)]) (.call 0 [.var 0, .con (.int 2), .con (.int 2)])) (.fz [0])] [], .asg 4 (.lst []) (.fz []), .fo .rng1 [.bin .add (.con (.int 1)) (.call 0 [.var 0, .con (.int 3), .con (.int 3)])] [5] [] .imm b2L0, .retv 4]
noncomputable def f2 : List PL.D → Res := runF E2 8 3 b2
noncomputable def E3 : Fe := E2.addFn 2 f2
@[simp] theorem e2_0 : E2.fn 0 = f0 := rfl
@[simp] theorem e2_1 : E2.fn 1 = f1 := rfl
@[simp] theorem ef2 : E2.fo = fo0 := rfl
/-- _law_cell_at: _law_script, _law_k -/
def b3 : List PL.St := [.ife (.cmp .lt (.var 1) (.bi .len [.var 0])) [.ret (.ix (.var 0) (.var 1))] [], .ret (.con (.int 0))]
noncomputable def f3 : List PL.D → Res := runF E3 2 2 b3
noncomputable def E4 : Fe := E3.addFn 3 f3
@[simp] theorem ef3 : E3.fo = fo0 := rfl
/-- is_whole: thing -/
def b4 : List PL.St := [.ret (.and (.isi (.var 0) .int) (.not (.isi (.var 0) .bool)))]
noncomputable def f4 : List PL.D → Res := runF E4 1 1 b4
noncomputable def E5 : Fe := E4.addFn 4 f4
@[simp] theorem ef4 : E4.fo = fo0 := rfl
/-- are_weights: thing, weight -/
def b5L0 : List PL.St := [.ife (.or (.not (.call 4 [.var 1])) (.not (.cmp2 .le .le (.con (.int 0)) (.var 1) (.glo 3)))) [.ret (.con (.bl false))] []]
def b5 : List PL.St := [.ife (.or (.not (.isi (.var 0) .list)) (.not (.cmp2 .le .le (.con (.int 1)) (.bi .len [.var 0]) (.glo 2)))) [.ret (.con (.bl false))] [], .fo .seq [.var 0] [1] [] (.fz [0]) b5L0, .ret (.cmp .gt (.bi .sum [.var 0]) (.con (.int 0)))]
noncomputable def f5 : List PL.D → Res := runF E5 2 1 b5
noncomputable def E6 : Fe := E5.addFn 5 f5
@[simp] theorem e5_4 : E5.fn 4 = f4 := rfl
@[simp] theorem ef5 : E5.fo = fo0 := rfl
@[simp] theorem eg5_2 : E5.gl 2 = .int 6 := rfl
@[simp] theorem eg5_3 : E5.gl 3 = .int 1000 := rfl
/-- is_spell: thing -/
def b6 : List PL.St := [.ife (.or (.not (.isi (.var 0) .tuple)) (.cmp .ne (.bi .len [.var 0]) (.con (.int 2)))) [.ret (.con (.bl false))] [], .ife (.or (.not (.call 4 [.ix (.var 0) (.con (.int 0))])) (.not (.cmp2 .le .le (.con (.int 1)) (.ix (.var 0) (.con (.int 0))) (.glo 1)))) [.ret (.con (.bl false))] [], .ret (.call 5 [.ix (.var 0) (.con (.int 1))])]
noncomputable def f6 : List PL.D → Res := runF E6 1 1 b6
noncomputable def E7 : Fe := E6.addFn 6 f6
@[simp] theorem e6_4 : E6.fn 4 = f4 := rfl
@[simp] theorem e6_5 : E6.fn 5 = f5 := rfl
@[simp] theorem ef6 : E6.fo = fo0 := rfl
@[simp] theorem eg6_1 : E6.gl 1 = .int 60 := rfl
/-- check_spells: thing, turns, at, spell -/
def b7L0 : List PL.St := [.asg 3 (.ix (.var 0) (.var 2)) (.fz [0, 2]), .ife (.or (.cmp .ge (.var 2) (.glo 0)) (.not (.call 6 [.var 3]))) [.dead] [], .asg 1 (.bin .add (.var 1) (.ix (.var 3) (.con (.int 0)))) .imm, .ife (.or (.cmp .ne (.bi .len [.ix (.var 3) (.con (.int 1))]) (.bi .len [.ix (.ix (.var 0) (.con (.int 0))) (.con (.int 1))])) (.cmp .gt (.var 1) (.glo 4))) [.dead] []]
def b7 : List PL.St := [.ife (.or (.not (.isi (.var 0) .list)) (.cmp .eq (.var 0) (.lst []))) [.dead] [], .asg 1 (.con (.int 0)) .imm, .fo .rng1 [.bi .len [.var 0]] [2] [] .imm b7L0]
noncomputable def f7 : List PL.D → Res := runF E7 4 1 b7
noncomputable def E8 : Fe := E7.addFn 7 f7
@[simp] theorem e7_6 : E7.fn 6 = f6 := rfl
@[simp] theorem ef7 : E7.fo = fo0 := rfl
@[simp] theorem es7 : E7.sub = subT tb0 := rfl
@[simp] theorem er7 : E7.rz = rzT rz0 := rfl
@[simp] theorem ea7 : E7.ra = rzT ra0 := rfl
@[simp] theorem eg7_0 : E7.gl 0 = .int 8 := rfl
@[simp] theorem eg7_4 : E7.gl 4 = .int 240 := rfl
/-- common: one, other -/
def b8C0 : Ex := .cmp .gt (.var 1) (.con (.int 0))
def b8L0 : List PL.St := [.par 0 1 (.var 1) (.bin .mod (.var 0) (.var 1))]
def b8 : List PL.St := [.asg 0 (.bi .abs [.var 0]) .imm, .asg 1 (.bi .abs [.var 1]) .imm, .whl b8C0 b8L0, .retv 0]
noncomputable def f8 : List PL.D → Res := runF E8 2 2 b8
noncomputable def E9 : Fe := E8.addFn 8 f8
@[simp] theorem ef8 : E8.fo = fo0 := rfl
/-- made: top, bottom, share -/
def b9 : List PL.St := [.ife (.cmp .eq (.var 1) (.con (.int 0))) [.raise 2 none] [], .asg 2 (.call 8 [.var 0, .var 1]) (.fz [0, 1]), .ife (.cmp .lt (.var 1) (.con (.int 0))) [.asg 2 (.neg (.var 2)) .imm] [], .ret (.tup [.bin .fdiv (.var 0) (.var 2), .bin .fdiv (.var 1) (.var 2)])]
noncomputable def f9 : List PL.D → Res := runF E9 3 2 b9
noncomputable def E10 : Fe := E9.addFn 9 f9
@[simp] theorem e9_8 : E9.fn 8 = f8 := rfl
@[simp] theorem ef9 : E9.fo = fo0 := rfl
@[simp] theorem es9 : E9.sub = subT tb0 := rfl
@[simp] theorem er9 : E9.rz = rzT rz0 := rfl
@[simp] theorem ea9 : E9.ra = rzT ra0 := rfl
/-- plus: one, other -/
def b10 : List PL.St := [.ret (.call 9 [.bin .add (.bin .mul (.ix (.var 0) (.con (.int 0))) (.ix (.var 1) (.con (.int 1)))) (.bin .mul (.ix (.var 1) (.con (.int 0))) (.ix (.var 0) (.con (.int 1)))), .bin .mul (.ix (.var 0) (.con (.int 1))) (.ix (.var 1) (.con (.int 1)))])]
noncomputable def f10 : List PL.D → Res := runF E10 2 2 b10
noncomputable def E11 : Fe := E10.addFn 10 f10
@[simp] theorem e10_9 : E10.fn 9 = f9 := rfl
@[simp] theorem ef10 : E10.fo = fo0 := rfl
/-- Plan.many: self -/
def b11 : List PL.St := [.ret (.bi .len [.ix (.ix (.fld (.var 0) 0) (.con (.int 0))) (.con (.int 1))])]
noncomputable def f11 : List PL.D → Res := runF E11 1 1 b11
noncomputable def E12 : Fe := E11.addMe 2 0 f11
@[simp] theorem ef11 : E11.fo = fo0 := rfl
/-- Plan.dues_by_turns: self, table, turns, weights, whole, first, turn, who -/
def b12X0 : Ex := .call 10 [.ix (.var 5) (.var 7), .call 9 [.bin .mul (.var 6) (.ix (.var 3) (.var 7)), .var 4]]
def b12L0 : List PL.St := [.app 1 [] (.comp .rng1 [.bi .len [.var 3]] [7] b12X0) (.fz [3, 4, 5, 6])]
def b12L1 : List PL.St := [.asg 4 (.bi .sum [.var 3]) .imm, .chi 5 1 (.neg (.con (.int 1))), .fo .rng2 [.con (.int 1), .bin .add (.var 2) (.con (.int 1))] [6] [] .imm b12L0]
def b12 : List PL.St := [.asg 1 (.lst [.bin .mul (.lst [.glo 5]) (.meth 2 (.var 0) [])]) (.fz [0]), .fo .seq [.fld (.var 0) 0] [2, 3] [] (.fz [0]) b12L1, .retv 1]
noncomputable def f12 : List PL.D → Res := runF E12 8 1 b12
noncomputable def E13 : Fe := E12.addMe 4 0 f12
@[simp] theorem e12_9 : E12.fn 9 = f9 := rfl
@[simp] theorem e12_10 : E12.fn 10 = f10 := rfl
@[simp] theorem em12_11 : E12.me 2 0 = f11 := rfl
@[simp] theorem eh12_11 : E12.mh 2 0 = true := rfl
@[simp] theorem ef12 : E12.fo = fo0 := rfl
@[simp] theorem eg12_5 : E12.gl 5 = .tup [.int 0, .int 1] := rfl
/-- Plan.__init__: self, spells, turns, weights -/
def b13X0 : Ex := .tup [.var 2, .bi .tuple [.var 3]]
def b13 : List PL.St := [.ex (.call 7 [.var 1]), .setf 0 0 (.comp .seq [.var 1] [2, 3] b13X0) (.fz [1]), .setg 0 1 (.meth 4 (.var 0) [])]
noncomputable def f13 : List PL.D → Res := initF E13 0 4 2 b13
noncomputable def E14 : Fe := E13.addMk 0 f13
@[simp] theorem e13_7 : E13.fn 7 = f7 := rfl
@[simp] theorem em13_12 : E13.me 4 0 = f12 := rfl
@[simp] theorem eh13_12 : E13.mh 4 0 = true := rfl
@[simp] theorem ef13 : E13.fo = fo0 := rfl
/-- _law_common: _law_one, _law_other -/
def b14C0 : Ex := .cmp .gt (.var 1) (.con (.int 0))
def b14L0 : List PL.St := [.par 0 1 (.var 1) (.bin .mod (.var 0) (.var 1))]
def b14 : List PL.St := [.asg 0 (.bi .abs [.var 0]) .imm, .asg 1 (.bi .abs [.var 1]) .imm, .whl b14C0 b14L0, .retv 0]
noncomputable def f14 : List PL.D → Res := runF E14 2 2 b14
noncomputable def E15 : Fe := E14.addFn 14 f14
@[simp] theorem ef14 : E14.fo = fo0 := rfl
/-- _law_lowest: _law_top, _law_bottom, _law_share -/
def b15 : List PL.St := [.asg 2 (.call 14 [.var 0, .var 1]) (.fz [0, 1]), .ret (.tup [.bin .fdiv (.var 0) (.var 2), .bin .fdiv (.var 1) (.var 2)])]
noncomputable def f15 : List PL.D → Res := runF E15 3 2 b15
noncomputable def E16 : Fe := E15.addFn 15 f15
@[simp] theorem e15_14 : E15.fn 14 = f14 := rfl
@[simp] theorem ef15 : E15.fo = fo0 := rfl
/-- _law_dues: _law_spells_here, _law_found, _law_turns, _law_weights, _law_first, _law_turn, _law_behind, _law_who, _law_top, _law_under -/
def b16L0 : List PL.St := [.asgs [8, 9] (.ix (.var 4) (.var 7)) (.fz [4, 7]), .asg 8 (.bin .add (.bin .mul (.var 8) (.bi .sum [.var 3])) (.bin .mul (.bin .mul (.var 5) (.ix (.var 3) (.var 7))) (.var 9))) .imm, .app 6 [] (.call 15 [.var 8, .bin .mul (.var 9) (.bi .sum [.var 3])]) .imm]
def b16L1 : List PL.St := [.asg 6 (.lst []) (.fz []), .fo .rng1 [.bi .len [.var 3]] [7] [] .imm b16L0, .app 1 [] (.var 6) (.fz [6])]
def b16L2 : List PL.St := [.chi 4 1 (.neg (.con (.int 1))), .fo .rng2 [.con (.int 1), .bin .add (.var 2) (.con (.int 1))] [5] [] .imm b16L1]
def b16 : List PL.St := [.asg 1 (.lst [.bin .mul (.lst [.tup [.con (.int 0), .con (.int 1)]]) (.bi .len [.ix (.ix (.var 0) (.con (.int 0))) (.con (.int 1))])]) (.fz [0]), .fo .seq [.var 0] [2, 3] [] (.fz [0]) b16L2, .retv 1]
noncomputable def f16 : List PL.D → Res := runF E16 10 1 b16
noncomputable def E17 : Fe := E16.addFn 16 f16
@[simp] theorem e16_15 : E16.fn 15 = f15 := rfl
@[simp] theorem ef16 : E16.fo = fo0 := rfl
/-- _law_row: _law_cell, _law_turns, _law_many, _law_found, _law_kind, _law_turn, _law_who -/
def b17L0 : List PL.St := [.asg 6 (.call 0 [.var 0, .bin .add (.con (.int 2)) (.var 5), .var 2]) .imm, .ife (.cmp .eq (.var 4) (.con (.int 0))) [.asg 6 (.bin .mod (.var 5) (.var 2)) .imm] [], .app 3 [] (.var 6) .imm]
def b17 : List PL.St := [.asg 3 (.lst []) (.fz []), .asg 4 (.call 0 [.var 0, .con (.int 1), .con (.int 4)]) .imm, .fo .rng1 [.var 1] [5] [] .imm b17L0, .retv 3]
noncomputable def f17 : List PL.D → Res := runF E17 7 3 b17
noncomputable def E18 : Fe := E17.addFn 17 f17
@[simp] theorem e17_0 : E17.fn 0 = f0 := rfl
@[simp] theorem ef17 : E17.fo = fo0 := rfl
/-- _law_bound: _law_cell, _law_dues_here, _law_way, _law_most, _law_due_here, _law_part -/
def b18 : List PL.St := [.asg 2 (.call 0 [.var 0, .con (.int 1), .con (.int 6)]) .imm, .asg 3 (.ix (.lst [.tup [.con (.int 0), .con (.int 1)], .tup [.con (.int 1), .con (.int 2)], .tup [.con (.int 1), .con (.int 1)], .tup [.con (.int 3), .con (.int 4)], .tup [.con (.int 2), .con (.int 3)], .tup [.con (.int 5), .con (.int 2)]]) (.call 0 [.var 0, .con (.int 2), .con (.int 6)])) (.fz [0]), .ife (.cmp .lt (.var 2) (.con (.int 4))) [.asg 4 (.ix (.ix (.var 1) (.call 0 [.var 0, .con (.int 3), .bi .len [.var 1]])) (.call 0 [.var 0, .con (.int 4), .bi .len [.ix (.var 1) (.con (.int 0))]])) (.fz [0, 1]), .asg 5 (.bin .mod (.ix (.var 4) (.con (.int 0))) (.ix (.var 4) (.con (.int 1)))) .imm, .asg 3 (.call 15 [.ix (.lst [.var 5, .bin .sub (.ix (.var 4) (.con (.int 1))) (.var 5)]) (.bin .mod (.var 2) (.con (.int 2))), .ix (.var 4) (.con (.int 1))]) .imm] [], .ret (.tup [.var 3, .cmp .eq (.call 0 [.var 0, .con (.int 5), .con (.int 2)]) (.con (.int 1))])]
noncomputable def f18 : List PL.D → Res := runF E18 6 2 b18
noncomputable def E19 : Fe := E18.addFn 18 f18
@[simp] theorem e18_0 : E18.fn 0 = f0 := rfl
@[simp] theorem e18_15 : E18.fn 15 = f15 := rfl
@[simp] theorem ef18 : E18.fo = fo0 := rfl
/-- Plan.turns: self, turns, weights -/
def b19X0 : Ex := .var 1
def b19 : List PL.St := [.ret (.bi .sum [.comp .seq [.fld (.var 0) 0] [1, 2] b19X0])]
noncomputable def f19 : List PL.D → Res := runF E19 3 1 b19
noncomputable def E20 : Fe := E19.addMe 1 0 f19
@[simp] theorem ef19 : E19.fo = fo0 := rfl
/-- check_row: plan, row, at -/
def b20L0 : List PL.St := [.ife (.or (.cmp .ge (.var 2) (.meth 1 (.var 0) [])) (.or (.not (.call 4 [.ix (.var 1) (.var 2)])) (.not (.cmp2 .le .lt (.con (.int 0)) (.ix (.var 1) (.var 2)) (.meth 2 (.var 0) []))))) [.raise 3 (some (.var 2))] []]
def b20 : List PL.St := [.ife (.not (.isi (.var 1) .list)) [.raise 3 (some (.con (.int 0)))] [], .fo .rng1 [.bi .len [.var 1]] [2] [] .imm b20L0]
noncomputable def f20 : List PL.D → Res := runF E20 3 2 b20
noncomputable def E21 : Fe := E20.addFn 20 f20
@[simp] theorem e20_4 : E20.fn 4 = f4 := rfl
@[simp] theorem em20_19 : E20.me 1 0 = f19 := rfl
@[simp] theorem eh20_19 : E20.mh 1 0 = true := rfl
@[simp] theorem em20_11 : E20.me 2 0 = f11 := rfl
@[simp] theorem eh20_11 : E20.mh 2 0 = true := rfl
@[simp] theorem ef20 : E20.fo = fo0 := rfl
@[simp] theorem es20 : E20.sub = subT tb0 := rfl
@[simp] theorem er20 : E20.rz = rzT rz0 := rfl
@[simp] theorem ea20 : E20.ra = rzT ra0 := rfl
/-- minus: one, other -/
def b21 : List PL.St := [.ret (.call 9 [.bin .sub (.bin .mul (.ix (.var 0) (.con (.int 0))) (.ix (.var 1) (.con (.int 1)))) (.bin .mul (.ix (.var 1) (.con (.int 0))) (.ix (.var 0) (.con (.int 1)))), .bin .mul (.ix (.var 0) (.con (.int 1))) (.ix (.var 1) (.con (.int 1)))])]
noncomputable def f21 : List PL.D → Res := runF E21 2 2 b21
noncomputable def E22 : Fe := E21.addFn 21 f21
@[simp] theorem e21_9 : E21.fn 9 = f9 := rfl
@[simp] theorem ef21 : E21.fo = fo0 := rfl
/-- lags_by_turns: plan, row, found, counts_here, turns, who -/
def b22X0 : Ex := .call 21 [.ix (.ix (.fld (.var 0) 1) (.var 4)) (.var 5), .tup [.ix (.var 3) (.var 5), .con (.int 1)]]
def b22L0 : List PL.St := [.ife (.cmp .gt (.var 4) (.con (.int 0))) [.setp 3 [] (.ix (.var 1) (.bin .sub (.var 4) (.con (.int 1)))) (.bin .add (.ix (.var 3) (.ix (.var 1) (.bin .sub (.var 4) (.con (.int 1))))) (.con (.int 1))) .imm] [], .app 2 [] (.comp .rng1 [.meth 2 (.var 0) []] [5] b22X0) .imm]
def b22 : List PL.St := [.asg 2 (.lst []) (.fz []), .asg 3 (.bin .mul (.lst [.con (.int 0)]) (.meth 2 (.var 0) [])) .imm, .fo .rng1 [.bin .add (.bi .len [.var 1]) (.con (.int 1))] [4] [] .imm b22L0, .retv 2]
noncomputable def f22 : List PL.D → Res := runF E22 6 2 b22
noncomputable def E23 : Fe := E22.addFn 22 f22
@[simp] theorem e22_21 : E22.fn 21 = f21 := rfl
@[simp] theorem em22_11 : E22.me 2 0 = f11 := rfl
@[simp] theorem eh22_11 : E22.mh 2 0 = true := rfl
@[simp] theorem ef22 : E22.fo = fo0 := rfl
/-- unsigned: one -/
def b23 : List PL.St := [.ret (.tup [.bi .abs [.ix (.var 0) (.con (.int 0))], .ix (.var 0) (.con (.int 1))])]
noncomputable def f23 : List PL.D → Res := runF E23 1 1 b23
noncomputable def E24 : Fe := E23.addFn 23 f23
@[simp] theorem ef23 : E23.fo = fo0 := rfl
/-- less: one, other -/
def b24 : List PL.St := [.ret (.cmp .lt (.bin .mul (.ix (.var 0) (.con (.int 0))) (.ix (.var 1) (.con (.int 1)))) (.bin .mul (.ix (.var 1) (.con (.int 0))) (.ix (.var 0) (.con (.int 1)))))]
noncomputable def f24 : List PL.D → Res := runF E24 2 2 b24
noncomputable def E25 : Fe := E24.addFn 24 f24
@[simp] theorem ef24 : E24.fo = fo0 := rfl
/-- worst: plan, row, found, table, turns, who, far -/
def b25L0 : List PL.St := [.asg 6 (.call 23 [.ix (.ix (.var 3) (.var 4)) (.var 5)]) (.fz [3, 4, 5]), .ife (.call 24 [.ix (.var 2) (.con (.int 0)), .var 6]) [.asg 2 (.tup [.var 6, .var 4, .var 5]) (.fz [4, 5, 6])] []]
def b25L1 : List PL.St := [.fo .rng1 [.meth 2 (.var 0) []] [5] [] .imm b25L0]
def b25 : List PL.St := [.ex (.call 20 [.var 0, .var 1]), .asg 2 (.tup [.glo 5, .con (.int 0), .con (.int 0)]) (.fz []), .asg 3 (.call 22 [.var 0, .var 1]) (.fz [0, 1]), .fo .rng1 [.bi .len [.var 3]] [4] [] .imm b25L1, .retv 2]
noncomputable def f25 : List PL.D → Res := runF E25 7 2 b25
noncomputable def E26 : Fe := E25.addFn 25 f25
@[simp] theorem e25_20 : E25.fn 20 = f20 := rfl
@[simp] theorem e25_22 : E25.fn 22 = f22 := rfl
@[simp] theorem e25_23 : E25.fn 23 = f23 := rfl
@[simp] theorem e25_24 : E25.fn 24 = f24 := rfl
@[simp] theorem em25_11 : E25.me 2 0 = f11 := rfl
@[simp] theorem eh25_11 : E25.mh 2 0 = true := rfl
@[simp] theorem ef25 : E25.fo = fo0 := rfl
@[simp] theorem eg25_5 : E25.gl 5 = .tup [.int 0, .int 1] := rfl
/-- is_fraction: thing -/
def b26 : List PL.St := [.ife (.or (.not (.isi (.var 0) .tuple)) (.cmp .ne (.bi .len [.var 0]) (.con (.int 2)))) [.ret (.con (.bl false))] [], .ife (.or (.not (.call 4 [.ix (.var 0) (.con (.int 0))])) (.not (.call 4 [.ix (.var 0) (.con (.int 1))]))) [.ret (.con (.bl false))] [], .ret (.and (.cmp .gt (.ix (.var 0) (.con (.int 1))) (.con (.int 0))) (.cmp .eq (.call 8 [.ix (.var 0) (.con (.int 0)), .ix (.var 0) (.con (.int 1))]) (.con (.int 1))))]
noncomputable def f26 : List PL.D → Res := runF E26 1 1 b26
noncomputable def E27 : Fe := E26.addFn 26 f26
@[simp] theorem e26_4 : E26.fn 4 = f4 := rfl
@[simp] theorem e26_8 : E26.fn 8 = f8 := rfl
@[simp] theorem ef26 : E26.fo = fo0 := rfl
/-- check_bound: bound -/
def b27 : List PL.St := [.ife (.or (.not (.isi (.var 0) .tuple)) (.or (.cmp .ne (.bi .len [.var 0]) (.con (.int 2))) (.not (.isi (.ix (.var 0) (.con (.int 1))) .bool)))) [.raise 5 none] [], .ife (.or (.not (.call 26 [.ix (.var 0) (.con (.int 0))])) (.or (.cmp .lt (.ix (.ix (.var 0) (.con (.int 0))) (.con (.int 0))) (.con (.int 0))) (.call 24 [.tup [.glo 6, .con (.int 1)], .ix (.var 0) (.con (.int 0))]))) [.raise 5 none] []]
noncomputable def f27 : List PL.D → Res := runF E27 1 1 b27
noncomputable def E28 : Fe := E27.addFn 27 f27
@[simp] theorem e27_24 : E27.fn 24 = f24 := rfl
@[simp] theorem e27_26 : E27.fn 26 = f26 := rfl
@[simp] theorem ef27 : E27.fo = fo0 := rfl
@[simp] theorem es27 : E27.sub = subT tb0 := rfl
@[simp] theorem er27 : E27.rz = rzT rz0 := rfl
@[simp] theorem ea27 : E27.ra = rzT ra0 := rfl
@[simp] theorem eg27_6 : E27.gl 6 = .int 300 := rfl
/-- lag_keeps: bound, far -/
def b28 : List PL.St := [.ife (.ix (.var 0) (.con (.int 1))) [.ret (.call 24 [.call 23 [.var 1], .ix (.var 0) (.con (.int 0))])] [], .ret (.not (.call 24 [.ix (.var 0) (.con (.int 0)), .call 23 [.var 1]]))]
noncomputable def f28 : List PL.D → Res := runF E28 2 2 b28
noncomputable def E29 : Fe := E28.addFn 28 f28
@[simp] theorem e28_23 : E28.fn 23 = f23 := rfl
@[simp] theorem e28_24 : E28.fn 24 = f24 := rfl
@[simp] theorem ef28 : E28.fo = fo0 := rfl
/-- keeps: plan, bound, row, lags, far -/
def b29L0 : List PL.St := [.ife (.not (.call 28 [.var 1, .var 4])) [.ret (.con (.bl false))] []]
def b29L1 : List PL.St := [.fo .seq [.var 3] [4] [] (.fz [3]) b29L0]
def b29 : List PL.St := [.ex (.call 27 [.var 1]), .ex (.call 20 [.var 0, .var 2]), .fo .seq [.call 22 [.var 0, .var 2]] [3] [] (.fz [0, 2]) b29L1, .ret (.con (.bl true))]
noncomputable def f29 : List PL.D → Res := runF E29 5 3 b29
noncomputable def E30 : Fe := E29.addFn 29 f29
@[simp] theorem e29_20 : E29.fn 20 = f20 := rfl
@[simp] theorem e29_22 : E29.fn 22 = f22 := rfl
@[simp] theorem e29_27 : E29.fn 27 = f27 := rfl
@[simp] theorem e29_28 : E29.fn 28 = f28 := rfl
@[simp] theorem ef29 : E29.fo = fo0 := rfl
/-- _law_lags: _law_dues_here, _law_row_here, _law_tally, _law_found, _law_turn, _law_due_here, _law_count -/
def b30X0 : Ex := .tup [.bin .sub (.ix (.var 5) (.con (.int 0))) (.bin .mul (.var 6) (.ix (.var 5) (.con (.int 1)))), .ix (.var 5) (.con (.int 1))]
def b30L0 : List PL.St := [.setp 2 [] (.ix (.var 1) (.var 4)) (.bin .add (.ix (.var 2) (.ix (.var 1) (.var 4))) (.con (.int 1))) .imm, .app 3 [] (.comp .zip [.ix (.var 0) (.bin .add (.var 4) (.con (.int 1))), .var 2] [5, 6] b30X0) .imm]
def b30 : List PL.St := [.asg 2 (.bin .mul (.lst [.con (.int 0)]) (.bi .len [.ix (.var 0) (.con (.int 0))])) .imm, .asg 3 (.lst [.bi .list [.ix (.var 0) (.con (.int 0))]]) (.fz [0]), .fo .rng1 [.bi .len [.var 1]] [4] [] .imm b30L0, .retv 3]
noncomputable def f30 : List PL.D → Res := runF E30 7 2 b30
noncomputable def E31 : Fe := E30.addFn 30 f30
@[simp] theorem ef30 : E30.fo = fo0 := rfl
/-- _law_keeps: _law_bound_here, _law_far, _law_spare -/
def b31 : List PL.St := [.asg 2 (.bin .sub (.bin .mul (.ix (.ix (.var 0) (.con (.int 0))) (.con (.int 0))) (.ix (.var 1) (.con (.int 1)))) (.bin .mul (.bi .abs [.ix (.var 1) (.con (.int 0))]) (.ix (.ix (.var 0) (.con (.int 0))) (.con (.int 1))))) .imm, .ret (.or (.cmp .gt (.var 2) (.con (.int 0))) (.and (.cmp .eq (.var 2) (.con (.int 0))) (.not (.ix (.var 0) (.con (.int 1))))))]
noncomputable def f31 : List PL.D → Res := runF E31 3 2 b31
noncomputable def E32 : Fe := E31.addFn 31 f31
@[simp] theorem ef31 : E31.fo = fo0 := rfl
/-- _law_due: _law_dues_here, _law_row_here, _law_bound_here, _law_behind, _law_far -/
def b32L0 : List PL.St := [.ife (.not (.call 31 [.var 2, .var 4])) [.ret (.con (.bl false))] []]
def b32L1 : List PL.St := [.fo .seq [.var 3] [4] [] (.fz [3]) b32L0]
def b32 : List PL.St := [.fo .seq [.call 30 [.var 0, .var 1]] [3] [] (.fz [0, 1]) b32L1, .ret (.con (.bl true))]
noncomputable def f32 : List PL.D → Res := runF E32 5 3 b32
noncomputable def E33 : Fe := E32.addFn 32 f32
@[simp] theorem e32_30 : E32.fn 30 = f30 := rfl
@[simp] theorem e32_31 : E32.fn 31 = f31 := rfl
@[simp] theorem ef32 : E32.fo = fo0 := rfl
/-- law: _law_script, _law_spells_here, _law_plan, _law_dues_here, _law_rows, _law_kept, _law_bounds, _law_row_here, _law_at, _law_told, e, _law_bound_here, _law_odd, _law_k, _law_found -/
def b33X0 : Ex := .call 17 [.call 3 [.var 0, .bin .add (.con (.int 2)) (.var 13)], .call 0 [.call 3 [.var 0, .bin .add (.con (.int 2)) (.var 13)], .con (.int 0), .bin .add (.meth 1 (.var 2) []) (.con (.int 1))], .meth 2 (.var 2) []]
def b33X1 : Ex := .bi .list [.var 7]
def b33X2 : Ex := .call 18 [.call 3 [.var 0, .bin .add (.con (.int 5)) (.var 13)], .var 3]
def b33L0 : List PL.St := [.asg 14 (.call 29 [.var 2, .var 11, .var 7]) .imm, .ife (.or (.not (.isi (.var 14) .bool)) (.or (.cmp .ne (.var 14) (.call 32 [.var 3, .var 7, .var 11])) (.cmp .ne (.var 4) (.var 5)))) [.ret (.con (.bl false))] []]
def b33L1 : List PL.St := [.fo .seq [.bin .add (.var 6) (.sl (.var 6) .omit (.con (.int 1)))] [11] [6] .imm b33L0]
def b33 : List PL.St := [.asg 1 (.call 2 [.call 3 [.var 0, .con (.int 0)], .call 3 [.var 0, .con (.int 1)], .con (.int 8)]) (.fz [0]), .asg 2 (.mk 0 [.var 1]) (.fz [1]), .asg 3 (.call 16 [.var 1]) (.fz [1]), .asg 4 (.comp .rng1 [.con (.int 3)] [13] b33X0) (.fz [0, 2]), .asg 5 (.comp .seq [.var 4] [7] b33X1) (.fz [4]), .asg 6 (.comp .rng1 [.con (.int 2)] [13] b33X2) (.fz [0, 3]), .app 6 [] (.tup [.ix (.call 25 [.var 2, .ix (.var 4) (.con (.int 0))]) (.con (.int 0)), .cmp .eq (.call 0 [.call 3 [.var 0, .con (.int 7)], .con (.int 0), .con (.int 2)]) (.con (.int 1))]) (.fz [0, 2, 4]), .fo .seq [.bin .add (.var 4) (.sl (.var 4) .omit (.con (.int 1)))] [7] [] (.fz [4]) b33L1, .asg 8 (.call 0 [.call 3 [.var 0, .con (.int 8)], .con (.int 0), .bin .add (.bi .len [.ix (.var 4) (.con (.int 0))]) (.con (.int 1))]) .imm, .asg 9 (.con .non) .imm, .tra (.asg 12 (.ix (.lst [.meth 2 (.var 2) [], .neg (.con (.int 1)), .con (.bl true), .con .non]) (.bin .mod (.var 8) (.con (.int 4)))) (.fz [2, 8])) 10 (.call 29 [.var 2, .ix (.var 6) (.con (.int 0)), .bin .add (.bin .add (.sl (.ix (.var 4) (.con (.int 0))) .omit (.var 8)) (.lst [.var 12])) (.sl (.ix (.var 4) (.con (.int 0))) (.var 8) .omit)]) 3 [.asg 9 (.atE (.var 10)) (.fz [10])], .ret (.and (.cmp .eq (.var 9) (.var 8)) (.and (.cmp .isN (.call 29 [.var 2, .tup [.tup [.con (.int 0), .con (.int 1)], .con (.bl true)], .lst []]) (.con (.bl false))) (.cmp .isN (.call 29 [.var 2, .tup [.tup [.con (.int 0), .con (.int 1)], .con (.bl false)], .lst []]) (.con (.bl true)))))]
noncomputable def f33 : List PL.D → Res := runF E33 15 1 b33
noncomputable def E34 : Fe := E33.addFn 33 f33
@[simp] theorem e33_0 : E33.fn 0 = f0 := rfl
@[simp] theorem e33_2 : E33.fn 2 = f2 := rfl
@[simp] theorem e33_3 : E33.fn 3 = f3 := rfl
@[simp] theorem e33_16 : E33.fn 16 = f16 := rfl
@[simp] theorem e33_17 : E33.fn 17 = f17 := rfl
@[simp] theorem e33_18 : E33.fn 18 = f18 := rfl
@[simp] theorem e33_25 : E33.fn 25 = f25 := rfl
@[simp] theorem e33_29 : E33.fn 29 = f29 := rfl
@[simp] theorem e33_32 : E33.fn 32 = f32 := rfl
@[simp] theorem ek33_13 : E33.ma 0 = f13 := rfl
@[simp] theorem em33_19 : E33.me 1 0 = f19 := rfl
@[simp] theorem eh33_19 : E33.mh 1 0 = true := rfl
@[simp] theorem em33_11 : E33.me 2 0 = f11 := rfl
@[simp] theorem eh33_11 : E33.mh 2 0 = true := rfl
@[simp] theorem ef33 : E33.fo = fo0 := rfl
@[simp] theorem es33 : E33.sub = subT tb0 := rfl
@[simp] theorem er33 : E33.rz = rzT rz0 := rfl
@[simp] theorem ea33 : E33.ra = rzT ra0 := rfl
/-! ### the tie -/
def top (i : Nat) : Stmt := PySem.Challenge.pw_dueturns_k14_rows_that_keep.main.body.getD i (.Pass ⟨0, 0, 0, 0⟩)
theorem sc0 : FnScope ["_law_cell", "_law_k", "_law_bound_here", "_law_stir", "_law_left", "_law_j"] ["_law_cell", "_law_k", "_law_bound_here"] (defScope (top 42)) := ⟨rfl, rfl, rfl, by decide +kernel, rfl, by decide +kernel, by decide +kernel⟩
theorem sc1 : FnScope ["_law_cell", "_law_k", "_law_way"] ["_law_cell", "_law_k"] (defScope (top 46)) := ⟨rfl, rfl, rfl, by decide +kernel, rfl, by decide +kernel, by decide +kernel⟩
theorem sc2 : FnScope ["_law_cell", "_law_other", "_law_most", "_law_many", "_law_found", "_law_k", "_law_weights", "_law_who"] ["_law_cell", "_law_other", "_law_most"] (defScope (top 47)) := ⟨rfl, rfl, rfl, by decide +kernel, rfl, by decide +kernel, by decide +kernel⟩
theorem sc3 : FnScope ["_law_script", "_law_k"] ["_law_script", "_law_k"] (defScope (top 41)) := ⟨rfl, rfl, rfl, by decide +kernel, rfl, by decide +kernel, by decide +kernel⟩
theorem sc4 : FnScope ["thing"] ["thing"] (defScope (top 11)) := ⟨rfl, rfl, rfl, by decide +kernel, rfl, by decide +kernel, by decide +kernel⟩
theorem sc5 : FnScope ["thing", "weight"] ["thing"] (defScope (top 36)) := ⟨rfl, rfl, rfl, by decide +kernel, rfl, by decide +kernel, by decide +kernel⟩
theorem sc6 : FnScope ["thing"] ["thing"] (defScope (top 37)) := ⟨rfl, rfl, rfl, by decide +kernel, rfl, by decide +kernel, by decide +kernel⟩
theorem sc7 : FnScope ["thing", "turns", "at", "spell"] ["thing"] (defScope (top 38)) := ⟨rfl, rfl, rfl, by decide +kernel, rfl, by decide +kernel, by decide +kernel⟩
theorem sc8 : FnScope ["one", "other"] ["one", "other"] (defScope (top 12)) := ⟨rfl, rfl, rfl, by decide +kernel, rfl, by decide +kernel, by decide +kernel⟩
theorem sc9 : FnScope ["top", "bottom", "share"] ["top", "bottom"] (defScope (top 14)) := ⟨rfl, rfl, rfl, by decide +kernel, rfl, by decide +kernel, by decide +kernel⟩
theorem sc10 : FnScope ["one", "other"] ["one", "other"] (defScope (top 15)) := ⟨rfl, rfl, rfl, by decide +kernel, rfl, by decide +kernel, by decide +kernel⟩
theorem sc11 : FnScope ["self"] ["self"] (defScope (inClass (top 39) 3)) := ⟨rfl, rfl, rfl, by decide +kernel, rfl, by decide +kernel, by decide +kernel⟩
theorem sc12 : FnScope ["self", "table", "turns", "weights", "whole", "first", "turn", "who"] ["self"] (defScope (inClass (top 39) 5)) := ⟨rfl, rfl, rfl, by decide +kernel, rfl, by decide +kernel, by decide +kernel⟩
theorem sc13 : FnScope ["self", "spells", "turns", "weights"] ["self", "spells"] (defScope (inClass (top 39) 0)) := ⟨rfl, rfl, rfl, by decide +kernel, rfl, by decide +kernel, by decide +kernel⟩
theorem sc14 : FnScope ["_law_one", "_law_other"] ["_law_one", "_law_other"] (defScope (top 44)) := ⟨rfl, rfl, rfl, by decide +kernel, rfl, by decide +kernel, by decide +kernel⟩
theorem sc15 : FnScope ["_law_top", "_law_bottom", "_law_share"] ["_law_top", "_law_bottom"] (defScope (top 45)) := ⟨rfl, rfl, rfl, by decide +kernel, rfl, by decide +kernel, by decide +kernel⟩
theorem sc16 : FnScope ["_law_spells_here", "_law_found", "_law_turns", "_law_weights", "_law_first", "_law_turn", "_law_behind", "_law_who", "_law_top", "_law_under"] ["_law_spells_here"] (defScope (top 48)) := ⟨rfl, rfl, rfl, by decide +kernel, rfl, by decide +kernel, by decide +kernel⟩
theorem sc17 : FnScope ["_law_cell", "_law_turns", "_law_many", "_law_found", "_law_kind", "_law_turn", "_law_who"] ["_law_cell", "_law_turns", "_law_many"] (defScope (top 50)) := ⟨rfl, rfl, rfl, by decide +kernel, rfl, by decide +kernel, by decide +kernel⟩
theorem sc18 : FnScope ["_law_cell", "_law_dues_here", "_law_way", "_law_most", "_law_due_here", "_law_part"] ["_law_cell", "_law_dues_here"] (defScope (top 51)) := ⟨rfl, rfl, rfl, by decide +kernel, rfl, by decide +kernel, by decide +kernel⟩
theorem sc19 : FnScope ["self", "turns", "weights"] ["self"] (defScope (inClass (top 39) 2)) := ⟨rfl, rfl, rfl, by decide +kernel, rfl, by decide +kernel, by decide +kernel⟩
theorem sc20 : FnScope ["plan", "row", "at"] ["plan", "row"] (defScope (top 25)) := ⟨rfl, rfl, rfl, by decide +kernel, rfl, by decide +kernel, by decide +kernel⟩
theorem sc21 : FnScope ["one", "other"] ["one", "other"] (defScope (top 16)) := ⟨rfl, rfl, rfl, by decide +kernel, rfl, by decide +kernel, by decide +kernel⟩
theorem sc22 : FnScope ["plan", "row", "found", "counts_here", "turns", "who"] ["plan", "row"] (defScope (top 26)) := ⟨rfl, rfl, rfl, by decide +kernel, rfl, by decide +kernel, by decide +kernel⟩
theorem sc23 : FnScope ["one"] ["one"] (defScope (top 19)) := ⟨rfl, rfl, rfl, by decide +kernel, rfl, by decide +kernel, by decide +kernel⟩
theorem sc24 : FnScope ["one", "other"] ["one", "other"] (defScope (top 18)) := ⟨rfl, rfl, rfl, by decide +kernel, rfl, by decide +kernel, by decide +kernel⟩
theorem sc25 : FnScope ["plan", "row", "found", "table", "turns", "who", "far"] ["plan", "row"] (defScope (top 27)) := ⟨rfl, rfl, rfl, by decide +kernel, rfl, by decide +kernel, by decide +kernel⟩
theorem sc26 : FnScope ["thing"] ["thing"] (defScope (top 13)) := ⟨rfl, rfl, rfl, by decide +kernel, rfl, by decide +kernel, by decide +kernel⟩
theorem sc27 : FnScope ["bound"] ["bound"] (defScope (top 22)) := ⟨rfl, rfl, rfl, by decide +kernel, rfl, by decide +kernel, by decide +kernel⟩
theorem sc28 : FnScope ["bound", "far"] ["bound", "far"] (defScope (top 23)) := ⟨rfl, rfl, rfl, by decide +kernel, rfl, by decide +kernel, by decide +kernel⟩
theorem sc29 : FnScope ["plan", "bound", "row", "lags", "far"] ["plan", "bound", "row"] (defScope (top 29)) := ⟨rfl, rfl, rfl, by decide +kernel, rfl, by decide +kernel, by decide +kernel⟩
theorem sc30 : FnScope ["_law_dues_here", "_law_row_here", "_law_tally", "_law_found", "_law_turn", "_law_due_here", "_law_count"] ["_law_dues_here", "_law_row_here"] (defScope (top 49)) := ⟨rfl, rfl, rfl, by decide +kernel, rfl, by decide +kernel, by decide +kernel⟩
theorem sc31 : FnScope ["_law_bound_here", "_law_far", "_law_spare"] ["_law_bound_here", "_law_far"] (defScope (top 52)) := ⟨rfl, rfl, rfl, by decide +kernel, rfl, by decide +kernel, by decide +kernel⟩
theorem sc32 : FnScope ["_law_dues_here", "_law_row_here", "_law_bound_here", "_law_behind", "_law_far"] ["_law_dues_here", "_law_row_here", "_law_bound_here"] (defScope (top 53)) := ⟨rfl, rfl, rfl, by decide +kernel, rfl, by decide +kernel, by decide +kernel⟩
theorem sc33 : FnScope ["_law_script", "_law_spells_here", "_law_plan", "_law_dues_here", "_law_rows", "_law_kept", "_law_bounds", "_law_row_here", "_law_at", "_law_told", "e", "_law_bound_here", "_law_odd", "_law_k", "_law_found"] ["_law_script"] (defScope (top 54)) := ⟨rfl, rfl, rfl, by decide +kernel, rfl, by decide +kernel, by decide +kernel⟩
theorem scX3 : FnScope ["self", "at"] ["self", "at"] (defScope (inClass (top 7) 0)) := ⟨rfl, rfl, rfl, by decide +kernel, rfl, by decide +kernel, by decide +kernel⟩
def t0 : Tab := { N := [], gn := [("NoBound", .exc 5), ("DueError", .exc 4), ("NoRow", .exc 3), ("NoFraction", .exc 2), ("NoPlan", .exc 1), ("MOST_BOUND", .con 6), ("NOUGHT", .con 5), ("MOST_TURNS", .con 4), ("MOST_WEIGHT", .con 3), ("MOST_CLAIMANTS", .con 2), ("MOST_IN_SPELL", .con 1), ("MOST_SPELLS", .con 0), ("zip", .non), ("abs", .non), ("bool", .non), ("int", .non), ("tuple", .non), ("list", .non), ("isinstance", .non), ("len", .non), ("sum", .non), ("range", .non)], at_ := [("kept", 0), ("table", 1)], me := [("spells", 0), ("turns", 1), ("many", 2), ("spell_of", 3), ("dues_by_turns", 4), ("check_turns", 5), ("check_claimant", 6), ("share", 7), ("due", 8), ("cut", 9), ("joined", 10)] }
def t1 : Tab := { t0 with gn := ("_law_draw", .fn 0) :: t0.gn }
def t2 : Tab := { t1 with gn := ("_law_weight", .fn 1) :: t1.gn }
def t3 : Tab := { t2 with gn := ("_law_spells", .fn 2) :: t2.gn }
def t4 : Tab := { t3 with gn := ("_law_cell_at", .fn 3) :: t3.gn }
def t5 : Tab := { t4 with gn := ("is_whole", .fn 4) :: t4.gn }
def t6 : Tab := { t5 with gn := ("are_weights", .fn 5) :: t5.gn }
def t7 : Tab := { t6 with gn := ("is_spell", .fn 6) :: t6.gn }
def t8 : Tab := { t7 with gn := ("check_spells", .fn 7) :: t7.gn }
def t9 : Tab := { t8 with gn := ("common", .fn 8) :: t8.gn }
def t10 : Tab := { t9 with gn := ("made", .fn 9) :: t9.gn }
def t11 : Tab := { t10 with gn := ("plus", .fn 10) :: t10.gn }
def t12 : Tab := t11
def t13 : Tab := t12
def t14 : Tab := { t13 with gn := ("Plan", .cls 0) :: t13.gn }
def t15 : Tab := { t14 with gn := ("_law_common", .fn 14) :: t14.gn }
def t16 : Tab := { t15 with gn := ("_law_lowest", .fn 15) :: t15.gn }
def t17 : Tab := { t16 with gn := ("_law_dues", .fn 16) :: t16.gn }
def t18 : Tab := { t17 with gn := ("_law_row", .fn 17) :: t17.gn }
def t19 : Tab := { t18 with gn := ("_law_bound", .fn 18) :: t18.gn }
def t20 : Tab := t19
def t21 : Tab := { t20 with gn := ("check_row", .fn 20) :: t20.gn }
def t22 : Tab := { t21 with gn := ("minus", .fn 21) :: t21.gn }
def t23 : Tab := { t22 with gn := ("lags_by_turns", .fn 22) :: t22.gn }
def t24 : Tab := { t23 with gn := ("unsigned", .fn 23) :: t23.gn }
def t25 : Tab := { t24 with gn := ("less", .fn 24) :: t24.gn }
def t26 : Tab := { t25 with gn := ("worst", .fn 25) :: t25.gn }
def t27 : Tab := { t26 with gn := ("is_fraction", .fn 26) :: t26.gn }
def t28 : Tab := { t27 with gn := ("check_bound", .fn 27) :: t27.gn }
def t29 : Tab := { t28 with gn := ("lag_keeps", .fn 28) :: t28.gn }
def t30 : Tab := { t29 with gn := ("keeps", .fn 29) :: t29.gn }
def t31 : Tab := { t30 with gn := ("_law_lags", .fn 30) :: t30.gn }
def t32 : Tab := { t31 with gn := ("_law_keeps", .fn 31) :: t31.gn }
def t33 : Tab := { t32 with gn := ("_law_due", .fn 32) :: t32.gn }
def t34 : Tab := { t33 with gn := ("law", .fn 33) :: t33.gn }
theorem ck0 : ckB (ckS 60 (t0.names ["_law_cell", "_law_k", "_law_bound_here", "_law_stir", "_law_left", "_law_j"]) (defScope (top 42))) (defBody (top 42)) b0 = true := by decide +kernel
theorem ck1 : ckB (ckS 60 (t1.names ["_law_cell", "_law_k", "_law_way"]) (defScope (top 46))) (defBody (top 46)) b1 = true := by decide +kernel
theorem ck2 : ckB (ckS 60 (t2.names ["_law_cell", "_law_other", "_law_most", "_law_many", "_law_found", "_law_k", "_law_weights", "_law_who"]) (defScope (top 47))) (defBody (top 47)) b2 = true := by decide +kernel
theorem ck3 : ckB (ckS 60 (t3.names ["_law_script", "_law_k"]) (defScope (top 41))) (defBody (top 41)) b3 = true := by decide +kernel
theorem ck4 : ckB (ckS 60 (t4.names ["thing"]) (defScope (top 11))) (defBody (top 11)) b4 = true := by decide +kernel
theorem ck5 : ckB (ckS 60 (t5.names ["thing", "weight"]) (defScope (top 36))) (defBody (top 36)) b5 = true := by decide +kernel
theorem ck6 : ckB (ckS 60 (t6.names ["thing"]) (defScope (top 37))) (defBody (top 37)) b6 = true := by decide +kernel
theorem ck7 : ckB (ckS 60 (t7.names ["thing", "turns", "at", "spell"]) (defScope (top 38))) (defBody (top 38)) b7 = true := by decide +kernel
theorem ck8 : ckB (ckS 60 (t8.names ["one", "other"]) (defScope (top 12))) (defBody (top 12)) b8 = true := by decide +kernel
theorem ck9 : ckB (ckS 60 (t9.names ["top", "bottom", "share"]) (defScope (top 14))) (defBody (top 14)) b9 = true := by decide +kernel
theorem ck10 : ckB (ckS 60 (t10.names ["one", "other"]) (defScope (top 15))) (defBody (top 15)) b10 = true := by decide +kernel
theorem ck11 : ckB (ckS 60 (t11.names ["self"]) (defScope (inClass (top 39) 3))) (defBody (inClass (top 39) 3)) b11 = true := by decide +kernel
theorem ck12 : ckB (ckS 60 (t12.names ["self", "table", "turns", "weights", "whole", "first", "turn", "who"]) (defScope (inClass (top 39) 5))) (defBody (inClass (top 39) 5)) b12 = true := by decide +kernel
theorem ck13 : ckB (ckS 60 (t13.mk_ ["self", "spells", "turns", "weights"]) (defScope (inClass (top 39) 0))) (defBody (inClass (top 39) 0)) b13 = true := by decide +kernel
theorem ck14 : ckB (ckS 60 (t14.names ["_law_one", "_law_other"]) (defScope (top 44))) (defBody (top 44)) b14 = true := by decide +kernel
theorem ck15 : ckB (ckS 60 (t15.names ["_law_top", "_law_bottom", "_law_share"]) (defScope (top 45))) (defBody (top 45)) b15 = true := by decide +kernel
theorem ck16 : ckB (ckS 60 (t16.names ["_law_spells_here", "_law_found", "_law_turns", "_law_weights", "_law_first", "_law_turn", "_law_behind", "_law_who", "_law_top", "_law_under"]) (defScope (top 48))) (defBody (top 48)) b16 = true := by decide +kernel
theorem ck17 : ckB (ckS 60 (t17.names ["_law_cell", "_law_turns", "_law_many", "_law_found", "_law_kind", "_law_turn", "_law_who"]) (defScope (top 50))) (defBody (top 50)) b17 = true := by decide +kernel
theorem ck18 : ckB (ckS 60 (t18.names ["_law_cell", "_law_dues_here", "_law_way", "_law_most", "_law_due_here", "_law_part"]) (defScope (top 51))) (defBody (top 51)) b18 = true := by decide +kernel
theorem ck19 : ckB (ckS 60 (t19.names ["self", "turns", "weights"]) (defScope (inClass (top 39) 2))) (defBody (inClass (top 39) 2)) b19 = true := by decide +kernel
theorem ck20 : ckB (ckS 60 (t20.names ["plan", "row", "at"]) (defScope (top 25))) (defBody (top 25)) b20 = true := by decide +kernel
theorem ck21 : ckB (ckS 60 (t21.names ["one", "other"]) (defScope (top 16))) (defBody (top 16)) b21 = true := by decide +kernel
theorem ck22 : ckB (ckS 60 (t22.names ["plan", "row", "found", "counts_here", "turns", "who"]) (defScope (top 26))) (defBody (top 26)) b22 = true := by decide +kernel
theorem ck23 : ckB (ckS 60 (t23.names ["one"]) (defScope (top 19))) (defBody (top 19)) b23 = true := by decide +kernel
theorem ck24 : ckB (ckS 60 (t24.names ["one", "other"]) (defScope (top 18))) (defBody (top 18)) b24 = true := by decide +kernel
theorem ck25 : ckB (ckS 60 (t25.names ["plan", "row", "found", "table", "turns", "who", "far"]) (defScope (top 27))) (defBody (top 27)) b25 = true := by decide +kernel
theorem ck26 : ckB (ckS 60 (t26.names ["thing"]) (defScope (top 13))) (defBody (top 13)) b26 = true := by decide +kernel
theorem ck27 : ckB (ckS 60 (t27.names ["bound"]) (defScope (top 22))) (defBody (top 22)) b27 = true := by decide +kernel
theorem ck28 : ckB (ckS 60 (t28.names ["bound", "far"]) (defScope (top 23))) (defBody (top 23)) b28 = true := by decide +kernel
theorem ck29 : ckB (ckS 60 (t29.names ["plan", "bound", "row", "lags", "far"]) (defScope (top 29))) (defBody (top 29)) b29 = true := by decide +kernel
theorem ck30 : ckB (ckS 60 (t30.names ["_law_dues_here", "_law_row_here", "_law_tally", "_law_found", "_law_turn", "_law_due_here", "_law_count"]) (defScope (top 49))) (defBody (top 49)) b30 = true := by decide +kernel
theorem ck31 : ckB (ckS 60 (t31.names ["_law_bound_here", "_law_far", "_law_spare"]) (defScope (top 52))) (defBody (top 52)) b31 = true := by decide +kernel
theorem ck32 : ckB (ckS 60 (t32.names ["_law_dues_here", "_law_row_here", "_law_bound_here", "_law_behind", "_law_far"]) (defScope (top 53))) (defBody (top 53)) b32 = true := by decide +kernel
theorem ck33 : ckB (ckS 60 (t33.names ["_law_script", "_law_spells_here", "_law_plan", "_law_dues_here", "_law_rows", "_law_kept", "_law_bounds", "_law_row_here", "_law_at", "_law_told", "e", "_law_bound_here", "_law_odd", "_law_k", "_law_found"]) (defScope (top 54))) (defBody (top 54)) b33 = true := by decide +kernel
theorem all_mk {l : PySem.W.OpenLaw} {w : World} {K : PySem.W.Frag} {h : Heap} {mg : Str → Option Value} {fa : Addr} (X : K.In h) (G : h.Ns mainGlobals mg) (hfa : mg "law" = some (.ref fa))
    {a0 a1 a2 a3 a4 a5 a6 a7 a8 a9 a10 a11 a12 a13 a14 a15 a16 a17 a18 a19 a20 a21 a22 a23 a24 a25 a26 a27 a28 a29 a30 a31 a32 a33 : Addr} {od0 an0 od1 an1 od2 an2 od3 an3 od4 an4 od5 an5 od6 an6 od7 an7 od8 an8 od9 an9 od10 an10 od11 an11 od12 an12 od13 an13 od14 an14 od15 an15 od16 an16 od17 an17 od18 an18 od19 an19 od20 an20 od21 an21 od22 an22 od23 an23 od24 an24 od25 an25 od26 an26 od27 an27 od28 an28 od29 an29 od30 an30 od31 an31 od32 an32 od33 an33 : Option Addr} {sl0 sl1 sl2 sl3 sl4 sl5 sl6 sl7 sl8 sl9 sl10 sl11 sl12 sl13 sl14 sl15 sl16 sl17 sl18 sl19 sl20 sl21 sl22 sl23 sl24 sl25 sl26 sl27 sl28 sl29 sl30 sl31 sl32 sl33 : Array (Option Value)} {oc0 kV0 dc0 pm0 cd0 ct0 oc1 kV1 dc1 pm1 cd1 ct1 oc2 kV2 dc2 pm2 cd2 ct2 oc3 kV3 dc3 pm3 cd3 ct3 oc4 kV4 dc4 pm4 cd4 ct4 oc5 kV5 dc5 pm5 cd5 ct5 oc6 kV6 dc6 pm6 cd6 ct6 oc7 kV7 dc7 pm7 cd7 ct7 oc8 kV8 dc8 pm8 cd8 ct8 oc9 kV9 dc9 pm9 cd9 ct9 oc10 kV10 dc10 pm10 cd10 ct10 oc11 kV11 dc11 pm11 cd11 ct11 oc12 kV12 dc12 pm12 cd12 ct12 oc13 kV13 dc13 pm13 cd13 ct13 oc14 kV14 dc14 pm14 cd14 ct14 oc15 kV15 dc15 pm15 cd15 ct15 oc16 kV16 dc16 pm16 cd16 ct16 oc17 kV17 dc17 pm17 cd17 ct17 oc18 kV18 dc18 pm18 cd18 ct18 oc19 kV19 dc19 pm19 cd19 ct19 oc20 kV20 dc20 pm20 cd20 ct20 oc21 kV21 dc21 pm21 cd21 ct21 oc22 kV22 dc22 pm22 cd22 ct22 oc23 kV23 dc23 pm23 cd23 ct23 oc24 kV24 dc24 pm24 cd24 ct24 oc25 kV25 dc25 pm25 cd25 ct25 oc26 kV26 dc26 pm26 cd26 ct26 oc27 kV27 dc27 pm27 cd27 ct27 oc28 kV28 dc28 pm28 cd28 ct28 oc29 kV29 dc29 pm29 cd29 ct29 oc30 kV30 dc30 pm30 cd30 ct30 oc31 kV31 dc31 pm31 cd31 ct31 oc32 kV32 dc32 pm32 cd32 ct32 oc33 kV33 dc33 pm33 cd33 ct33 : Value}
    {C0 : Addr} (cA0 : PySem.W.nsIn K mainGlobals "Plan" = some (some (.ref C0)))
    (pg0 : PySem.W.plainGet K C0 Str.empty = true) (hd0 : PySem.W.hasDictIn K C0 = true) (po0 : PySem.W.plainOver K C0 = true) (sa0 : PySem.W.findIn K (.ref C0) "__setattr__" = some (some (.builtin "object.__setattr__"))) (mk0 : PySem.W.makesIn K C0 = true) (kc0 : PySem.W.keepIn K (.ref C0) = true)
    (na0_0 : PySem.W.findIn K (.ref C0) "kept" = some none)
    (na0_1 : PySem.W.findIn K (.ref C0) "table" = some none)
    (x0 : PySem.W.nsIn K mainGlobals "_law_draw" = some (some (.ref a0)))
    (l0 : K.lookup a0 = some ⟨oc0, od0, .func (PySem.W.fnOf "_law_draw" "_law_draw" (defArgs (top 42)) (defBody (top 42)) (defScope (top 42)) .none kV0 dc0 pm0 an0 cd0 ct0), sl0⟩)
    (c0 : PySem.W.codeIn K cd0 "_law_draw" = true) (k0 : PySem.W.keepIn K (.ref a0) = true)
    (x1 : PySem.W.nsIn K mainGlobals "_law_weight" = some (some (.ref a1)))
    (l1 : K.lookup a1 = some ⟨oc1, od1, .func (PySem.W.fnOf "_law_weight" "_law_weight" (defArgs (top 46)) (defBody (top 46)) (defScope (top 46)) .none kV1 dc1 pm1 an1 cd1 ct1), sl1⟩)
    (c1 : PySem.W.codeIn K cd1 "_law_weight" = true) (k1 : PySem.W.keepIn K (.ref a1) = true)
    (x2 : PySem.W.nsIn K mainGlobals "_law_spells" = some (some (.ref a2)))
    (l2 : K.lookup a2 = some ⟨oc2, od2, .func (PySem.W.fnOf "_law_spells" "_law_spells" (defArgs (top 47)) (defBody (top 47)) (defScope (top 47)) .none kV2 dc2 pm2 an2 cd2 ct2), sl2⟩)
    (c2 : PySem.W.codeIn K cd2 "_law_spells" = true) (k2 : PySem.W.keepIn K (.ref a2) = true)
    (x3 : PySem.W.nsIn K mainGlobals "_law_cell_at" = some (some (.ref a3)))
    (l3 : K.lookup a3 = some ⟨oc3, od3, .func (PySem.W.fnOf "_law_cell_at" "_law_cell_at" (defArgs (top 41)) (defBody (top 41)) (defScope (top 41)) .none kV3 dc3 pm3 an3 cd3 ct3), sl3⟩)
    (c3 : PySem.W.codeIn K cd3 "_law_cell_at" = true) (k3 : PySem.W.keepIn K (.ref a3) = true)
    (x4 : PySem.W.nsIn K mainGlobals "is_whole" = some (some (.ref a4)))
    (l4 : K.lookup a4 = some ⟨oc4, od4, .func (PySem.W.fnOf "is_whole" "is_whole" (defArgs (top 11)) (defBody (top 11)) (defScope (top 11)) .none kV4 dc4 pm4 an4 cd4 ct4), sl4⟩)
    (c4 : PySem.W.codeIn K cd4 "is_whole" = true) (k4 : PySem.W.keepIn K (.ref a4) = true)
    (x5 : PySem.W.nsIn K mainGlobals "are_weights" = some (some (.ref a5)))
    (l5 : K.lookup a5 = some ⟨oc5, od5, .func (PySem.W.fnOf "are_weights" "are_weights" (defArgs (top 36)) (defBody (top 36)) (defScope (top 36)) .none kV5 dc5 pm5 an5 cd5 ct5), sl5⟩)
    (c5 : PySem.W.codeIn K cd5 "are_weights" = true) (k5 : PySem.W.keepIn K (.ref a5) = true)
    (x6 : PySem.W.nsIn K mainGlobals "is_spell" = some (some (.ref a6)))
    (l6 : K.lookup a6 = some ⟨oc6, od6, .func (PySem.W.fnOf "is_spell" "is_spell" (defArgs (top 37)) (defBody (top 37)) (defScope (top 37)) .none kV6 dc6 pm6 an6 cd6 ct6), sl6⟩)
    (c6 : PySem.W.codeIn K cd6 "is_spell" = true) (k6 : PySem.W.keepIn K (.ref a6) = true)
    (x7 : PySem.W.nsIn K mainGlobals "check_spells" = some (some (.ref a7)))
    (l7 : K.lookup a7 = some ⟨oc7, od7, .func (PySem.W.fnOf "check_spells" "check_spells" (defArgs (top 38)) (defBody (top 38)) (defScope (top 38)) .none kV7 dc7 pm7 an7 cd7 ct7), sl7⟩)
    (c7 : PySem.W.codeIn K cd7 "check_spells" = true) (k7 : PySem.W.keepIn K (.ref a7) = true)
    (x8 : PySem.W.nsIn K mainGlobals "common" = some (some (.ref a8)))
    (l8 : K.lookup a8 = some ⟨oc8, od8, .func (PySem.W.fnOf "common" "common" (defArgs (top 12)) (defBody (top 12)) (defScope (top 12)) .none kV8 dc8 pm8 an8 cd8 ct8), sl8⟩)
    (c8 : PySem.W.codeIn K cd8 "common" = true) (k8 : PySem.W.keepIn K (.ref a8) = true)
    (x9 : PySem.W.nsIn K mainGlobals "made" = some (some (.ref a9)))
    (l9 : K.lookup a9 = some ⟨oc9, od9, .func (PySem.W.fnOf "made" "made" (defArgs (top 14)) (defBody (top 14)) (defScope (top 14)) .none kV9 dc9 pm9 an9 cd9 ct9), sl9⟩)
    (c9 : PySem.W.codeIn K cd9 "made" = true) (k9 : PySem.W.keepIn K (.ref a9) = true)
    (x10 : PySem.W.nsIn K mainGlobals "plus" = some (some (.ref a10)))
    (l10 : K.lookup a10 = some ⟨oc10, od10, .func (PySem.W.fnOf "plus" "plus" (defArgs (top 15)) (defBody (top 15)) (defScope (top 15)) .none kV10 dc10 pm10 an10 cd10 ct10), sl10⟩)
    (c10 : PySem.W.codeIn K cd10 "plus" = true) (k10 : PySem.W.keepIn K (.ref a10) = true)
    (x11 : PySem.W.findIn K (.ref C0) "many" = some (some (.ref a11))) (i11 : PySem.W.isFn K (.ref a11) = true)
    (l11 : K.lookup a11 = some ⟨oc11, od11, .func (PySem.W.fnOf "many" "Plan.many" (defArgs (inClass (top 39) 3)) (defBody (inClass (top 39) 3)) (defScope (inClass (top 39) 3)) .none kV11 dc11 pm11 an11 cd11 ct11), sl11⟩)
    (c11 : PySem.W.codeIn K cd11 "Plan.many" = true) (k11 : PySem.W.keepIn K (.ref a11) = true)
    (x12 : PySem.W.findIn K (.ref C0) "dues_by_turns" = some (some (.ref a12))) (i12 : PySem.W.isFn K (.ref a12) = true)
    (l12 : K.lookup a12 = some ⟨oc12, od12, .func (PySem.W.fnOf "dues_by_turns" "Plan.dues_by_turns" (defArgs (inClass (top 39) 5)) (defBody (inClass (top 39) 5)) (defScope (inClass (top 39) 5)) .none kV12 dc12 pm12 an12 cd12 ct12), sl12⟩)
    (c12 : PySem.W.codeIn K cd12 "Plan.dues_by_turns" = true) (k12 : PySem.W.keepIn K (.ref a12) = true)
    (x13 : PySem.W.findIn K (.ref C0) "__init__" = some (some (.ref a13))) (i13 : PySem.W.isFn K (.ref a13) = true)
    (l13 : K.lookup a13 = some ⟨oc13, od13, .func (PySem.W.fnOf "__init__" "Plan.__init__" (defArgs (inClass (top 39) 0)) (defBody (inClass (top 39) 0)) (defScope (inClass (top 39) 0)) .none kV13 dc13 pm13 an13 cd13 ct13), sl13⟩)
    (c13 : PySem.W.codeIn K cd13 "Plan.__init__" = true) (k13 : PySem.W.keepIn K (.ref a13) = true)
    (x14 : PySem.W.nsIn K mainGlobals "_law_common" = some (some (.ref a14)))
    (l14 : K.lookup a14 = some ⟨oc14, od14, .func (PySem.W.fnOf "_law_common" "_law_common" (defArgs (top 44)) (defBody (top 44)) (defScope (top 44)) .none kV14 dc14 pm14 an14 cd14 ct14), sl14⟩)
    (c14 : PySem.W.codeIn K cd14 "_law_common" = true) (k14 : PySem.W.keepIn K (.ref a14) = true)
    (x15 : PySem.W.nsIn K mainGlobals "_law_lowest" = some (some (.ref a15)))
    (l15 : K.lookup a15 = some ⟨oc15, od15, .func (PySem.W.fnOf "_law_lowest" "_law_lowest" (defArgs (top 45)) (defBody (top 45)) (defScope (top 45)) .none kV15 dc15 pm15 an15 cd15 ct15), sl15⟩)
    (c15 : PySem.W.codeIn K cd15 "_law_lowest" = true) (k15 : PySem.W.keepIn K (.ref a15) = true)
    (x16 : PySem.W.nsIn K mainGlobals "_law_dues" = some (some (.ref a16)))
    (l16 : K.lookup a16 = some ⟨oc16, od16, .func (PySem.W.fnOf "_law_dues" "_law_dues" (defArgs (top 48)) (defBody (top 48)) (defScope (top 48)) .none kV16 dc16 pm16 an16 cd16 ct16), sl16⟩)
    (c16 : PySem.W.codeIn K cd16 "_law_dues" = true) (k16 : PySem.W.keepIn K (.ref a16) = true)
    (x17 : PySem.W.nsIn K mainGlobals "_law_row" = some (some (.ref a17)))
    (l17 : K.lookup a17 = some ⟨oc17, od17, .func (PySem.W.fnOf "_law_row" "_law_row" (defArgs (top 50)) (defBody (top 50)) (defScope (top 50)) .none kV17 dc17 pm17 an17 cd17 ct17), sl17⟩)
    (c17 : PySem.W.codeIn K cd17 "_law_row" = true) (k17 : PySem.W.keepIn K (.ref a17) = true)
    (x18 : PySem.W.nsIn K mainGlobals "_law_bound" = some (some (.ref a18)))
    (l18 : K.lookup a18 = some ⟨oc18, od18, .func (PySem.W.fnOf "_law_bound" "_law_bound" (defArgs (top 51)) (defBody (top 51)) (defScope (top 51)) .none kV18 dc18 pm18 an18 cd18 ct18), sl18⟩)
    (c18 : PySem.W.codeIn K cd18 "_law_bound" = true) (k18 : PySem.W.keepIn K (.ref a18) = true)
    (x19 : PySem.W.findIn K (.ref C0) "turns" = some (some (.ref a19))) (i19 : PySem.W.isFn K (.ref a19) = true)
    (l19 : K.lookup a19 = some ⟨oc19, od19, .func (PySem.W.fnOf "turns" "Plan.turns" (defArgs (inClass (top 39) 2)) (defBody (inClass (top 39) 2)) (defScope (inClass (top 39) 2)) .none kV19 dc19 pm19 an19 cd19 ct19), sl19⟩)
    (c19 : PySem.W.codeIn K cd19 "Plan.turns" = true) (k19 : PySem.W.keepIn K (.ref a19) = true)
    (x20 : PySem.W.nsIn K mainGlobals "check_row" = some (some (.ref a20)))
    (l20 : K.lookup a20 = some ⟨oc20, od20, .func (PySem.W.fnOf "check_row" "check_row" (defArgs (top 25)) (defBody (top 25)) (defScope (top 25)) .none kV20 dc20 pm20 an20 cd20 ct20), sl20⟩)
    (c20 : PySem.W.codeIn K cd20 "check_row" = true) (k20 : PySem.W.keepIn K (.ref a20) = true)
    (x21 : PySem.W.nsIn K mainGlobals "minus" = some (some (.ref a21)))
    (l21 : K.lookup a21 = some ⟨oc21, od21, .func (PySem.W.fnOf "minus" "minus" (defArgs (top 16)) (defBody (top 16)) (defScope (top 16)) .none kV21 dc21 pm21 an21 cd21 ct21), sl21⟩)
    (c21 : PySem.W.codeIn K cd21 "minus" = true) (k21 : PySem.W.keepIn K (.ref a21) = true)
    (x22 : PySem.W.nsIn K mainGlobals "lags_by_turns" = some (some (.ref a22)))
    (l22 : K.lookup a22 = some ⟨oc22, od22, .func (PySem.W.fnOf "lags_by_turns" "lags_by_turns" (defArgs (top 26)) (defBody (top 26)) (defScope (top 26)) .none kV22 dc22 pm22 an22 cd22 ct22), sl22⟩)
    (c22 : PySem.W.codeIn K cd22 "lags_by_turns" = true) (k22 : PySem.W.keepIn K (.ref a22) = true)
    (x23 : PySem.W.nsIn K mainGlobals "unsigned" = some (some (.ref a23)))
    (l23 : K.lookup a23 = some ⟨oc23, od23, .func (PySem.W.fnOf "unsigned" "unsigned" (defArgs (top 19)) (defBody (top 19)) (defScope (top 19)) .none kV23 dc23 pm23 an23 cd23 ct23), sl23⟩)
    (c23 : PySem.W.codeIn K cd23 "unsigned" = true) (k23 : PySem.W.keepIn K (.ref a23) = true)
    (x24 : PySem.W.nsIn K mainGlobals "less" = some (some (.ref a24)))
    (l24 : K.lookup a24 = some ⟨oc24, od24, .func (PySem.W.fnOf "less" "less" (defArgs (top 18)) (defBody (top 18)) (defScope (top 18)) .none kV24 dc24 pm24 an24 cd24 ct24), sl24⟩)
    (c24 : PySem.W.codeIn K cd24 "less" = true) (k24 : PySem.W.keepIn K (.ref a24) = true)
    (x25 : PySem.W.nsIn K mainGlobals "worst" = some (some (.ref a25)))
    (l25 : K.lookup a25 = some ⟨oc25, od25, .func (PySem.W.fnOf "worst" "worst" (defArgs (top 27)) (defBody (top 27)) (defScope (top 27)) .none kV25 dc25 pm25 an25 cd25 ct25), sl25⟩)
    (c25 : PySem.W.codeIn K cd25 "worst" = true) (k25 : PySem.W.keepIn K (.ref a25) = true)
    (x26 : PySem.W.nsIn K mainGlobals "is_fraction" = some (some (.ref a26)))
    (l26 : K.lookup a26 = some ⟨oc26, od26, .func (PySem.W.fnOf "is_fraction" "is_fraction" (defArgs (top 13)) (defBody (top 13)) (defScope (top 13)) .none kV26 dc26 pm26 an26 cd26 ct26), sl26⟩)
    (c26 : PySem.W.codeIn K cd26 "is_fraction" = true) (k26 : PySem.W.keepIn K (.ref a26) = true)
    (x27 : PySem.W.nsIn K mainGlobals "check_bound" = some (some (.ref a27)))
    (l27 : K.lookup a27 = some ⟨oc27, od27, .func (PySem.W.fnOf "check_bound" "check_bound" (defArgs (top 22)) (defBody (top 22)) (defScope (top 22)) .none kV27 dc27 pm27 an27 cd27 ct27), sl27⟩)
    (c27 : PySem.W.codeIn K cd27 "check_bound" = true) (k27 : PySem.W.keepIn K (.ref a27) = true)
    (x28 : PySem.W.nsIn K mainGlobals "lag_keeps" = some (some (.ref a28)))
    (l28 : K.lookup a28 = some ⟨oc28, od28, .func (PySem.W.fnOf "lag_keeps" "lag_keeps" (defArgs (top 23)) (defBody (top 23)) (defScope (top 23)) .none kV28 dc28 pm28 an28 cd28 ct28), sl28⟩)
    (c28 : PySem.W.codeIn K cd28 "lag_keeps" = true) (k28 : PySem.W.keepIn K (.ref a28) = true)
    (x29 : PySem.W.nsIn K mainGlobals "keeps" = some (some (.ref a29)))
    (l29 : K.lookup a29 = some ⟨oc29, od29, .func (PySem.W.fnOf "keeps" "keeps" (defArgs (top 29)) (defBody (top 29)) (defScope (top 29)) .none kV29 dc29 pm29 an29 cd29 ct29), sl29⟩)
    (c29 : PySem.W.codeIn K cd29 "keeps" = true) (k29 : PySem.W.keepIn K (.ref a29) = true)
    (x30 : PySem.W.nsIn K mainGlobals "_law_lags" = some (some (.ref a30)))
    (l30 : K.lookup a30 = some ⟨oc30, od30, .func (PySem.W.fnOf "_law_lags" "_law_lags" (defArgs (top 49)) (defBody (top 49)) (defScope (top 49)) .none kV30 dc30 pm30 an30 cd30 ct30), sl30⟩)
    (c30 : PySem.W.codeIn K cd30 "_law_lags" = true) (k30 : PySem.W.keepIn K (.ref a30) = true)
    (x31 : PySem.W.nsIn K mainGlobals "_law_keeps" = some (some (.ref a31)))
    (l31 : K.lookup a31 = some ⟨oc31, od31, .func (PySem.W.fnOf "_law_keeps" "_law_keeps" (defArgs (top 52)) (defBody (top 52)) (defScope (top 52)) .none kV31 dc31 pm31 an31 cd31 ct31), sl31⟩)
    (c31 : PySem.W.codeIn K cd31 "_law_keeps" = true) (k31 : PySem.W.keepIn K (.ref a31) = true)
    (x32 : PySem.W.nsIn K mainGlobals "_law_due" = some (some (.ref a32)))
    (l32 : K.lookup a32 = some ⟨oc32, od32, .func (PySem.W.fnOf "_law_due" "_law_due" (defArgs (top 53)) (defBody (top 53)) (defScope (top 53)) .none kV32 dc32 pm32 an32 cd32 ct32), sl32⟩)
    (c32 : PySem.W.codeIn K cd32 "_law_due" = true) (k32 : PySem.W.keepIn K (.ref a32) = true)
    (x33 : PySem.W.nsIn K mainGlobals "law" = some (some (.ref a33)))
    (l33 : K.lookup a33 = some ⟨oc33, od33, .func (PySem.W.fnOf "law" "law" (defArgs (top 54)) (defBody (top 54)) (defScope (top 54)) .none kV33 dc33 pm33 an33 cd33 ct33), sl33⟩)
    (c33 : PySem.W.codeIn K cd33 "law" = true) (k33 : PySem.W.keepIn K (.ref a33) = true)
    {X1 : Addr} (xn1 : PySem.W.nsIn K mainGlobals "NoPlan" = some (some (.ref X1)))
    (xb1 : PySem.W.isClsIn K X1 = true) (xy1 : PySem.W.typeIn K (.ref X1) = some (.type "type")) (xs1 : PySem.W.subIn K (.ref X1) (.type "BaseException") = some true)
    {X2 : Addr} (xn2 : PySem.W.nsIn K mainGlobals "NoFraction" = some (some (.ref X2)))
    (xb2 : PySem.W.isClsIn K X2 = true) (xy2 : PySem.W.typeIn K (.ref X2) = some (.type "type")) (xs2 : PySem.W.subIn K (.ref X2) (.type "BaseException") = some true)
    {X3 : Addr} (xn3 : PySem.W.nsIn K mainGlobals "NoRow" = some (some (.ref X3)))
    (xb3 : PySem.W.isClsIn K X3 = true) (xy3 : PySem.W.typeIn K (.ref X3) = some (.type "type")) (xs3 : PySem.W.subIn K (.ref X3) (.type "BaseException") = some true)
    {X4 : Addr} (xn4 : PySem.W.nsIn K mainGlobals "DueError" = some (some (.ref X4)))
    (xb4 : PySem.W.isClsIn K X4 = true) (xy4 : PySem.W.typeIn K (.ref X4) = some (.type "type")) (xs4 : PySem.W.subIn K (.ref X4) (.type "BaseException") = some true)
    {X5 : Addr} (xn5 : PySem.W.nsIn K mainGlobals "NoBound" = some (some (.ref X5)))
    (xb5 : PySem.W.isClsIn K X5 = true) (xy5 : PySem.W.typeIn K (.ref X5) = some (.type "type")) (xs5 : PySem.W.subIn K (.ref X5) (.type "BaseException") = some true)
    (xvb : PySem.W.subIn K (.type "ValueError") (.type "BaseException") = some true)
    (xw2 : PySem.W.subIn K (.ref X2) (.ref X2) = some true)
    (xw3 : PySem.W.subIn K (.ref X3) (.ref X3) = some true)
    (xw5 : PySem.W.subIn K (.ref X5) (.ref X5) = some true)
    (xhn : PySem.W.specialIn K (.builtin "object.__class__") "__get__" = some (some (.builtin "getset_descriptor.__get__"))) (xht : PySem.W.takesIn K (.builtin "object.__class__") = some true)
    (xg2 : PySem.W.findIn K (.ref X2) "__getattribute__" = some (some (.builtin "BaseException.__getattribute__"))) (xk2 : PySem.W.findIn K (.ref X2) "__getattr__" = some none) (xd2 : PySem.W.hasDictIn K X2 = true) (xa2 : PySem.W.findIn K (.ref X2) "__class__" = some (some (.builtin "object.__class__"))) (xm2 : PySem.W.mroIn K X2 (.type "object") = some true) (xt2 : PySem.W.findIn K (.ref X2) "at" = some none)
    (xi2 : PySem.W.excIn K X2 [.type "ValueError", .type "Exception", .type "BaseException", .type "object"] "ValueError.__new__" = true) (xp2 : PySem.W.keepIn K (.ref X2) = true)
    (xg3 : PySem.W.findIn K (.ref X3) "__getattribute__" = some (some (.builtin "BaseException.__getattribute__"))) (xk3 : PySem.W.findIn K (.ref X3) "__getattr__" = some none) (xd3 : PySem.W.hasDictIn K X3 = true) (xa3 : PySem.W.findIn K (.ref X3) "__class__" = some (some (.builtin "object.__class__"))) (xm3 : PySem.W.mroIn K X3 (.type "object") = some true) (xt3 : PySem.W.findIn K (.ref X3) "at" = some none)
    {nmX3 qX3 : Str} {NX3 fX3 : Addr} {bsX3 suX3 : List Value} {snX3 : List Str} {abX3 : Bool} {coX3 : Option Bool} {ddX3 odX3 anX3 : Option Addr} {mX3_0 mX3_1 mX3_2 mX3_3 mX3_5 : Option Value} {ocX3 kVX3 dcX3 pmX3 cdX3 ctX3 : Value} {slX3 : Array (Option Value)}
    (xl3 : K.lookup X3 = some (excClassObj nmX3 qX3 X3 NX3 bsX3 [.ref X4, .type "ValueError", .type "Exception", .type "BaseException", .type "object"] true snX3 suX3 abX3 coX3 ddX3 mX3_0 mX3_1 mX3_2 mX3_3 mX3_5 "ValueError.__new__"))
    (xz3 : PySem.W.findIn K (.ref X3) "__setattr__" = some (some (.builtin "object.__setattr__"))) (xp3 : PySem.W.keepIn K (.ref X3) = true)
    (xf3 : PySem.W.findIn K (.ref X3) "__init__" = some (some (.ref fX3))) (xu3 : PySem.W.typeIn K (.ref fX3) = some (.type "function"))
    (lX3 : K.lookup fX3 = some ⟨ocX3, odX3, .func (PySem.W.fnOf "__init__" "NoRow.__init__" (defArgs (inClass (top 7) 0)) (defBody (inClass (top 7) 0)) (defScope (inClass (top 7) 0)) .none kVX3 dcX3 pmX3 anX3 cdX3 ctX3), slX3⟩) (cX3 : PySem.W.codeIn K cdX3 "NoRow.__init__" = true) (kX3 : PySem.W.keepIn K (.ref fX3) = true)
    (xo3 : PySem.W.specialIn K (.ref X4) "__getattribute__" = some (some (.builtin "type.__getattribute__"))) (xe3 : PySem.W.readsIn K X4 (.type "type") = true) (xv3 : PySem.W.findCls K (.ref X4) (.type "type") "__init__" = some (.val (.builtin "ValueError.__init__")))
    (xg5 : PySem.W.findIn K (.ref X5) "__getattribute__" = some (some (.builtin "BaseException.__getattribute__"))) (xk5 : PySem.W.findIn K (.ref X5) "__getattr__" = some none) (xd5 : PySem.W.hasDictIn K X5 = true) (xa5 : PySem.W.findIn K (.ref X5) "__class__" = some (some (.builtin "object.__class__"))) (xm5 : PySem.W.mroIn K X5 (.type "object") = some true) (xt5 : PySem.W.findIn K (.ref X5) "at" = some none)
    (xi5 : PySem.W.excIn K X5 [.type "ValueError", .type "Exception", .type "BaseException", .type "object"] "ValueError.__new__" = true) (xp5 : PySem.W.keepIn K (.ref X5) = true)
    (xr2_0 : PySem.W.subIn K (.ref X2) (.type "ValueError") = some true)
    (xr2_1 : PySem.W.subIn K (.ref X2) (.ref X1) = some false)
    (xr2_2 : PySem.W.subIn K (.ref X2) (.ref X2) = some true)
    (xr2_3 : PySem.W.subIn K (.ref X2) (.ref X3) = some false)
    (xr2_4 : PySem.W.subIn K (.ref X2) (.ref X4) = some true)
    (xr2_5 : PySem.W.subIn K (.ref X2) (.ref X5) = some false)
    (xr3_0 : PySem.W.subIn K (.ref X3) (.type "ValueError") = some true)
    (xr3_1 : PySem.W.subIn K (.ref X3) (.ref X1) = some false)
    (xr3_2 : PySem.W.subIn K (.ref X3) (.ref X2) = some false)
    (xr3_3 : PySem.W.subIn K (.ref X3) (.ref X3) = some true)
    (xr3_4 : PySem.W.subIn K (.ref X3) (.ref X4) = some true)
    (xr3_5 : PySem.W.subIn K (.ref X3) (.ref X5) = some false)
    (xr5_0 : PySem.W.subIn K (.ref X5) (.type "ValueError") = some true)
    (xr5_1 : PySem.W.subIn K (.ref X5) (.ref X1) = some false)
    (xr5_2 : PySem.W.subIn K (.ref X5) (.ref X2) = some false)
    (xr5_3 : PySem.W.subIn K (.ref X5) (.ref X3) = some false)
    (xr5_4 : PySem.W.subIn K (.ref X5) (.ref X4) = some true)
    (xr5_5 : PySem.W.subIn K (.ref X5) (.ref X5) = some true)
    (z_range : PySem.W.nsIn K mainGlobals "range" = some none)
    (z_sum : PySem.W.nsIn K mainGlobals "sum" = some none)
    (z_len : PySem.W.nsIn K mainGlobals "len" = some none)
    (z_isinstance : PySem.W.nsIn K mainGlobals "isinstance" = some none)
    (z_list : PySem.W.nsIn K mainGlobals "list" = some none)
    (z_tuple : PySem.W.nsIn K mainGlobals "tuple" = some none)
    (z_int : PySem.W.nsIn K mainGlobals "int" = some none)
    (z_bool : PySem.W.nsIn K mainGlobals "bool" = some none)
    (z_abs : PySem.W.nsIn K mainGlobals "abs" = some none)
    (z_zip : PySem.W.nsIn K mainGlobals "zip" = some none)
    {tk0 : Tok} (cx0 : PySem.W.nsIn K mainGlobals "MOST_SPELLS" = some (some (.int 8 tk0)))
    {tk1 : Tok} (cx1 : PySem.W.nsIn K mainGlobals "MOST_IN_SPELL" = some (some (.int 60 tk1)))
    {tk2 : Tok} (cx2 : PySem.W.nsIn K mainGlobals "MOST_CLAIMANTS" = some (some (.int 6 tk2)))
    {tk3 : Tok} (cx3 : PySem.W.nsIn K mainGlobals "MOST_WEIGHT" = some (some (.int 1000 tk3)))
    {tk4 : Tok} (cx4 : PySem.W.nsIn K mainGlobals "MOST_TURNS" = some (some (.int 240 tk4)))
    {ca5 : Addr} {od5c : Option Addr} {sl5c : Array (Option Value)} {tk5_0 tk5_1 : Tok} {cn5 : Nat} (cx5 : PySem.W.nsIn K mainGlobals "NOUGHT" = some (some (.ref ca5))) (cl5 : K.lookup ca5 = some ⟨.type "tuple", od5c, .seq #[.int 0 tk5_0, .int 1 tk5_1] cn5, sl5c⟩)
    {tk6 : Tok} (cx6 : PySem.W.nsIn K mainGlobals "MOST_BOUND" = some (some (.int 300 tk6)))
    : ∃ (g : PL.G) (xg : XG) (fd : FuncData), g.K = K ∧ (∀ (s : Shared) (u : Value), BindsTo s fd ⟨[u], []⟩ [("_law_script", u)]) ∧
      ∀ base : Heap, K.In base → base.Ns mainGlobals mg → FnOk l.prog w K mg base (L2.CX l.prog w) 38 fa fd ["_law_script"] (pSp g xg f33) := by
  have e := hfa.symm.trans (PySem.W.mg_of X G x33)
  cases e
  have F0 := fun_mk (st := (top 42)) l0 c0 k0
  have q0 := F0.binds (ps := ["_law_cell", "_law_k", "_law_bound_here"]) fun _ _ _ _ _ _ us hl => match us, hl with | [_, _, _], _ => rfl
  have F1 := fun_mk (st := (top 46)) l1 c1 k1
  have q1 := F1.binds (ps := ["_law_cell", "_law_k"]) fun _ _ _ _ _ _ us hl => match us, hl with | [_, _], _ => rfl
  have F2 := fun_mk (st := (top 47)) l2 c2 k2
  have q2 := F2.binds (ps := ["_law_cell", "_law_other", "_law_most"]) fun _ _ _ _ _ _ us hl => match us, hl with | [_, _, _], _ => rfl
  have F3 := fun_mk (st := (top 41)) l3 c3 k3
  have q3 := F3.binds (ps := ["_law_script", "_law_k"]) fun _ _ _ _ _ _ us hl => match us, hl with | [_, _], _ => rfl
  have F4 := fun_mk (st := (top 11)) l4 c4 k4
  have q4 := F4.binds (ps := ["thing"]) fun _ _ _ _ _ _ us hl => match us, hl with | [_], _ => rfl
  have F5 := fun_mk (st := (top 36)) l5 c5 k5
  have q5 := F5.binds (ps := ["thing"]) fun _ _ _ _ _ _ us hl => match us, hl with | [_], _ => rfl
  have F6 := fun_mk (st := (top 37)) l6 c6 k6
  have q6 := F6.binds (ps := ["thing"]) fun _ _ _ _ _ _ us hl => match us, hl with | [_], _ => rfl
  have F7 := fun_mk (st := (top 38)) l7 c7 k7
  have q7 := F7.binds (ps := ["thing"]) fun _ _ _ _ _ _ us hl => match us, hl with | [_], _ => rfl
  have F8 := fun_mk (st := (top 12)) l8 c8 k8
  have q8 := F8.binds (ps := ["one", "other"]) fun _ _ _ _ _ _ us hl => match us, hl with | [_, _], _ => rfl
  have F9 := fun_mk (st := (top 14)) l9 c9 k9
  have q9 := F9.binds (ps := ["top", "bottom"]) fun _ _ _ _ _ _ us hl => match us, hl with | [_, _], _ => rfl
  have F10 := fun_mk (st := (top 15)) l10 c10 k10
  have q10 := F10.binds (ps := ["one", "other"]) fun _ _ _ _ _ _ us hl => match us, hl with | [_, _], _ => rfl
  have F11 := fun_mk (st := (inClass (top 39) 3)) l11 c11 k11
  have q11 := F11.binds (ps := ["self"]) fun _ _ _ _ _ _ us hl => match us, hl with | [_], _ => rfl
  have F12 := fun_mk (st := (inClass (top 39) 5)) l12 c12 k12
  have q12 := F12.binds (ps := ["self"]) fun _ _ _ _ _ _ us hl => match us, hl with | [_], _ => rfl
  have F13 := fun_mk (st := (inClass (top 39) 0)) l13 c13 k13
  have q13 := F13.binds (ps := ["self", "spells"]) fun _ _ _ _ _ _ us hl => match us, hl with | [_, _], _ => rfl
  have F14 := fun_mk (st := (top 44)) l14 c14 k14
  have q14 := F14.binds (ps := ["_law_one", "_law_other"]) fun _ _ _ _ _ _ us hl => match us, hl with | [_, _], _ => rfl
  have F15 := fun_mk (st := (top 45)) l15 c15 k15
  have q15 := F15.binds (ps := ["_law_top", "_law_bottom"]) fun _ _ _ _ _ _ us hl => match us, hl with | [_, _], _ => rfl
  have F16 := fun_mk (st := (top 48)) l16 c16 k16
  have q16 := F16.binds (ps := ["_law_spells_here"]) fun _ _ _ _ _ _ us hl => match us, hl with | [_], _ => rfl
  have F17 := fun_mk (st := (top 50)) l17 c17 k17
  have q17 := F17.binds (ps := ["_law_cell", "_law_turns", "_law_many"]) fun _ _ _ _ _ _ us hl => match us, hl with | [_, _, _], _ => rfl
  have F18 := fun_mk (st := (top 51)) l18 c18 k18
  have q18 := F18.binds (ps := ["_law_cell", "_law_dues_here"]) fun _ _ _ _ _ _ us hl => match us, hl with | [_, _], _ => rfl
  have F19 := fun_mk (st := (inClass (top 39) 2)) l19 c19 k19
  have q19 := F19.binds (ps := ["self"]) fun _ _ _ _ _ _ us hl => match us, hl with | [_], _ => rfl
  have F20 := fun_mk (st := (top 25)) l20 c20 k20
  have q20 := F20.binds (ps := ["plan", "row"]) fun _ _ _ _ _ _ us hl => match us, hl with | [_, _], _ => rfl
  have F21 := fun_mk (st := (top 16)) l21 c21 k21
  have q21 := F21.binds (ps := ["one", "other"]) fun _ _ _ _ _ _ us hl => match us, hl with | [_, _], _ => rfl
  have F22 := fun_mk (st := (top 26)) l22 c22 k22
  have q22 := F22.binds (ps := ["plan", "row"]) fun _ _ _ _ _ _ us hl => match us, hl with | [_, _], _ => rfl
  have F23 := fun_mk (st := (top 19)) l23 c23 k23
  have q23 := F23.binds (ps := ["one"]) fun _ _ _ _ _ _ us hl => match us, hl with | [_], _ => rfl
  have F24 := fun_mk (st := (top 18)) l24 c24 k24
  have q24 := F24.binds (ps := ["one", "other"]) fun _ _ _ _ _ _ us hl => match us, hl with | [_, _], _ => rfl
  have F25 := fun_mk (st := (top 27)) l25 c25 k25
  have q25 := F25.binds (ps := ["plan", "row"]) fun _ _ _ _ _ _ us hl => match us, hl with | [_, _], _ => rfl
  have F26 := fun_mk (st := (top 13)) l26 c26 k26
  have q26 := F26.binds (ps := ["thing"]) fun _ _ _ _ _ _ us hl => match us, hl with | [_], _ => rfl
  have F27 := fun_mk (st := (top 22)) l27 c27 k27
  have q27 := F27.binds (ps := ["bound"]) fun _ _ _ _ _ _ us hl => match us, hl with | [_], _ => rfl
  have F28 := fun_mk (st := (top 23)) l28 c28 k28
  have q28 := F28.binds (ps := ["bound", "far"]) fun _ _ _ _ _ _ us hl => match us, hl with | [_, _], _ => rfl
  have F29 := fun_mk (st := (top 29)) l29 c29 k29
  have q29 := F29.binds (ps := ["plan", "bound", "row"]) fun _ _ _ _ _ _ us hl => match us, hl with | [_, _, _], _ => rfl
  have F30 := fun_mk (st := (top 49)) l30 c30 k30
  have q30 := F30.binds (ps := ["_law_dues_here", "_law_row_here"]) fun _ _ _ _ _ _ us hl => match us, hl with | [_, _], _ => rfl
  have F31 := fun_mk (st := (top 52)) l31 c31 k31
  have q31 := F31.binds (ps := ["_law_bound_here", "_law_far"]) fun _ _ _ _ _ _ us hl => match us, hl with | [_, _], _ => rfl
  have F32 := fun_mk (st := (top 53)) l32 c32 k32
  have q32 := F32.binds (ps := ["_law_dues_here", "_law_row_here", "_law_bound_here"]) fun _ _ _ _ _ _ us hl => match us, hl with | [_, _, _], _ => rfl
  have F33 := fun_mk (st := (top 54)) l33 c33 k33
  refine ⟨{ K := K, CA := fun c => if c = 0 then C0 else 0, AN := anOf ["kept", "table"] }, ⟨fun c => if c = 1 then .ref X1 else if c = 2 then .ref X2 else if c = 3 then .ref X3 else if c = 4 then .ref X4 else if c = 5 then .ref X5 else .type "ValueError"⟩, _, rfl, fun s v => BindsTo.of_eq (fd := PySem.W.fnOf "law" "law" (defArgs (top 54)) (defBody (top 54)) (defScope (top 54)) .none kV33 dc33 pm33 an33 cd33 ct33) rfl, fun base _ _ => ?_⟩
  have Cl0 : Cls K C0 := ⟨pg0, hd0, po0, sa0⟩
  obtain ⟨gg, egg⟩ : ∃ gg : PL.G, gg = { K := K, CA := fun c => if c = 0 then C0 else 0, AN := anOf ["kept", "table"] } := ⟨_, rfl⟩
  rw [← egg]
  have CAe0 : gg.CA 0 = C0 := by rw [egg]; rfl
  have gK : gg.K = K := by rw [egg]
  have gA : gg.AN = anOf ["kept", "table"] := by rw [egg]
  have hfo : ∀ c f, E0.fo c f = true → Cls K (gg.CA c) ∧ NoAttr K (gg.CA c) (gg.AN f) := fun c f h => by
    have h2 : fo0 c f = true := h
    simp only [fo0, Bool.or_eq_true, decide_eq_true_eq, or_assoc] at h2
    rcases h2 with ⟨rfl, rfl⟩ | ⟨rfl, rfl⟩
    · rw [CAe0, gA]; exact ⟨Cl0, na0_0⟩
    · rw [CAe0, gA]; exact ⟨Cl0, na0_1⟩
  have xq2_0 := kit_VE xr2_0
  have xe2_0 := exm_VE xvb xr2_0
  have xq2_1 := kit_ref xw2 xb1 xy1 xr2_1
  have xe2_1 := exm_ref xs1 xb1 xy1 xr2_1
  have xq2_2 := kit_ref xw2 xb2 xy2 xr2_2
  have xe2_2 := exm_ref xs2 xb2 xy2 xr2_2
  have xq2_3 := kit_ref xw2 xb3 xy3 xr2_3
  have xe2_3 := exm_ref xs3 xb3 xy3 xr2_3
  have xq2_4 := kit_ref xw2 xb4 xy4 xr2_4
  have xe2_4 := exm_ref xs4 xb4 xy4 xr2_4
  have xq2_5 := kit_ref xw2 xb5 xy5 xr2_5
  have xe2_5 := exm_ref xs5 xb5 xy5 xr2_5
  have xq3_0 := kit_VE xr3_0
  have xe3_0 := exm_VE xvb xr3_0
  have xq3_1 := kit_ref xw3 xb1 xy1 xr3_1
  have xe3_1 := exm_ref xs1 xb1 xy1 xr3_1
  have xq3_2 := kit_ref xw3 xb2 xy2 xr3_2
  have xe3_2 := exm_ref xs2 xb2 xy2 xr3_2
  have xq3_3 := kit_ref xw3 xb3 xy3 xr3_3
  have xe3_3 := exm_ref xs3 xb3 xy3 xr3_3
  have xq3_4 := kit_ref xw3 xb4 xy4 xr3_4
  have xe3_4 := exm_ref xs4 xb4 xy4 xr3_4
  have xq3_5 := kit_ref xw3 xb5 xy5 xr3_5
  have xe3_5 := exm_ref xs5 xb5 xy5 xr3_5
  have xq5_0 := kit_VE xr5_0
  have xe5_0 := exm_VE xvb xr5_0
  have xq5_1 := kit_ref xw5 xb1 xy1 xr5_1
  have xe5_1 := exm_ref xs1 xb1 xy1 xr5_1
  have xq5_2 := kit_ref xw5 xb2 xy2 xr5_2
  have xe5_2 := exm_ref xs2 xb2 xy2 xr5_2
  have xq5_3 := kit_ref xw5 xb3 xy3 xr5_3
  have xe5_3 := exm_ref xs3 xb3 xy3 xr5_3
  have xq5_4 := kit_ref xw5 xb4 xy4 xr5_4
  have xe5_4 := exm_ref xs4 xb4 xy4 xr5_4
  have xq5_5 := kit_ref xw5 xb5 xy5 xr5_5
  have xe5_5 := exm_ref xs5 xb5 xy5 xr5_5
  obtain ⟨xgg, ex⟩ : ∃ xgg : XG, xgg = ⟨fun c => if c = 1 then .ref X1 else if c = 2 then .ref X2 else if c = 3 then .ref X3 else if c = 4 then .ref X4 else if c = 5 then .ref X5 else .type "ValueError"⟩ := ⟨_, rfl⟩
  rw [← ex]
  have v0 : xgg.XV 0 = .type "ValueError" := by rw [ex]; rfl
  have v1 : xgg.XV 1 = .ref X1 := by rw [ex]; rfl
  have v2 : xgg.XV 2 = .ref X2 := by rw [ex]; rfl
  have v3 : xgg.XV 3 = .ref X3 := by rw [ex]; rfl
  have v4 : xgg.XV 4 = .ref X4 := by rw [ex]; rfl
  have v5 : xgg.XV 5 = .ref X5 := by rw [ex]; rfl
  have FX3 := fun_mk (st := (inClass (top 7) 0)) lX3 cX3 kX3
  have BX3 := FX3.binds (ps := ["self", "at"]) fun _ _ _ _ _ _ us hl => match us, hl with | [_, _], _ => rfl
  have RK3 : RaK K mg X3 := ⟨⟨⟨_, _, _, _, _, _, _, _, _, _, _, _, _, _, _, xl3, by rfl⟩, xz3, xs3, xy3, xp3⟩, xt3, X4, fX3, "DueError", _, (inClass (top 7) 0), _, ⟨PySem.W.mg_of X G xn4, by decide, fun _ => rfl, xo3, xe3, xv3, xf3, xu3, FX3, scX3, by rfl, ⟨_, _, _, _, _, _, _, _, _, _, _, _, by rfl, by decide⟩, BX3, .inl (by rfl), .inl (by rfl)⟩⟩
  have K2 : ∃ C, xgg.XV 2 = .ref C ∧ ExK K C := ⟨X2, v2, ⟨xg2, xk2, xs2, xd2, xa2, xhn, xht, xm2⟩, xt2⟩
  have K3 : ∃ C, xgg.XV 3 = .ref C ∧ ExK K C := ⟨X3, v3, ⟨xg3, xk3, xs3, xd3, xa3, xhn, xht, xm3⟩, xt3⟩
  have K5 : ∃ C, xgg.XV 5 = .ref C ∧ ExK K C := ⟨X5, v5, ⟨xg5, xk5, xs5, xd5, xa5, xhn, xht, xm5⟩, xt5⟩
  have xcl : ∀ c, isCl (xgg.XV c) = true := fun c => by rw [ex]; dsimp only; repeat (first | rfl | split)
  have XF0 : XF gg xgg E0 K := ⟨by rw [egg], fun i j b h => tbl_all (P := fun i j b => (∃ C, xgg.XV i = .ref C ∧ ExK K C) ∧ isCl (xgg.XV j) = true ∧ PySem.W.kitOne K (xgg.XV i) (xgg.XV j) = some b) (l := tb0) ⟨⟨K2, xcl _, by rw [v2, v0]; exact xq2_0⟩, ⟨K2, xcl _, by rw [v2, v1]; exact xq2_1⟩, ⟨K2, xcl _, by rw [v2]; exact xq2_2⟩, ⟨K2, xcl _, by rw [v2, v3]; exact xq2_3⟩, ⟨K2, xcl _, by rw [v2, v4]; exact xq2_4⟩, ⟨K2, xcl _, by rw [v2, v5]; exact xq2_5⟩, ⟨K3, xcl _, by rw [v3, v0]; exact xq3_0⟩, ⟨K3, xcl _, by rw [v3, v1]; exact xq3_1⟩, ⟨K3, xcl _, by rw [v3, v2]; exact xq3_2⟩, ⟨K3, xcl _, by rw [v3]; exact xq3_3⟩, ⟨K3, xcl _, by rw [v3, v4]; exact xq3_4⟩, ⟨K3, xcl _, by rw [v3, v5]; exact xq3_5⟩, ⟨K5, xcl _, by rw [v5, v0]; exact xq5_0⟩, ⟨K5, xcl _, by rw [v5, v1]; exact xq5_1⟩, ⟨K5, xcl _, by rw [v5, v2]; exact xq5_2⟩, ⟨K5, xcl _, by rw [v5, v3]; exact xq5_3⟩, ⟨K5, xcl _, by rw [v5, v4]; exact xq5_4⟩, ⟨K5, xcl _, by rw [v5]; exact xq5_5⟩, trivial⟩ h, fun i j b h => tbl_all (P := fun i j b => PySem.W.exmOne K (xgg.XV i) (xgg.XV j) = some b) (l := tb0) ⟨(by show PySem.W.exmOne K (xgg.XV 2) (xgg.XV 0) = _; rw [v2, v0]; exact xe2_0), (by show PySem.W.exmOne K (xgg.XV 2) (xgg.XV 1) = _; rw [v2, v1]; exact xe2_1), (by show PySem.W.exmOne K (xgg.XV 2) (xgg.XV 2) = _; rw [v2]; exact xe2_2), (by show PySem.W.exmOne K (xgg.XV 2) (xgg.XV 3) = _; rw [v2, v3]; exact xe2_3), (by show PySem.W.exmOne K (xgg.XV 2) (xgg.XV 4) = _; rw [v2, v4]; exact xe2_4), (by show PySem.W.exmOne K (xgg.XV 2) (xgg.XV 5) = _; rw [v2, v5]; exact xe2_5), (by show PySem.W.exmOne K (xgg.XV 3) (xgg.XV 0) = _; rw [v3, v0]; exact xe3_0), (by show PySem.W.exmOne K (xgg.XV 3) (xgg.XV 1) = _; rw [v3, v1]; exact xe3_1), (by show PySem.W.exmOne K (xgg.XV 3) (xgg.XV 2) = _; rw [v3, v2]; exact xe3_2), (by show PySem.W.exmOne K (xgg.XV 3) (xgg.XV 3) = _; rw [v3]; exact xe3_3), (by show PySem.W.exmOne K (xgg.XV 3) (xgg.XV 4) = _; rw [v3, v4]; exact xe3_4), (by show PySem.W.exmOne K (xgg.XV 3) (xgg.XV 5) = _; rw [v3, v5]; exact xe3_5), (by show PySem.W.exmOne K (xgg.XV 5) (xgg.XV 0) = _; rw [v5, v0]; exact xe5_0), (by show PySem.W.exmOne K (xgg.XV 5) (xgg.XV 1) = _; rw [v5, v1]; exact xe5_1), (by show PySem.W.exmOne K (xgg.XV 5) (xgg.XV 2) = _; rw [v5, v2]; exact xe5_2), (by show PySem.W.exmOne K (xgg.XV 5) (xgg.XV 3) = _; rw [v5, v3]; exact xe5_3), (by show PySem.W.exmOne K (xgg.XV 5) (xgg.XV 4) = _; rw [v5, v4]; exact xe5_4), (by show PySem.W.exmOne K (xgg.XV 5) (xgg.XV 5) = _; rw [v5]; exact xe5_5), trivial⟩ h, fun c h => rz_all (P := fun c => ∃ C, xgg.XV c = .ref C ∧ RzK K C) (l := rz0) ⟨⟨X2, v2, xi2, xp2, xs2, xy2⟩, ⟨X5, v5, xi5, xp5, xs5, xy5⟩, trivial⟩ h, v0, xcl⟩
  have G0 : Gok gg xgg E0 l.prog w K mg base 3 { N := [], gn := [], at_ := [("kept", 0), ("table", 1)], me := [("spells", 0), ("turns", 1), ("many", 2), ("spell_of", 3), ("dues_by_turns", 4), ("check_turns", 5), ("check_claimant", 6), ("share", 7), ("due", 8), ("cut", 9), ("joined", 10)] } := Gok.first2 gK (by rw [gA]; exact anOf_inj (by decide +kernel) (by decide +kernel)) (by rw [gA]; decide +kernel) (by rw [gA]; exact anOf_nes (by decide +kernel)) (fun _ _ => rfl) hfo (by rw [egg]) XF0 (fun c h => rz_all (P := fun c => (∃ C, xgg.XV c = .ref C ∧ RaK K mg C) ∧ 3 ≤ 3) (l := ra0) ⟨⟨⟨X3, v3, RK3⟩, by decide⟩, trivial⟩ h)
  clear egg
  replace G0 := G0.addNon (x := "range") (PySem.W.mg_none_of X G z_range)
  replace G0 := G0.addNon (x := "sum") (PySem.W.mg_none_of X G z_sum)
  replace G0 := G0.addNon (x := "len") (PySem.W.mg_none_of X G z_len)
  replace G0 := G0.addNon (x := "isinstance") (PySem.W.mg_none_of X G z_isinstance)
  replace G0 := G0.addNon (x := "list") (PySem.W.mg_none_of X G z_list)
  replace G0 := G0.addNon (x := "tuple") (PySem.W.mg_none_of X G z_tuple)
  replace G0 := G0.addNon (x := "int") (PySem.W.mg_none_of X G z_int)
  replace G0 := G0.addNon (x := "bool") (PySem.W.mg_none_of X G z_bool)
  replace G0 := G0.addNon (x := "abs") (PySem.W.mg_none_of X G z_abs)
  replace G0 := G0.addNon (x := "zip") (PySem.W.mg_none_of X G z_zip)
  replace G0 := G0.addC (x := "MOST_SPELLS") (c := .con 0) ⟨.int 8, _, PySem.W.mg_of X G cx0, ⟨_, rfl⟩, fun H S => own_int⟩
  replace G0 := G0.addC (x := "MOST_IN_SPELL") (c := .con 1) ⟨.int 60, _, PySem.W.mg_of X G cx1, ⟨_, rfl⟩, fun H S => own_int⟩
  replace G0 := G0.addC (x := "MOST_CLAIMANTS") (c := .con 2) ⟨.int 6, _, PySem.W.mg_of X G cx2, ⟨_, rfl⟩, fun H S => own_int⟩
  replace G0 := G0.addC (x := "MOST_WEIGHT") (c := .con 3) ⟨.int 1000, _, PySem.W.mg_of X G cx3, ⟨_, rfl⟩, fun H S => own_int⟩
  replace G0 := G0.addC (x := "MOST_TURNS") (c := .con 4) ⟨.int 240, _, PySem.W.mg_of X G cx4, ⟨_, rfl⟩, fun H S => own_int⟩
  replace G0 := G0.addC (x := "NOUGHT") (c := .con 5) ⟨.ref ca5, .ref ca5, PySem.W.mg_of X G cx5, rfl, fun H S => con_tup (ns := [0, 1]) gK cl5 (by show 2 ≤ sizeLine; rw [sizeLine_eq]; omega) (.cons ⟨_, rfl⟩ (.cons ⟨_, rfl⟩ .nil))⟩
  replace G0 := G0.addC (x := "MOST_BOUND") (c := .con 6) ⟨.int 300, _, PySem.W.mg_of X G cx6, ⟨_, rfl⟩, fun H S => own_int⟩
  replace G0 := G0.addC (x := "NoPlan") (c := .exc 1) (show mg "NoPlan" = some (xgg.XV 1) by rw [v1]; exact PySem.W.mg_of X G xn1)
  replace G0 := G0.addC (x := "NoFraction") (c := .exc 2) (show mg "NoFraction" = some (xgg.XV 2) by rw [v2]; exact PySem.W.mg_of X G xn2)
  replace G0 := G0.addC (x := "NoRow") (c := .exc 3) (show mg "NoRow" = some (xgg.XV 3) by rw [v3]; exact PySem.W.mg_of X G xn3)
  replace G0 := G0.addC (x := "DueError") (c := .exc 4) (show mg "DueError" = some (xgg.XV 4) by rw [v4]; exact PySem.W.mg_of X G xn4)
  replace G0 := G0.addC (x := "NoBound") (c := .exc 5) (show mg "NoBound" = some (xgg.XV 5) by rw [v5]; exact PySem.W.mg_of X G xn5)
  have H0 := fn_ok (T := t0) G0 F0 sc0 ck0
  have G1 : Gok gg xgg E1 l.prog w K mg base 4 t1 := G0.addFn 0 H0 (PySem.W.mg_of X G x0) k0 q0 (by decide +kernel)
  have H1 := fn_ok (T := t1) G1 F1 sc1 ck1
  have G2 : Gok gg xgg E2 l.prog w K mg base 5 t2 := G1.addFn 1 H1 (PySem.W.mg_of X G x1) k1 q1 (by decide +kernel)
  have H2 := fn_ok (T := t2) G2 F2 sc2 ck2
  have G3 : Gok gg xgg E3 l.prog w K mg base 6 t3 := G2.addFn 2 H2 (PySem.W.mg_of X G x2) k2 q2 (by decide +kernel)
  have H3 := fn_ok (T := t3) G3 F3 sc3 ck3
  have G4 : Gok gg xgg E4 l.prog w K mg base 7 t4 := G3.addFn 3 H3 (PySem.W.mg_of X G x3) k3 q3 (by decide +kernel)
  have H4 := fn_ok (T := t4) G4 F4 sc4 ck4
  have G5 : Gok gg xgg E5 l.prog w K mg base 8 t5 := G4.addFn 4 H4 (PySem.W.mg_of X G x4) k4 q4 (by decide +kernel)
  have H5 := fn_ok (T := t5) G5 F5 sc5 ck5
  have G6 : Gok gg xgg E6 l.prog w K mg base 9 t6 := G5.addFn 5 H5 (PySem.W.mg_of X G x5) k5 q5 (by decide +kernel)
  have H6 := fn_ok (T := t6) G6 F6 sc6 ck6
  have G7 : Gok gg xgg E7 l.prog w K mg base 10 t7 := G6.addFn 6 H6 (PySem.W.mg_of X G x6) k6 q6 (by decide +kernel)
  have H7 := fn_ok (T := t7) G7 F7 sc7 ck7
  have G8 : Gok gg xgg E8 l.prog w K mg base 11 t8 := G7.addFn 7 H7 (PySem.W.mg_of X G x7) k7 q7 (by decide +kernel)
  have H8 := fn_ok (T := t8) G8 F8 sc8 ck8
  have G9 : Gok gg xgg E9 l.prog w K mg base 12 t9 := G8.addFn 8 H8 (PySem.W.mg_of X G x8) k8 q8 (by decide +kernel)
  have H9 := fn_ok (T := t9) G9 F9 sc9 ck9
  have G10 : Gok gg xgg E10 l.prog w K mg base 13 t10 := G9.addFn 9 H9 (PySem.W.mg_of X G x9) k9 q9 (by decide +kernel)
  have H10 := fn_ok (T := t10) G10 F10 sc10 ck10
  have G11 : Gok gg xgg E11 l.prog w K mg base 14 t11 := G10.addFn 10 H10 (PySem.W.mg_of X G x10) k10 q10 (by decide +kernel)
  have H11 := fn_ok (T := t11) G11 F11 sc11 ck11
  have G12 : Gok gg xgg E12 l.prog w K mg base 15 t12 := G11.addMe (m := "many") 2 0 H11 (by rw [CAe0]; exact Cl0) (by rw [CAe0]; exact ⟨x11, i11, k11⟩) q11 (by decide +kernel)
  have H12 := fn_ok (T := t12) G12 F12 sc12 ck12
  have G13 : Gok gg xgg E13 l.prog w K mg base 16 t13 := G12.addMe (m := "dues_by_turns") 4 0 H12 (by rw [CAe0]; exact Cl0) (by rw [CAe0]; exact ⟨x12, i12, k12⟩) q12 (by decide +kernel)
  have H13 := init_ok (T := t13) G13 0 F13 sc13 ck13
  have G14 : Gok gg xgg E14 l.prog w K mg base 18 t14 := G13.addMk 0 H13 (by rw [CAe0]; exact PySem.W.mg_of X G cA0) (by rw [CAe0]; exact ⟨mk0, x13, i13, kc0⟩) q13 (by decide +kernel)
  have H14 := fn_ok (T := t14) G14 F14 sc14 ck14
  have G15 : Gok gg xgg E15 l.prog w K mg base 19 t15 := G14.addFn 14 H14 (PySem.W.mg_of X G x14) k14 q14 (by decide +kernel)
  have H15 := fn_ok (T := t15) G15 F15 sc15 ck15
  have G16 : Gok gg xgg E16 l.prog w K mg base 20 t16 := G15.addFn 15 H15 (PySem.W.mg_of X G x15) k15 q15 (by decide +kernel)
  have H16 := fn_ok (T := t16) G16 F16 sc16 ck16
  have G17 : Gok gg xgg E17 l.prog w K mg base 21 t17 := G16.addFn 16 H16 (PySem.W.mg_of X G x16) k16 q16 (by decide +kernel)
  have H17 := fn_ok (T := t17) G17 F17 sc17 ck17
  have G18 : Gok gg xgg E18 l.prog w K mg base 22 t18 := G17.addFn 17 H17 (PySem.W.mg_of X G x17) k17 q17 (by decide +kernel)
  have H18 := fn_ok (T := t18) G18 F18 sc18 ck18
  have G19 : Gok gg xgg E19 l.prog w K mg base 23 t19 := G18.addFn 18 H18 (PySem.W.mg_of X G x18) k18 q18 (by decide +kernel)
  have H19 := fn_ok (T := t19) G19 F19 sc19 ck19
  have G20 : Gok gg xgg E20 l.prog w K mg base 24 t20 := G19.addMe (m := "turns") 1 0 H19 (by rw [CAe0]; exact Cl0) (by rw [CAe0]; exact ⟨x19, i19, k19⟩) q19 (by decide +kernel)
  have H20 := fn_ok (T := t20) G20 F20 sc20 ck20
  have G21 : Gok gg xgg E21 l.prog w K mg base 25 t21 := G20.addFn 20 H20 (PySem.W.mg_of X G x20) k20 q20 (by decide +kernel)
  have H21 := fn_ok (T := t21) G21 F21 sc21 ck21
  have G22 : Gok gg xgg E22 l.prog w K mg base 26 t22 := G21.addFn 21 H21 (PySem.W.mg_of X G x21) k21 q21 (by decide +kernel)
  have H22 := fn_ok (T := t22) G22 F22 sc22 ck22
  have G23 : Gok gg xgg E23 l.prog w K mg base 27 t23 := G22.addFn 22 H22 (PySem.W.mg_of X G x22) k22 q22 (by decide +kernel)
  have H23 := fn_ok (T := t23) G23 F23 sc23 ck23
  have G24 : Gok gg xgg E24 l.prog w K mg base 28 t24 := G23.addFn 23 H23 (PySem.W.mg_of X G x23) k23 q23 (by decide +kernel)
  have H24 := fn_ok (T := t24) G24 F24 sc24 ck24
  have G25 : Gok gg xgg E25 l.prog w K mg base 29 t25 := G24.addFn 24 H24 (PySem.W.mg_of X G x24) k24 q24 (by decide +kernel)
  have H25 := fn_ok (T := t25) G25 F25 sc25 ck25
  have G26 : Gok gg xgg E26 l.prog w K mg base 30 t26 := G25.addFn 25 H25 (PySem.W.mg_of X G x25) k25 q25 (by decide +kernel)
  have H26 := fn_ok (T := t26) G26 F26 sc26 ck26
  have G27 : Gok gg xgg E27 l.prog w K mg base 31 t27 := G26.addFn 26 H26 (PySem.W.mg_of X G x26) k26 q26 (by decide +kernel)
  have H27 := fn_ok (T := t27) G27 F27 sc27 ck27
  have G28 : Gok gg xgg E28 l.prog w K mg base 32 t28 := G27.addFn 27 H27 (PySem.W.mg_of X G x27) k27 q27 (by decide +kernel)
  have H28 := fn_ok (T := t28) G28 F28 sc28 ck28
  have G29 : Gok gg xgg E29 l.prog w K mg base 33 t29 := G28.addFn 28 H28 (PySem.W.mg_of X G x28) k28 q28 (by decide +kernel)
  have H29 := fn_ok (T := t29) G29 F29 sc29 ck29
  have G30 : Gok gg xgg E30 l.prog w K mg base 34 t30 := G29.addFn 29 H29 (PySem.W.mg_of X G x29) k29 q29 (by decide +kernel)
  have H30 := fn_ok (T := t30) G30 F30 sc30 ck30
  have G31 : Gok gg xgg E31 l.prog w K mg base 35 t31 := G30.addFn 30 H30 (PySem.W.mg_of X G x30) k30 q30 (by decide +kernel)
  have H31 := fn_ok (T := t31) G31 F31 sc31 ck31
  have G32 : Gok gg xgg E32 l.prog w K mg base 36 t32 := G31.addFn 31 H31 (PySem.W.mg_of X G x31) k31 q31 (by decide +kernel)
  have H32 := fn_ok (T := t32) G32 F32 sc32 ck32
  have G33 : Gok gg xgg E33 l.prog w K mg base 37 t33 := G32.addFn 32 H32 (PySem.W.mg_of X G x32) k32 q32 (by decide +kernel)
  have H33 := fn_ok (T := t33) G33 F33 sc33 ck33
  exact H33
end PL.K14
namespace PL.K14
open PL
theorem f4_ok (a : Int) : f4 [.int a] = .ok (.bl true) 0 := whole_ok E4 a
theorem f8_ok (a b : Int) : f8 [.int a, .int b] = .ok (.int (Int.gcd a b)) 0 := common_ok E8 a b
theorem f14_ok (a b : Int) : f14 [.int a, .int b] = .ok (.int (Int.gcd a b)) 0 := common_ok E14 a b
theorem f9_ok (a b : Int) (hb : 0 < b) (hb2 : b.natAbs ≤ 10 ^ 250) : f9 [.int a, .int b] = .ok (dF (lowF a b)) 9 := madeF_ok (Γ := E9) (i := 8) f8_ok hb hb2
theorem f15_ok (a b : Int) (hb : 0 < b) (hb2 : b.natAbs ≤ 10 ^ 250) : f15 [.int a, .int b] = .ok (dF (lowF a b)) 9 := lowestF_ok (Γ := E15) (i := 14) f14_ok hb hb2
variable {m M : Nat} {s : Sps} {row : List Int}
theorem f5_ok (S : SpsOk m M s) {p : Nat × List Int} (hp : p ∈ s) : f5 [.lst (lI p.2)] = .ok (.bl true) 0 := areW_ok (Γ := E5) (w := 4) (g2 := 2) (g3 := 3) f4_ok rfl rfl (by rw [(S.sp p hp).len]; exact S.m1) (by rw [(S.sp p hp).len]; exact S.m6) (S.sp p hp).w (S.sp p hp).pos
theorem f6_ok (S : SpsOk m M s) (hM : M ≤ 60) (p : Nat × List Int) (hp : p ∈ s) : f6 [dS p] = .ok (.bl true) 0 := isSpell_ok (Γ := E6) (w := 4) (a := 5) (g1 := 1) f4_ok rfl (S.sp p hp).t1 (Nat.le_trans (S.sp p hp).t2 hM) (f5_ok S hp)
theorem f7_ok (S : SpsOk m M s) (hM : M ≤ 60) : f7 [.lst (s.map dS)] = .ok .non 0 := check_ok (Γ := E7) (g0 := 0) (g4 := 4) (f := 6) rfl rfl S hM fun p hp => f6_ok S hM p hp
theorem f10_ok (p q : Fr) (C : Int) (P : FB C p) (Q : FB C q) (hC : C ≤ 10 ^ 100) : f10 [dF p, dF q] = .ok (dF (lowF (p.1 * q.2 + q.1 * p.2) (p.2 * q.2))) 9 := plusF_ok (Γ := E10) (m := 9) f9_ok P Q hC
theorem f11_ok (S : SpsOk m M s) (ks : List Nat) (vs : List PL.D) : f11 [.obj 0 (0 :: ks) (.lst (s.map dK) :: vs)] = .ok (.int m) 0 := many_ok (Γ := E11) S rfl ks vs
theorem f11_p (S : SpsOk m M s) : f11 [dP m s] = .ok (.int m) 0 := f11_ok S _ _
theorem f12_ok (S : SpsOk m M s) (hM : M ≤ 60) (ks : List Nat) (vs : List PL.D) : f12 [.obj 0 (0 :: ks) (.lst (s.map dK) :: vs)] = .ok (.lst (lT (duesF m s))) 1 := dues_ok (Γ := E12) (mn := 2) (g := 5) (pl := 10) (md := 9) S hM rfl rfl ks vs rfl (f11_ok S ks vs) f10_ok f9_ok
theorem f13_ok (S : SpsOk m M s) (hM : M ≤ 60) : f13 [.lst (s.map dS)] = .ok (dP m s) 1 := init_plan (Γ := E13) (c := 7) (mt := 4) S rfl rfl (f7_ok S hM) rfl (f12_ok S hM [] [])
theorem f19_ok (S : SpsOk m M s) : f19 [dP m s] = .ok (.int (turnsF s)) 0 := turns_ok (Γ := E19) S rfl _ _
theorem f16_ok (S : SpsOk m M s) (hM : M ≤ 60) : f16 [.lst (s.map dS)] = .ok (.lst (lT (duesF m s))) 1 := ldues_ok (Γ := E16) (low := 15) S hM f15_ok
theorem f20_ok (S : SpsOk m M s) (R : RowOk m s row) (hz : row.length ≤ 1000) : f20 [dP m s, .lst (lI row)] = .ok .non 0 := ckRow_ok (Γ := E20) (t := 1) (w := 4) (mn := 2) R hz rfl (f19_ok S) rfl (f11_p S) f4_ok
theorem f21_ok (p : Fr) (c B : Int) (P : FB B p) (hB : B ≤ 10 ^ 100) (hc : c.natAbs ≤ 10 ^ 50) : f21 [dF p, .tup [.int c, .int 1]] = .ok (dF (lagP p c)) 9 := minusC_ok (Γ := E21) (m := 9) f9_ok P hB c hc
theorem f22_ok (S : SpsOk m M s) (hM : M ≤ 60) (R : RowOk m s row) : f22 [dP m s, .lst (lI row)] = .ok (.lst (lT (lagsF (duesF m s) m row (row.length + 1)))) 10 := lags_ok (Γ := E22) (mn := 2) (mi := 21) S hM R rfl rfl (f11_p S) f21_ok
theorem f23_ok (p : Fr) : f23 [dF p] = .ok (dF (uns p)) 9 := uns_ok (Γ := E23) p
theorem f24_ok (p q : Fr) (P : LB p) (Q : LB q) : f24 [dF p, dF q] = .ok (.bl (decide (p.1 * q.2 < q.1 * p.2))) 0 := less_ok (Γ := E24) P Q
theorem lt_of (S : SpsOk m M s) (hM : M ≤ 60) (R : RowOk m s row) : LT m (lagsF (duesF m s) m row (row.length + 1)) := by
  obtain ⟨tb, tl⟩ := duesF_tb S hM
  have := duesF_len m s
  have := R.len
  exact lags_lt tb (by omega) (by omega)
theorem f25_ok (S : SpsOk m M s) (R : RowOk m s row) (hz : row.length ≤ 1000) (hM : M ≤ 60) : ∃ k, f25 [dP m s, .lst (lI row)] = .ok (dW (wF m (lagsF (duesF m s) m row (row.length + 1)))) k := worst_ok (Γ := E25) (ck := 20) (g := 5) (lg := 22) (mn := 2) (un := 23) (le := 24) f23_ok f24_ok (lt_of S hM R) S.m6 rfl (f20_ok S R hz) (f22_ok S hM R) rfl (f11_p S)
theorem f30_ok (S : SpsOk m M s) (R : RowOk m s row) (hz : row.length ≤ 1000) (hM : M ≤ 60) : f30 [.lst (lT (duesF m s)), .lst (lI row)] = .ok (.lst (lT (lagsF (duesF m s) m row (row.length + 1)))) 10 := llags_ok (Γ := E30) (duesF_tb S hM).1 (by decide) S.m6 R.wi (by have := duesF_len m s; have := R.len; omega) hz
theorem f17_ok (c n m : Int) (h0 : 0 ≤ n) (hn : n ≤ 900) (m1 : 1 ≤ m) (m6 : m ≤ 6) : ∃ l, f17 [.int c, .int n, .int m] = .ok (.lst (lI l)) 10 ∧ l.length = n.toNat ∧ Wi m l := row_ok (Γ := E17) (d := 0) (Γd := E0) rfl c n m h0 hn m1 m6
theorem f4_any (d : PL.D) (h : argD d = true) : f4 [d] = .ok (.bl (isWD d)) 0 := whole_any E4 d h
theorem f26_ok (p : Fr) (h : 0 < p.2) (h1 : Int.gcd p.1 p.2 = 1) : f26 [dF p] = .ok (.bl true) 0 := isFr_ok (Γ := E26) (w := 4) (c := 8) f8_ok f4_ok h h1
theorem f27_ok (b : Bd) (B : BdOk b) : f27 [dB b] = .ok .non 0 := ckB_ok' (Γ := E27) (fr := 26) (le := 24) (g := 6) rfl f26_ok f24_ok B
theorem f21_f (p q : Fr) (B : Int) (P : FB B p) (Q : FB B q) (hB : B ≤ 10 ^ 100) : f21 [dF p, dF q] = .ok (dF (lowF (p.1 * q.2 - q.1 * p.2) (p.2 * q.2))) 9 := minusF_ok (Γ := E21) (md := 9) f9_ok P Q hB
theorem f31_ok (b : Bd) (t d : Int) (B : BdOk b) (ht : t.natAbs ≤ 10 ^ 100) (hd : d.natAbs ≤ 10 ^ 100) : f31 [dB b, .tup [.int t, .int d]] = .ok (.bl (letsF b (absI t) d)) 0 := lkeeps_ok (Γ := E31) B t d ht hd
theorem f18_ok (m1 : 1 ≤ m) (m6 : m ≤ 6) {T : List (List Fr)} (tb : TB (10 ^ 15) m T) (tl : T.length ≤ 1000) (c : Int) : ∃ b, BdOk b ∧ f18 [.int c, .lst (lT T)] = .ok (dB b) 9 := lbound_ok (Γ := E18) (d := 0) (low := 15) (Γd := E0) rfl f15_ok m1 m6 tb tl c
theorem f20_bad (S : SpsOk m M s) {xs : List PL.D} (hz : xs.length ≤ 1000) (ha : ∀ d ∈ xs, argD d = true) {j : Nat} (hj : j < xs.length) (h1 : badAt m s xs j = true) (h2 : ∀ i, i < j → badAt m s xs i = false) : f20 [dP m s, .lst xs] = .exn ⟨3, some (.int j)⟩ := ckRow_bad (Γ := E20) (t := 1) (w := 4) (mn := 2) (c := 3) rfl (f19_ok S) rfl (f11_p S) f4_any (by simp) hz ha hj h1 h2
theorem f20_no {d : PL.D} (hl : isiD .list d = .ok (.bl false) 0) : f20 [dP m s, d] = .exn ⟨3, some (.int 0)⟩ := ckRow_no (Γ := E20) (t := 1) (w := 4) (mn := 2) (c := 3) (by simp) hl
theorem f28_ok {b : Bd} (B : BdOk b) (p : Fr) (P : LB p) : f28 [dB b, dF p] = .ok (.bl (keepsP b p)) 0 := lagKeeps_ok (Γ := E28) (le := 24) (un := 23) f23_ok f24_ok B P
theorem f29_ok (S : SpsOk m M s) (R : RowOk m s row) (hz : row.length ≤ 1000) (hM : M ≤ 60) {b : Bd} (B : BdOk b) : f29 [dP m s, dB b, .lst (lI row)] = .ok (.bl (keepsL b (lagsF (duesF m s) m row (row.length + 1)))) 0 := keeps_ok (Γ := E29) (cb := 27) (cr := 20) (lg := 22) (lk := 28) f27_ok (f20_ok S R hz) (f22_ok S hM R) (f28_ok B) (lt_of S hM R) B
theorem f29_exn {b : Bd} (B : BdOk b) {d : PL.D} {x : Exn} (h : f20 [dP m s, d] = .exn x) : f29 [dP m s, dB b, d] = .exn x := keeps_exn (Γ := E29) (cb := 27) (cr := 20) (lg := 22) (lk := 28) f27_ok B h
theorem f31_lb {b : Bd} (B : BdOk b) (p : Fr) (P : LB p) : f31 [dB b, dF p] = .ok (.bl (keepsP b p)) 0 := f31_ok b p.1 p.2 B (by have := P.top; omega) (by have := P.pos; have := P.low; omega)
theorem f32_ok (S : SpsOk m M s) (R : RowOk m s row) (hz : row.length ≤ 1000) (hM : M ≤ 60) {b : Bd} (B : BdOk b) : f32 [.lst (lT (duesF m s)), .lst (lI row), dB b] = .ok (.bl (keepsL b (lagsF (duesF m s) m row (row.length + 1)))) 0 := ldue_ok (Γ := E32) (lg := 30) (lk := 31) (f30_ok S R hz hM) (f31_lb B) (lt_of S hM R)
theorem rows1 (S : SpsOk m M s) (hM : M ≤ 60) (ns : List Int) (a1 a3 a4 a5 a6 a7 a8 a9 a10 a11 a12 a14 : Option PL.D) : ∃ ws : List (List Int), ws.length = 3 ∧ (∀ w ∈ ws, RowOk m s w) ∧ compL [13] (evE E33 b33X0) (fun _ => .ok true) (rngD 0 3) [some (.lst (lI ns)), a1, some (dP m s), a3, a4, a5, a6, a7, a8, a9, a10, a11, a12, none, a14] = .ok (ws.map fun w => (.lst (lI w), 10)) := by
  refine comp_ex (fun w => .lst (lI w)) 10 (RowOk m s) fun i hi => ?_
  have tl := (duesF_tb S hM).2
  have dl := duesF_len m s
  obtain ⟨z, ez⟩ := cell_ok ns (2 + (i : Int)) (by omega)
  have cz : f3 _ = _ := ez E3
  obtain ⟨y, ey, y1, y2⟩ := draw_ok z 0 ((turnsF s : Int) + 1) (by decide) (by decide) (by omega) (by omega)
  have cy : f0 _ = _ := ey E0
  have m1 := S.m1
  have m6 := S.m6
  obtain ⟨l, el, l1, l2⟩ := f17_ok z y m y1 (by omega) (by omega) (by omega)
  have et := f19_ok S
  have em := f11_p S
  refine ⟨_, l, takeE_one _ _ _, ?_, l2, by omega⟩
  unfold dP at et em ⊢
  simp [b33X0, cz, cy, et, em, el]
theorem bounds1 (S : SpsOk m M s) (hM : M ≤ 60) (ns : List Int) (a1 a2 a4 a5 a6 a7 a8 a9 a10 a11 a12 a14 : Option PL.D) : ∃ ws : List Bd, ws.length = 2 ∧ (∀ w ∈ ws, BdOk w) ∧ compL [13] (evE E33 b33X2) (fun _ => .ok true) (rngD 0 2) [some (.lst (lI ns)), a1, a2, some (.lst (lT (duesF m s))), a4, a5, a6, a7, a8, a9, a10, a11, a12, none, a14] = .ok (ws.map fun w => (dB w, 9)) := by
  refine comp_ex dB 9 BdOk fun i hi => ?_
  obtain ⟨tb, tl⟩ := duesF_tb S hM
  obtain ⟨z, ez⟩ := cell_ok ns (5 + (i : Int)) (by omega)
  have cz : f3 _ = _ := ez E3
  obtain ⟨b, B, eb⟩ := f18_ok S.m1 S.m6 tb (by omega) z
  exact ⟨_, b, takeE_one _ _ _, by simp [b33X2, cz, eb], B⟩
def st (ns : List Int) (m : Nat) (s : Sps) (Rw : List PL.D) (n5 : Nat) (Bs : List PL.D) (n6 : Nat) (lk : Bool) (o7 o8 o9 o11 o12 o14 : Option Sl) : En := [some ⟨.lst (lI ns), 0, false⟩, some ⟨.lst (s.map dS), 0, false⟩, some ⟨dP m s, 0, false⟩, some ⟨.lst (lT (duesF m s)), 0, false⟩, some ⟨.lst Rw, 0, false⟩, some ⟨.lst Rw, n5, false⟩, some ⟨.lst Bs, n6, lk⟩, o7, o8, o9, none, o11, o12, none, o14]
theorem inner (S : SpsOk m M s) (R : RowOk m s row) (hz : row.length ≤ 1000) (hM : M ≤ 60) (ns : List Int) (Rw : List PL.D) (hRw : shp 60 (.lst Rw) = true) (n5 : Nat) (Bs : List PL.D) (n6 : Nat) : ∀ (xs : List PL.D) (o11 o14 : Option Sl), lkO o11 = false ∧ nExO o11 = true → lkO o14 = false ∧ nExO o14 = true → (∀ d ∈ xs, ∃ b, d = dB b ∧ BdOk b) →
    ∃ o11' o14', (lkO o11' = false ∧ nExO o11' = true) ∧ (lkO o14' = false ∧ nExO o14' = true) ∧ forS [11] (exB E33 b33L0) xs (st ns m s Rw n5 Bs n6 true (some ⟨.lst (lI row), 0, false⟩) none none o11 none o14) = .nx (st ns m s Rw n5 Bs n6 true (some ⟨.lst (lI row), 0, false⟩) none none o11' none o14')
  | [], o11, o14, k1, k2, _ => ⟨o11, o14, k1, k2, rfl⟩
  | d :: xs, o11, o14, k1, k2, h => by
    obtain ⟨b, rfl, B⟩ := h d List.mem_cons_self
    have t1 := f29_ok S R hz hM B
    have t2 := f32_ok S R hz hM B
    have cs := cmp_self hRw
    generalize keepsL b (lagsF (duesF m s) m row (row.length + 1)) = K at *
    have ck := cmp_self (shp_bl 60 K)
    obtain ⟨p11, p14, j1, j2, e⟩ := inner S R hz hM ns Rw hRw n5 Bs n6 xs (some ⟨dB b, 0, false⟩) (some ⟨.bl K, 0, false⟩) ⟨rfl, by simp⟩ ⟨rfl, by simp⟩ fun d hd => h d (List.mem_cons_of_mem _ hd)
    refine ⟨p11, p14, j1, j2, ?_⟩
    rw [forS]
    have tk : takeS [11] (dB b) (st ns m s Rw n5 Bs n6 true (some ⟨.lst (lI row), 0, false⟩) none none o11 none o14) = some (st ns m s Rw n5 Bs n6 true (some ⟨.lst (lI row), 0, false⟩) none none (some ⟨dB b, 0, false⟩) none o14) := by simp [st, k1.1]
    rw [tk]
    dsimp only
    have eb : exB E33 b33L0 (st ns m s Rw n5 Bs n6 true (some ⟨.lst (lI row), 0, false⟩) none none (some ⟨dB b, 0, false⟩) none o14) = .nx (st ns m s Rw n5 Bs n6 true (some ⟨.lst (lI row), 0, false⟩) none none (some ⟨dB b, 0, false⟩) none (some ⟨.bl K, 0, false⟩)) := by
      refine step (ρ' := st ns m s Rw n5 Bs n6 true (some ⟨.lst (lI row), 0, false⟩) none none (some ⟨dB b, 0, false⟩) none (some ⟨.bl K, 0, false⟩)) ?_ (step ?_ (exB_nil _ _))
      · simp [st, t1, k2.1]
      · simp [-cmp_ne, st, t2, ck.2, cs.2]
    rw [eb]
    exact e
theorem lksO_not {l : List Nat} {k : Nat} (h : l.contains k = false) (v : Bool) (o : Option Sl) : lksO l v k o = o := by
  cases o with
  | none => rfl
  | some s => unfold lksO; dsimp only; rw [h]; rfl
theorem immL_dBs : ∀ {l : List PL.D}, (∀ d ∈ l, ∃ b, d = dB b ∧ BdOk b) → immBL 0 l = true
  | [], _ => by simp
  | d :: l, h => by
    obtain ⟨b, rfl, _⟩ := h d List.mem_cons_self
    rw [immL_cons, imm_dB, immL_dBs fun x hx => h x (List.mem_cons_of_mem _ hx)]
    rfl
theorem body (S : SpsOk m M s) (R : RowOk m s row) (hz : row.length ≤ 1000) (hM : M ≤ 60) (ns : List Int) (Rw : List PL.D) (hRw : shp 60 (.lst Rw) = true) (n5 : Nat) (Bs : List PL.D) (hB : ∀ d ∈ Bs, ∃ b, d = dB b ∧ BdOk b) (hl : Bs.length = 3) (n6 : Nat) (o11 o14 : Option Sl) (k1 : lkO o11 = false ∧ nExO o11 = true) (k2 : lkO o14 = false ∧ nExO o14 = true) :
    ∃ o11' o14', (lkO o11' = false ∧ nExO o11' = true) ∧ (lkO o14' = false ∧ nExO o14' = true) ∧ exB E33 b33L1 (st ns m s Rw n5 Bs n6 false (some ⟨.lst (lI row), 0, false⟩) none none o11 none o14) = .nx (st ns m s Rw n5 Bs n6 false (some ⟨.lst (lI row), 0, false⟩) none none o11' none o14') := by
  have all : ∀ d ∈ Bs ++ Bs.take 1, ∃ b, d = dB b ∧ BdOk b := fun d hd => by
    rcases List.mem_append.mp hd with h | h
    · exact hB d h
    · exact hB d (List.mem_of_mem_take h)
  obtain ⟨p11, p14, j1, j2, e⟩ := inner S R hz hM ns Rw hRw n5 Bs n6 (Bs ++ Bs.take 1) o11 o14 k1 k2 all
  have im := immL_dBs all
  have ct := cut_to Bs 1
  simp only [Int.cast_ofNat_Int] at ct
  refine ⟨p11, p14, j1, j2, step ?_ (exB_nil _ _)⟩
  have ll : Bs.length + 1 ≤ 16777216 := by omega
  unfold st at e ⊢
  simp [ct, hl, im, anyLocked]
  rw [lksO_not (by decide), lksO_not (by decide), e]
  simp [OS.unlock]
  rw [lksO_not (by decide), lksO_not (by decide)]
  exact ⟨rfl, rfl⟩
theorem law_yes (ns : List Int) : f33 [.lst (lI ns)] = .ok (.bl true) 0 := by
  obtain ⟨z0, ez0⟩ := cell_ok ns 0 (by decide)
  obtain ⟨z1, ez1⟩ := cell_ok ns 1 (by decide)
  obtain ⟨z7, ez7⟩ := cell_ok ns 7 (by decide)
  obtain ⟨z8, ez8⟩ := cell_ok ns 8 (by decide)
  have c0 : f3 _ = _ := ez0 E3
  have c1 : f3 _ = _ := ez1 E3
  have c7 : f3 _ = _ := ez7 E3
  have c8 : f3 _ = _ := ez8 E3
  obtain ⟨m, s, S, es⟩ := spells_ok (Γ := E2) (w := 1) (d := 0) (Γw := E1) (Γd := E0) (Γd' := E0) (d' := 0) rfl rfl rfl z0 z1 8 (by decide) (by decide)
  have es' : f2 [.int z0, .int z1, .int 8] = _ := es
  have ei := f13_ok S (by decide)
  have ed := f16_ok S (by decide)
  have em := f11_p S
  have m1 := S.m1
  have m6 := S.m6
  obtain ⟨ws, w1, w2, w3⟩ := rows1 S (by decide) ns (some (.lst (s.map dS))) none none none none none none none none none none none
  have n1 := newL_map (g := fun w => D.lst (lI w)) (n := 10) (l := ws) (by omega) fun w _ => by simp
  obtain ⟨Rw, hRw⟩ : ∃ Rw, (ws.map fun w => D.lst (lI w)) = Rw := ⟨_, rfl⟩
  have k1 : ∀ a0 a1 a2 a3 a5 a6 a8 a9 a10 a11 a12 a13 a14 : Option PL.D, compL [7] (evE E33 b33X1) (fun _ => .ok true) (ws.map fun w => D.lst (lI w)) [a0, a1, a2, a3, some (.lst Rw), a5, a6, none, a8, a9, a10, a11, a12, a13, a14] = .ok (ws.map fun w => (D.lst (lI w), 1)) := fun a0 a1 a2 a3 a5 a6 a8 a9 a10 a11 a12 a13 a14 =>
    comp_map (fun w => D.lst (lI w)) (fun w => D.lst (lI w)) 1 fun w _ => ⟨_, takeE_one _ _ _, by simp [b33X1]⟩
  have n2 := newL_map (g := fun w => D.lst (lI w)) (n := 1) (l := ws) (by omega) fun w _ => by simp
  have sR : shp 60 (.lst Rw) = true := by
    rw [← hRw]
    exact shp_lst fun d hd => by
      obtain ⟨w, _, rfl⟩ := List.mem_map.mp hd
      exact shp_lsI 58 _
  have Rl : Rw.length = 3 := by rw [← hRw]; simp [w1]
  obtain ⟨w0, hw0, hA⟩ : ∃ w0, w0 ∈ ws ∧ atD Rw 0 = .ok (.lst (lI w0)) 0 := by
    cases ws with
    | nil => simp at w1
    | cons a b => exact ⟨a, by simp, by rw [← hRw]; simp⟩
  have R0 := w2 w0 hw0
  have tl := (duesF_tb S (by decide)).2
  have dl := duesF_len m s
  have l0 := R0.len
  have hT : turnsF s ≤ 300 := by omega
  obtain ⟨bs, b1, b2, b3⟩ := bounds1 S (by decide) ns (some (.lst (s.map dS))) (some (dP m s)) (some (.lst Rw)) none none none none none none none none none
  have n3 := newL_map (g := dB) (n := 9) (l := bs) (by omega) fun b _ => by simp
  obtain ⟨kw, ew⟩ := f25_ok S R0 (by omega) (by decide)
  have wb := wF_wb (lags_wb S (by decide) hT l0)
  have wl : LB (wF m (lagsF (duesF m s) m w0 (w0.length + 1))).1 := foldT_lb (lt_of S (by decide) R0) _ (Nat.le_refl _)
  obtain ⟨y7, ey7, _, _⟩ := draw_ok z7 0 2 (by decide) (by decide) (by decide) (by decide)
  have ey7 : f0 _ = _ := ey7 E0
  generalize wF m (lagsF (duesF m s) m w0 (w0.length + 1)) = wst at *
  obtain ⟨Bs, hBs⟩ : ∃ Bs, bs.map dB ++ [dB (wst.1, decide (y7 = 1))] = Bs := ⟨_, rfl⟩
  have hB : ∀ d ∈ Bs, ∃ b, d = dB b ∧ BdOk b := fun d hd => by
    rw [← hBs] at hd
    rcases List.mem_append.mp hd with h | h
    · obtain ⟨b, hb, rfl⟩ := List.mem_map.mp h
      exact ⟨b, rfl, b2 b hb⟩
    · simp only [List.mem_singleton] at h
      have t := wb.nn
      have lo := wl.low
      have le := wb.le
      have po := wb.pos
      have lo' := wb.lo
      exact ⟨_, h, ⟨⟨po, by show ((wst.1.1.natAbs : Int)) ≤ _; omega, lo, wb.one⟩, t, le⟩⟩
  have Bl : Bs.length = 3 := by rw [← hBs]; simp [b1]
  obtain ⟨b0, B0, A0⟩ : ∃ b0, BdOk b0 ∧ atD Bs 0 = .ok (dB b0) 0 := by
    obtain ⟨b, e, B⟩ := hB (Bs[0]'(by omega)) (List.getElem_mem _)
    exact ⟨b, B, by rw [← e]; exact (by rw [show (0 : Int) = ((0 : Nat) : Int) from rfl, atD_nat, List.getElem?_eq_getElem])⟩
  have all : ∀ d ∈ Rw ++ Rw.take 1, ∃ r, d = .lst (lI r) ∧ RowOk m s r := fun d hd => by
    have h : d ∈ Rw := by
      rcases List.mem_append.mp hd with h | h
      · exact h
      · exact List.mem_of_mem_take h
    rw [← hRw] at h
    obtain ⟨r, hr, rfl⟩ := List.mem_map.mp h
    exact ⟨r, rfl, w2 r hr⟩
  obtain ⟨ρ1, e1, o7, o11, o14, rfl, y7', y11, y14⟩ := forS_to (tg := [7]) (b := exB E33 b33L1) (xs := Rw ++ Rw.take 1) (ρ := st ns m s Rw 10 Bs 10 false none none none none none none)
    (fun _ ρ => ∃ o7 o11 o14, ρ = st ns m s Rw 10 Bs 10 false o7 none none o11 none o14 ∧ (lkO o7 = false ∧ nExO o7 = true) ∧ (lkO o11 = false ∧ nExO o11 = true) ∧ (lkO o14 = false ∧ nExO o14 = true)) 0 ⟨none, none, none, rfl, ⟨rfl, rfl⟩, ⟨rfl, rfl⟩, ⟨rfl, rfl⟩⟩ fun i d ρ hd ⟨o7, o11, o14, e, j7, j11, j14⟩ => by
      subst e
      obtain ⟨r, rfl, R⟩ := all d (List.mem_of_getElem? hd)
      obtain ⟨p11, p14, q1, q2, e⟩ := body S R (by have := R.len; omega) (by decide) ns Rw sR 10 Bs hB Bl 10 o11 o14 j11 j14
      exact ⟨st ns m s Rw 10 Bs 10 false (some ⟨.lst (lI r), 0, false⟩) none none o11 none o14, _, by simp [st, j7.1], .inl e, some ⟨.lst (lI r), 0, false⟩, p11, p14, rfl, ⟨rfl, by simp⟩, q1, q2⟩
  obtain ⟨j, ej, j0, j1⟩ := draw_ok z8 0 ((w0.length : Int) + 1) (by decide) (by decide) (by omega) (by omega)
  have ej : f0 _ = _ := ej E0
  obtain ⟨j, rfl⟩ := Int.eq_ofNat_of_zero_le j0
  obtain ⟨odds, hodds⟩ : ∃ l : List PL.D, [.int m, .int (-1), .bl true, .non] = l := ⟨_, rfl⟩
  have r4 := Int.fmod_nonneg_of_pos (j : Int) (b := 4) (by decide)
  have r5 := Int.fmod_lt_of_pos (j : Int) (b := 4) (by decide)
  obtain ⟨odd, ho, eo⟩ := at_mem (l := odds) r4 (by rw [← hodds]; simpa using r5)
  have oddP : argD odd = true ∧ nEx odd = true ∧ immB 0 odd = true ∧ inT odd 0 ((m : Int) - 1) = false := by
    rw [← hodds] at ho
    simp only [List.mem_cons, List.not_mem_nil, or_false] at ho
    rcases ho with rfl | rfl | rfl | rfl <;> refine ⟨rfl, by simp, by simp, ?_⟩ <;> simp [inT] <;> omega
  obtain ⟨xs, hxs⟩ : ∃ xs, lI (w0.take j) ++ [odd] ++ lI (w0.drop j) = xs := ⟨_, rfl⟩
  have xl : xs.length = w0.length + 1 := by rw [← hxs]; simp [lI]; omega
  have xa : ∀ d ∈ xs, argD d = true := fun d hd => by
    rw [← hxs] at hd
    simp only [List.mem_append, List.mem_singleton] at hd
    rcases hd with (h | h) | h
    · obtain ⟨i, _, rfl⟩ := List.mem_map.mp h; rfl
    · rw [h]; exact oddP.1
    · obtain ⟨i, _, rfl⟩ := List.mem_map.mp h; rfl
  have bad := f20_bad S (xs := xs) (by omega) xa (j := j) (by omega) (by
    have : xs.getD j .non = odd := by
      rw [← hxs, List.getD_eq_getElem?_getD, List.append_assoc, List.getElem?_append_right (by simp [lI]; omega)]
      have e : j - (lI (w0.take j)).length = 0 := by simp [lI]; omega
      rw [e]
      rfl
    unfold badAt
    rw [this, oddP.2.2.2]
    simp) fun i hi => by
      have hir : i < w0.length := by omega
      have : xs.getD i .non = .int w0[i] := by
        rw [← hxs, List.getD_eq_getElem?_getD, List.append_assoc, List.getElem?_append_left (by simp [lI]; omega)]
        unfold lI
        rw [List.getElem?_map, List.getElem?_take, if_pos hi, List.getElem?_eq_getElem hir]
        rfl
      obtain ⟨v0, v1⟩ := R0.wi _ (List.getElem_mem hir)
      unfold badAt
      rw [this]
      have h1 : ¬ turnsF s ≤ i := by omega
      have h2 : w0[i] ≤ (m : Int) - 1 := by omega
      simp [h1, inT, v0, h2]
  have tx := f29_exn B0 bad
  have Rn : RowOk m s [] := ⟨fun x hx => (by cases hx), Nat.zero_le _⟩
  have q1 := f29_ok S Rn (by simp) (by decide) (b := ((0, 1), true)) ⟨⟨by decide, by decide, by decide, by decide⟩, by decide, by decide⟩
  have q2 := f29_ok S Rn (by simp) (by decide) (b := ((0, 1), false)) ⟨⟨by decide, by decide, by decide, by decide⟩, by decide, by decide⟩
  rw [show ([] : List Int).length + 1 = 1 from rfl, keeps_nil S] at q1 q2
  have v1 : keepsP ((0, 1), true) (0, 1) = false := by decide
  have v2 : keepsP ((0, 1), false) (0, 1) = true := by decide
  rw [v1] at q1
  rw [v2] at q2
  have q1' : f29 [dP m s, .tup [.tup [.int 0, .int 1], .bl true], .lst []] = .ok (.bl false) 0 := q1
  have q2' : f29 [dP m s, .tup [.tup [.int 0, .int 1], .bl false], .lst []] = .ok (.bl true) 0 := q2
  have sk2 : smallI 2 = true := by decide
  have sk3 : smallI 3 = true := by decide
  have ct := cut_to Rw 1
  simp only [Int.cast_ofNat_Int] at ct
  have cI1 := lI_take w0 j
  have c2' : cutD (lI w0) (some (j : Int)) none = lI (w0.drop j) := by rw [cut_from]; unfold lI; rw [List.map_drop]
  have hx2 : lI (w0.take j) ++ odd :: lI (w0.drop j) = xs := by rw [← hxs]; simp
  have lA : (lI (w0.take j)).length ≤ 900 := by simp [lI]; omega
  have lB : (lI (w0.drop j)).length ≤ 900 := by simp [lI]; omega
  have l0' : (lI w0).length = w0.length := by simp [lI]
  have oR : ∀ d ∈ Rw, nEx d = true := fun d hd => by
    rw [← hRw] at hd
    obtain ⟨r, _, rfl⟩ := List.mem_map.mp hd
    simp
  have oB : ∀ d ∈ Bs, nEx d = true := fun d hd => by
    obtain ⟨b, rfl, _⟩ := hB d hd
    simp
  have xR := nExL_all oR
  have xB := nExL_all oB
  refine run_of rfl (step (ρ' := [some ⟨.lst (lI ns), 0, false⟩, some ⟨.lst (s.map dS), 1, false⟩, none, none, none, none, none, none, none, none, none, none, none, none, none]) ?_ (step (ρ' := [some ⟨.lst (lI ns), 0, false⟩, some ⟨.lst (s.map dS), 0, false⟩, some ⟨dP m s, 1, false⟩, none, none, none, none, none, none, none, none, none, none, none, none]) ?_
    (step (ρ' := [some ⟨.lst (lI ns), 0, false⟩, some ⟨.lst (s.map dS), 0, false⟩, some ⟨dP m s, 1, false⟩, some ⟨.lst (lT (duesF m s)), 1, false⟩, none, none, none, none, none, none, none, none, none, none, none]) ?_
    (step (ρ' := [some ⟨.lst (lI ns), 0, false⟩, some ⟨.lst (s.map dS), 0, false⟩, some ⟨dP m s, 0, false⟩, some ⟨.lst (lT (duesF m s)), 1, false⟩, some ⟨.lst Rw, 10, false⟩, none, none, none, none, none, none, none, none, none, none]) ?_
    (step (ρ' := [some ⟨.lst (lI ns), 0, false⟩, some ⟨.lst (s.map dS), 0, false⟩, some ⟨dP m s, 0, false⟩, some ⟨.lst (lT (duesF m s)), 1, false⟩, some ⟨.lst Rw, 0, false⟩, some ⟨.lst Rw, 10, false⟩, none, none, none, none, none, none, none, none, none]) ?_
    (step (ρ' := [some ⟨.lst (lI ns), 0, false⟩, some ⟨.lst (s.map dS), 0, false⟩, some ⟨dP m s, 0, false⟩, some ⟨.lst (lT (duesF m s)), 0, false⟩, some ⟨.lst Rw, 0, false⟩, some ⟨.lst Rw, 10, false⟩, some ⟨.lst (bs.map dB), 10, false⟩, none, none, none, none, none, none, none, none]) ?_
    (step (ρ' := st ns m s Rw 10 Bs 10 false none none none none none none) ?_ (step (ρ' := st ns m s Rw 10 Bs 10 false o7 none none o11 none o14) ?_
    (step (ρ' := st ns m s Rw 10 Bs 10 false o7 (some ⟨.int j, 0, false⟩) none o11 none o14) ?_ (step (ρ' := st ns m s Rw 10 Bs 10 false o7 (some ⟨.int j, 0, false⟩) (some ⟨.non, 0, false⟩) o11 none o14) ?_
    (step (ρ' := st ns m s Rw 10 Bs 10 false o7 (some ⟨.int j, 0, false⟩) (some ⟨.int j, 0, false⟩) o11 (some ⟨odd, 0, false⟩) o14) ?_ (stop ?_))))))))))))
  · simp [c0, c1, es']
  · simp [ei]
  · simp [ed]
  · unfold dP at w3 ⊢
    simp [-newL_eq, compD, sk3, w3, n1, hRw]
  · rw [hRw] at k1 n2
    simp [-newL_eq, compD, k1, n2]
  · simp [-newL_eq, compD, sk2, b3, n3]
  · have ew' : f25 [dP m s, .lst (lI w0)] = _ := ew
    unfold dW at ew'
    have lb3 : (bs.map dB).length < 16777216 := by rw [List.length_map]; omega
    generalize bs.map dB = Bl' at *
    have a3 : atD [dF wst.1, .int wst.2.1, .int wst.2.2] 0 = .ok (dF wst.1) 0 := by simp
    have hBs' : Bl' ++ [.tup [dF wst.1, .bl (decide (y7 = 1))]] = Bs := hBs
    simp [-atD_0, hA, ew', a3, c7, ey7, mutS_eq, pathOk_eq, lb3, st, hBs']
  · unfold st at e1 ⊢
    have r2 : Rw.length + 1 ≤ 16777216 := by omega
    simp [ct, Rl]
    exact e1
  · unfold st
    simp [-atD_0, hA, c8, l0', ej]
  · unfold st
    simp
  · unfold st
    have em' : f11 [dP m s] = _ := em
    unfold dP at em tx ⊢
    have pn := nEx_dP m s
    unfold dP at pn
    have pr : exS E33 (.asg 12 (.ix (.lst [.meth 2 (.var 2) [], .neg (.con (.int 1)), .con (.bl true), .con .non]) (.bin .mod (.var 8) (.con (.int 4)))) (.fz [2, 8])) (st ns m s Rw 10 Bs 10 false o7 (some ⟨.int j, 0, false⟩) (some ⟨.non, 0, false⟩) o11 none o14) = .nx (st ns m s Rw 10 Bs 10 false o7 (some ⟨.int j, 0, false⟩) (some ⟨.non, 0, false⟩) o11 (some ⟨odd, 0, false⟩) o14) := by
      unfold st dP
      simp [-atD_0, em, hodds, eo]
      exact ⟨frzO_not (by decide) _, frzO_not (by decide) _, frzO_not (by decide) _⟩
    unfold st dP at pr
    rw [ex_tra, pr, prS_nx]
    generalize lI (w0.take j) = A at *
    generalize lI (w0.drop j) = B at *
    have q1 : A.length + 1 ≤ 16777216 := by omega
    have q2 : A.length ≤ 16777215 := by omega
    have q3 : A.length + 1 + B.length ≤ 16777216 := by omega
    have xS : nExL (s.map dS) = true := nExL_all fun d hd => by
      obtain ⟨p, _, rfl⟩ := List.mem_map.mp hd
      simp [dS]
    have z7' := frzO_not (l := [10]) (k := 7) (by decide) o7
    have z11 := frzO_not (l := [10]) (k := 11) (by decide) o11
    have z14 := frzO_not (l := [10]) (k := 14) (by decide) o14
    simp [-atD_0, -nEx_obj, hA, A0, cI1, c2', q1, q2, q3, hx2, tx, pn, xR, xB, y7'.2, y11.2, y14.2, oddP.2.1, xS, z7', z11, z14]
  · unfold st
    simp [q1', q2']
theorem law_true (ns : List Int) (hn : ns.length ≤ 63) (hz : ∀ z ∈ ns, z.natAbs.log2 < 1048576) : ∃ m, f33 [.lst (lI ns)] = .ok (.bl true) m := ⟨0, law_yes ns⟩
end PL.K14
open PySem PySem.W PyProof.Rows in
set_option maxRecDepth 100000 in
set_option maxHeartbeats 0 in
theorem PySem.Challenge.cw_dueturns_k14_rows_that_keep_holds : PySem.Challenge.rw_dueturns_k14_rows_that_keep.Holds := by
  w_on; o_law; k_head; (case hw => w_witness2)
  k_fill
  refine PL.law_walk (l := PySem.Challenge.rw_dueturns_k14_rows_that_keep) (n := 63) (k := 38) (x := "_law_script") (F := PL.K14.f33) rfl (by decide) rfl ⟨rfl, by decide, by decide⟩ (fun w h Y => PySem.W.kIn_of Y) ?qN PL.K14.law_true ?qF
  case qN => intro p; kernel_rfl
  case qF =>
    intro w mg fa h KX G hmg
    refine' PL.K14.all_mk KX G hmg ?cA0 ?pg0 ?hd0 ?po0 ?sa0 ?mk0 ?kc0 ?na0_0 ?na0_1 ?x0 ?l0 ?c0 ?k0 ?x1 ?l1 ?c1 ?k1 ?x2 ?l2 ?c2 ?k2 ?x3 ?l3 ?c3 ?k3 ?x4 ?l4 ?c4 ?k4 ?x5 ?l5 ?c5 ?k5 ?x6 ?l6 ?c6 ?k6 ?x7 ?l7 ?c7 ?k7 ?x8 ?l8 ?c8 ?k8 ?x9 ?l9 ?c9 ?k9 ?x10 ?l10 ?c10 ?k10 ?x11 ?i11 ?l11 ?c11 ?k11 ?x12 ?i12 ?l12 ?c12 ?k12 ?x13 ?i13 ?l13 ?c13 ?k13 ?x14 ?l14 ?c14 ?k14 ?x15 ?l15 ?c15 ?k15 ?x16 ?l16 ?c16 ?k16 ?x17 ?l17 ?c17 ?k17 ?x18 ?l18 ?c18 ?k18 ?x19 ?i19 ?l19 ?c19 ?k19 ?x20 ?l20 ?c20 ?k20 ?x21 ?l21 ?c21 ?k21 ?x22 ?l22 ?c22 ?k22 ?x23 ?l23 ?c23 ?k23 ?x24 ?l24 ?c24 ?k24 ?x25 ?l25 ?c25 ?k25 ?x26 ?l26 ?c26 ?k26 ?x27 ?l27 ?c27 ?k27 ?x28 ?l28 ?c28 ?k28 ?x29 ?l29 ?c29 ?k29 ?x30 ?l30 ?c30 ?k30 ?x31 ?l31 ?c31 ?k31 ?x32 ?l32 ?c32 ?k32 ?x33 ?l33 ?c33 ?k33 ?xn1 ?xb1 ?xy1 ?xs1 ?xn2 ?xb2 ?xy2 ?xs2 ?xn3 ?xb3 ?xy3 ?xs3 ?xn4 ?xb4 ?xy4 ?xs4 ?xn5 ?xb5 ?xy5 ?xs5 ?xvb ?xw2 ?xw3 ?xw5 ?xhn ?xht ?xg2 ?xk2 ?xd2 ?xa2 ?xm2 ?xt2 ?xi2 ?xp2 ?xg3 ?xk3 ?xd3 ?xa3 ?xm3 ?xt3 ?xl3 ?xz3 ?xp3 ?xf3 ?xu3 ?lX3 ?cX3 ?kX3 ?xo3 ?xe3 ?xv3 ?xg5 ?xk5 ?xd5 ?xa5 ?xm5 ?xt5 ?xi5 ?xp5 ?xr2_0 ?xr2_1 ?xr2_2 ?xr2_3 ?xr2_4 ?xr2_5 ?xr3_0 ?xr3_1 ?xr3_2 ?xr3_3 ?xr3_4 ?xr3_5 ?xr5_0 ?xr5_1 ?xr5_2 ?xr5_3 ?xr5_4 ?xr5_5 ?z_range ?z_sum ?z_len ?z_isinstance ?z_list ?z_tuple ?z_int ?z_bool ?z_abs ?z_zip ?cx0 ?cx1 ?cx2 ?cx3 ?cx4 ?cx5 ?cl5 ?cx6
    (case cA0 => k_is)
    (case pg0 => k_is)
    (case hd0 => k_is)
    (case po0 => k_is)
    (case sa0 => k_is)
    (case mk0 => k_is)
    (case kc0 => k_is)
    (case na0_0 => k_is)
    (case na0_1 => k_is)
    (case x0 => k_is)
    (case l0 => k_is)
    (case c0 => k_is)
    (case k0 => k_is)
    (case x1 => k_is)
    (case l1 => k_is)
    (case c1 => k_is)
    (case k1 => k_is)
    (case x2 => k_is)
    (case l2 => k_is)
    (case c2 => k_is)
    (case k2 => k_is)
    (case x3 => k_is)
    (case l3 => k_is)
    (case c3 => k_is)
    (case k3 => k_is)
    (case x4 => k_is)
    (case l4 => k_is)
    (case c4 => k_is)
    (case k4 => k_is)
    (case x5 => k_is)
    (case l5 => k_is)
    (case c5 => k_is)
    (case k5 => k_is)
    (case x6 => k_is)
    (case l6 => k_is)
    (case c6 => k_is)
    (case k6 => k_is)
    (case x7 => k_is)
    (case l7 => k_is)
    (case c7 => k_is)
    (case k7 => k_is)
    (case x8 => k_is)
    (case l8 => k_is)
    (case c8 => k_is)
    (case k8 => k_is)
    (case x9 => k_is)
    (case l9 => k_is)
    (case c9 => k_is)
    (case k9 => k_is)
    (case x10 => k_is)
    (case l10 => k_is)
    (case c10 => k_is)
    (case k10 => k_is)
    (case x11 => k_is)
    (case i11 => k_is)
    (case l11 => k_is)
    (case c11 => k_is)
    (case k11 => k_is)
    (case x12 => k_is)
    (case i12 => k_is)
    (case l12 => k_is)
    (case c12 => k_is)
    (case k12 => k_is)
    (case x13 => k_is)
    (case i13 => k_is)
    (case l13 => k_is)
    (case c13 => k_is)
    (case k13 => k_is)
    (case x14 => k_is)
    (case l14 => k_is)
    (case c14 => k_is)
    (case k14 => k_is)
    (case x15 => k_is)
    (case l15 => k_is)
    (case c15 => k_is)
    (case k15 => k_is)
    (case x16 => k_is)
    (case l16 => k_is)
    (case c16 => k_is)
    (case k16 => k_is)
    (case x17 => k_is)
    (case l17 => k_is)
    (case c17 => k_is)
    (case k17 => k_is)
    (case x18 => k_is)
    (case l18 => k_is)
    (case c18 => k_is)
    (case k18 => k_is)
    (case x19 => k_is)
    (case i19 => k_is)
    (case l19 => k_is)
    (case c19 => k_is)
    (case k19 => k_is)
    (case x20 => k_is)
    (case l20 => k_is)
    (case c20 => k_is)
    (case k20 => k_is)
    (case x21 => k_is)
    (case l21 => k_is)
    (case c21 => k_is)
    (case k21 => k_is)
    (case x22 => k_is)
    (case l22 => k_is)
    (case c22 => k_is)
    (case k22 => k_is)
    (case x23 => k_is)
    (case l23 => k_is)
    (case c23 => k_is)
    (case k23 => k_is)
    (case x24 => k_is)
    (case l24 => k_is)
    (case c24 => k_is)
    (case k24 => k_is)
    (case x25 => k_is)
    (case l25 => k_is)
    (case c25 => k_is)
    (case k25 => k_is)
    (case x26 => k_is)
    (case l26 => k_is)
    (case c26 => k_is)
    (case k26 => k_is)
    (case x27 => k_is)
    (case l27 => k_is)
    (case c27 => k_is)
    (case k27 => k_is)
    (case x28 => k_is)
    (case l28 => k_is)
    (case c28 => k_is)
    (case k28 => k_is)
    (case x29 => k_is)
    (case l29 => k_is)
    (case c29 => k_is)
    (case k29 => k_is)
    (case x30 => k_is)
    (case l30 => k_is)
    (case c30 => k_is)
    (case k30 => k_is)
    (case x31 => k_is)
    (case l31 => k_is)
    (case c31 => k_is)
    (case k31 => k_is)
    (case x32 => k_is)
    (case l32 => k_is)
    (case c32 => k_is)
    (case k32 => k_is)
    (case x33 => k_is)
    (case l33 => k_is)
    (case c33 => k_is)
    (case k33 => k_is)
    (case xn1 => k_is)
    (case xb1 => k_is)
    (case xy1 => k_is)
    (case xs1 => k_is)
    (case xn2 => k_is)
    (case xb2 => k_is)
    (case xy2 => k_is)
    (case xs2 => k_is)
    (case xn3 => k_is)
    (case xb3 => k_is)
    (case xy3 => k_is)
    (case xs3 => k_is)
    (case xn4 => k_is)
    (case xb4 => k_is)
    (case xy4 => k_is)
    (case xs4 => k_is)
    (case xn5 => k_is)
    (case xb5 => k_is)
    (case xy5 => k_is)
    (case xs5 => k_is)
    (case xvb => k_is)
    (case xw2 => k_is)
    (case xw3 => k_is)
    (case xw5 => k_is)
    (case xhn => k_is)
    (case xht => k_is)
    (case xg2 => k_is)
    (case xk2 => k_is)
    (case xd2 => k_is)
    (case xa2 => k_is)
    (case xm2 => k_is)
    (case xt2 => k_is)
    (case xi2 => k_exc)
    (case xp2 => k_is)
    (case xg3 => k_is)
    (case xk3 => k_is)
    (case xd3 => k_is)
    (case xa3 => k_is)
    (case xm3 => k_is)
    (case xt3 => k_is)
    (case xl3 => k_is)
    (case xz3 => k_is)
    (case xp3 => k_is)
    (case xf3 => k_is)
    (case xu3 => k_is)
    (case lX3 => k_is)
    (case cX3 => k_is)
    (case kX3 => k_is)
    (case xo3 => k_is)
    (case xe3 => k_is)
    (case xv3 => k_is)
    (case xg5 => k_is)
    (case xk5 => k_is)
    (case xd5 => k_is)
    (case xa5 => k_is)
    (case xm5 => k_is)
    (case xt5 => k_is)
    (case xi5 => k_exc)
    (case xp5 => k_is)
    (case xr2_0 => k_is)
    (case xr2_1 => k_is)
    (case xr2_2 => k_is)
    (case xr2_3 => k_is)
    (case xr2_4 => k_is)
    (case xr2_5 => k_is)
    (case xr3_0 => k_is)
    (case xr3_1 => k_is)
    (case xr3_2 => k_is)
    (case xr3_3 => k_is)
    (case xr3_4 => k_is)
    (case xr3_5 => k_is)
    (case xr5_0 => k_is)
    (case xr5_1 => k_is)
    (case xr5_2 => k_is)
    (case xr5_3 => k_is)
    (case xr5_4 => k_is)
    (case xr5_5 => k_is)
    (case z_range => k_is)
    (case z_sum => k_is)
    (case z_len => k_is)
    (case z_isinstance => k_is)
    (case z_list => k_is)
    (case z_tuple => k_is)
    (case z_int => k_is)
    (case z_bool => k_is)
    (case z_abs => k_is)
    (case z_zip => k_is)
    (case cx0 => k_is)
    (case cx1 => k_is)
    (case cx2 => k_is)
    (case cx3 => k_is)
    (case cx4 => k_is)
    (case cx5 => k_is)
    (case cl5 => k_is)
    (case cx6 => k_is)
