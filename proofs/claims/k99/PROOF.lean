import PyProof.Rows.All
import Wide.All
import OpenK.AllK
import Wide.FinOn
import HandS.ForMost
import KE.KDictKeyed
import HandS.Deep
import HandS.TupAny
import HandS.Wide
import HandS.WideBits
import HandS.TupMul
import HandS.TupLe
import HandS.Style
import KE.SortData
import HandS.Comp
import HandS.Zip
import HandS.Codes
import HandS.Small
import HandS.IsInst
import HandS.WordsDict
import HandS.TupLen
import HandS.TupSets
import HandS.OwnEq
import PyProof.AssignAttr
import HandS.SlotsOwn
import PyProof.InstNe
import KE.KStateDown
import HandS.Ends
import HandS.Defaults
import HandS.Head0
import HandS.Head1
import HandS.Head2
import HandS.HeadEnd
import HandS.HeadHook1
import HandS.HeadHook2
import KE.GoesEnum
import HandS.Conv
import PySem.Challenge.RW_familyworks_k99_whole_bites_heaps_and_su
set_option Elab.async false
set_option linter.all false
section
set_option maxRecDepth 100000
/-! The tree layer, part A: values as trees, what stands for them, what stays. -/
namespace TL
open PySem PySem.Spec PyProof.Rows L2

/-- a Python value as a tree; the flag of a list, dict, instance: owned (may be changed, nobody else holds it) -/
inductive D where
  | undef
  | non
  | bl (b : Bool)
  | int (i : Int)
  | str (s : Str)
  | tup (xs : List D)
  | lst (m : Bool) (xs : List D)
  | dct (m t : Bool) (ks vs : List D)
  | ins (m : Bool) (c : Nat) (ds : List D)
  | fam (n : Int) (lots : List D)
  | scr (ns : List Int)

/-! ### what is owned: how often an address stands in a tree -/
abbrev Fp := Addr → Nat
def Fp.zero : Fp := fun _ => 0
def Fp.one (a : Addr) : Fp := fun b => if b = a then 1 else 0
def Fp.add (m k : Fp) : Fp := fun b => m b + k b
theorem Fp.ext {m k : Fp} (h : ∀ b, m b = k b) : m = k := funext h
@[simp] theorem Fp.zero_at (b : Addr) : Fp.zero b = 0 := rfl
@[simp] theorem Fp.add_at (m k : Fp) (b : Addr) : Fp.add m k b = m b + k b := rfl
theorem Fp.one_same (a : Addr) : Fp.one a a = 1 := if_pos rfl
theorem Fp.one_ne {a b : Addr} (h : b ≠ a) : Fp.one a b = 0 := if_neg h
@[simp] theorem Fp.zero_add (m : Fp) : Fp.add Fp.zero m = m := Fp.ext fun b => by simp
@[simp] theorem Fp.add_zero (m : Fp) : Fp.add m Fp.zero = m := Fp.ext fun b => by simp
theorem Fp.add_comm (m k : Fp) : Fp.add m k = Fp.add k m := Fp.ext fun b => by simp; omega
theorem Fp.add_assoc (m k l : Fp) : Fp.add (Fp.add m k) l = Fp.add m (Fp.add k l) := Fp.ext fun b => by simp; omega
theorem Fp.add_left_comm (m k l : Fp) : Fp.add m (Fp.add k l) = Fp.add k (Fp.add m l) := Fp.ext fun b => by simp; omega
theorem Fp.eq_zero_of_add {m k : Fp} (h : Fp.add m k = Fp.zero) : m = Fp.zero ∧ k = Fp.zero :=
  ⟨Fp.ext fun b => by have := congrFun h b; simp at this ⊢; omega, Fp.ext fun b => by have := congrFun h b; simp at this ⊢; omega⟩

/-- what a law's text brings: the program, the world, the written part, its classes, the family's class and its kept answers -/
structure Gen where
  P : Program
  W : World
  K : PySem.W.Frag
  cls : Nat → Addr
  flds : Nat → List Str
  famC : Addr
  memo : Str → Int → List D → Option D

/-- the world of trees: the abstract heap, what is frozen, the families' own dicts -/
structure Wd where
  h : Hp
  z : Addr → Prop
  y : Addr → Option (Int × List D)

/-- the raw look of a dict whose keys are tuples (the keys' own tuples apart) -/
def RawT (G : Gen) (d : Addr) (ys : List (NestedKey × Addr × V)) (h : Heap) : Prop :=
  ys.length ≤ sizeLine ∧ (d == sysModules) = false ∧ (∀ y ∈ ys, y.1.depth ≤ 8) ∧ ∃ xs : List (NestedKey × Addr × Value), Paired (fun (p : NestedKey × Addr × V) (q : NestedKey × Addr × Value) => p.1 = q.1 ∧ p.2.1 = q.2.1 ∧ RelV p.2.2 q.2.2) ys xs ∧
    ∃ o es ep, h.get? d = some o ∧ o.ExactDict ∧ o.data = .dict es ep ∧ es.toList = xs.map (entryOfKey (nestedKind G.P G.W)) ∧ (xs.map (·.1)).Nodup

def keyD : D → Option Key
  | .int i => some (.inl i)
  | .str s => some (.inr s)
  | _ => none
def keysD : List D → Option (List Key)
  | [] => some []
  | d :: ds => match keyD d, keysD ds with
    | some k, some ks => some (k :: ks)
    | _, _ => none
mutual
/-- a tree as a nested key -/
def nkD : D → Option NestedKey
  | .non => some .none
  | .bl b => some (.num (if b = true then 1 else 0))
  | .int i => some (.num i)
  | .str s => some (.text s)
  | .tup xs => match nkL xs with
    | some ks => some (.tup ks)
    | none => none
  | _ => none
def nkL : List D → Option (List NestedKey)
  | [] => some []
  | d :: ds => match nkD d, nkL ds with
    | some k, some ks => some (k :: ks)
    | _, _ => none
end

/-- an object stands at a, owned (f) or frozen -/
def At (w : Wd) (f : Bool) (a : Addr) (o : HO) : Prop := w.h a = some o ∧ (f = false → w.z a)
/-- the owned addresses of a tree whose root stands at a -/
def fl (f : Bool) (a : Addr) (m : Fp) : Fp := match f with
  | true => Fp.add (Fp.one a) m
  | false => m
/-- a list of the written part -/
def KL (K : PySem.W.Frag) (a : Addr) (xs : List V) : Prop :=
  ∃ (o : Obj) (its : Array Value) (n : Nat), K.lookup a = some o ∧ o.cls = .type "list" ∧ o.dict = none ∧ o.data = .seq its n ∧ its.size ≤ sizeLine ∧ Vals xs its.toList
/-- the script: known to the object, or of the written part -/
def ScrAt (G : Gen) (w : Wd) (a : Addr) (vs : List V) : Prop := (∃ o, w.h a = some (.frz o (.lst vs))) ∨ KL G.K a vs
/-- how much stands in an object -/
def hoLen : HO → Nat
  | .lst xs => xs.length
  | .tup xs => xs.length
  | .dK kvs => kvs.length
  | _ => 0

mutual
/-- the value v stands for the tree; m: the owned addresses in it -/
def Rep (G : Gen) (w : Wd) : D → V → Fp → Prop
  | .undef, _, _ => False
  | .non, v, m => v = .non ∧ m = Fp.zero
  | .bl b, v, m => v = .bl b ∧ m = Fp.zero
  | .int i, v, m => v = .int i ∧ m = Fp.zero
  | .str s, v, m => v = .str s ∧ m = Fp.zero
  | .tup xs, v, m => ∃ a vs, v = .ref a ∧ SqT G.K w.h a vs ∧ RepL G w xs vs m
  | .lst f xs, v, m => ∃ a vs m', v = .ref a ∧ At w f a (.lst vs) ∧ RepL G w xs vs m' ∧ m = fl f a m'
  | .dct f false ks vs, v, m => ∃ a kvs m', v = .ref a ∧ At w f a (.dK kvs) ∧ keysD ks = some (kvs.map (·.1)) ∧ RepL G w vs (kvs.map (·.2)) m' ∧ m = fl f a m'
  | .dct f true ks vs, v, m => ∃ a ys m', v = .ref a ∧ At w f a (.ext (RawT G a ys)) ∧ nkL ks = some (ys.map (·.1)) ∧ RepL G w ks (ys.map fun y => V.ref y.2.1) Fp.zero ∧ RepL G w vs (ys.map (·.2.2)) m' ∧ m = fl f a m'
  | .ins f c ds, v, m => ∃ a dx vs m', v = .ref a ∧ At w f a (.ins (G.cls c) dx ((G.flds c).zip vs)) ∧ vs.length ≤ (G.flds c).length ∧ RepL G w ds vs m' ∧ m = fl f a m'
  | .fam n lots, v, m => m = Fp.zero ∧ ∃ a dx t vs y, v = .ref a ∧ At w false a (.ins G.famC dx [("points", .int n), ("lots", .ref t), ("looked", .ref y)]) ∧ w.y y = some (n, lots) ∧ SqT G.K w.h t vs ∧ RepL G w lots vs Fp.zero
  | .scr ns, v, m => m = Fp.zero ∧ ∃ a, v = .ref a ∧ ScrAt G w a (ns.map V.int)
def RepL (G : Gen) (w : Wd) : List D → List V → Fp → Prop
  | [], vs, m => vs = [] ∧ m = Fp.zero
  | d :: ds, vs, m => ∃ v vs' m1 m2, vs = v :: vs' ∧ Rep G w d v m1 ∧ RepL G w ds vs' m2 ∧ m = Fp.add m1 m2
end

/-! ### what stays -/
/-- from w to w': what is not owned (by k) stays; k' what is owned then -/
structure Ext (k : Fp) (w w' : Wd) (k' : Fp) : Prop where
  keep : ∀ a o, w.h a = some o → k a = 0 → w.y a = none → w'.h a = some o
  tup : ∀ a vs, w.h a = some (.tup vs) → w'.h a = some (.tup vs)
  frz : ∀ a o u, w.h a = some (.frz o u) → w'.h a = some (.frz o u)
  all : ∀ a, w.h a ≠ none → w'.h a ≠ none
  z : ∀ a, w.z a → w'.z a
  zn : ∀ a, w'.z a → w.z a ∨ k a ≠ 0 ∨ w.h a = none
  y : ∀ a f, w.y a = some f → w'.y a = some f
  yn : ∀ a, w'.y a ≠ none → w.y a ≠ none ∨ k a ≠ 0 ∨ w.h a = none
  kn : ∀ a, k' a ≠ 0 → k a ≠ 0 ∨ w.h a = none

/-- the world's own order: what is frozen stands and is no family's dict; a family's dict holds right answers -/
structure World (G : Gen) (w : Wd) : Prop where
  len : ∀ a o, w.h a = some o → hoLen o ≤ sizeLine
  z : ∀ a, w.z a → w.h a ≠ none ∧ w.y a = none
  y : ∀ a n lots, w.y a = some (n, lots) → ∃ kvs : List (Key × V), w.h a = some (.dK kvs) ∧
    ∀ p ∈ kvs, ∃ s d, p.1 = .inr s ∧ G.memo s n lots = some d ∧ Rep G w d p.2 Fp.zero
/-- what is owned is owned once, and neither frozen nor a family's dict -/
def Own (w : Wd) (m : Fp) : Prop := ∀ a, m a ≤ 1 ∧ (m a ≠ 0 → ¬ w.z a ∧ w.y a = none)
theorem Own.zero {w : Wd} : Own w Fp.zero := fun a => ⟨Nat.zero_le _, fun q => absurd rfl q⟩
theorem Own.le {w : Wd} {m k : Fp} (o : Own w m) (h : ∀ a, k a ≤ m a) : Own w k := fun a => ⟨Nat.le_trans (h a) (o a).1, fun q => (o a).2 (by have := h a; omega)⟩
theorem Own.left {w : Wd} {m k : Fp} (o : Own w (Fp.add m k)) : Own w m := o.le fun a => by simp
theorem Own.right {w : Wd} {m k : Fp} (o : Own w (Fp.add m k)) : Own w k := o.le fun a => by simp
theorem Own.comm {w : Wd} {m k : Fp} (o : Own w (Fp.add m k)) : Own w (Fp.add k m) := by rw [Fp.add_comm]; exact o
/-- apart: nothing is owned twice -/
def Apart (m k : Fp) : Prop := ∀ a, m a = 0 ∨ k a = 0
theorem Own.apart {w : Wd} {m k : Fp} (o : Own w (Fp.add m k)) : Apart m k := fun a => by have := (o a).1; simp at this; omega
theorem Apart.add {m1 m2 k : Fp} : Apart (Fp.add m1 m2) k ↔ Apart m1 k ∧ Apart m2 k := by
  refine ⟨fun h => ⟨fun a => ?_, fun a => ?_⟩, fun h a => ?_⟩
  · have := h a; simp at this; omega
  · have := h a; simp at this; omega
  · have h1 := h.1 a; have h2 := h.2 a; simp; omega
theorem Apart.zero {k : Fp} : Apart Fp.zero k := fun _ => .inl rfl
theorem Apart.symm {m k : Fp} (h : Apart m k) : Apart k m := fun a => (h a).symm
theorem Apart.le {m k m' : Fp} (h : Apart m k) (q : ∀ a, m' a ≤ m a) : Apart m' k := fun a => by have := h a; have := q a; omega
theorem Apart.one {a : Addr} {k : Fp} (h : Apart (Fp.one a) k) : k a = 0 := by
  have := h a; rw [Fp.one_same] at this; omega
theorem fl_le {f : Bool} {a : Addr} {m : Fp} : ∀ b, m b ≤ fl f a m b := fun b => by cases f <;> simp [fl]
theorem fl_at {a : Addr} {m : Fp} : fl true a m a ≠ 0 := by simp [fl, Fp.one_same]

section
variable {G : Gen} {w w' : Wd} {k k' : Fp}
theorem SqT.ext (e : Ext k w w' k') {a : Addr} {vs : List V} (h : SqT G.K w.h a vs) : SqT G.K w'.h a vs := by
  rcases h with (h | ⟨o, h⟩) | h
  · exact .inl (.inl (e.tup _ _ h))
  · exact .inl (.inr ⟨o, e.frz _ _ _ h⟩)
  · exact .inr h
theorem keepZ (e : Ext k w w' k') (W : World G w) (O : Own w k) {a : Addr} {o : HO} (h : w.h a = some o) (z : w.z a) : w'.h a = some o :=
  e.keep a o h (Classical.byContradiction fun q => ((O a).2 q).1 z) (W.z a z).2
theorem At.ext (e : Ext k w w' k') (W : World G w) (O : Own w k) {f : Bool} {a : Addr} {o : HO} {m : Fp} (hm : Apart (fl f a m) k) (om : Own w (fl f a m)) (h : At w f a o) : At w' f a o := by
  cases f with
  | true =>
    refine ⟨e.keep a o h.1 ?_ ((om a).2 fl_at).2, fun q => nomatch q⟩
    rcases hm a with q | q
    · exact absurd q fl_at
    · exact q
  | false => exact ⟨keepZ e W O h.1 (h.2 rfl), fun _ => e.z a (h.2 rfl)⟩
theorem ScrAt.ext (e : Ext k w w' k') {a : Addr} {vs : List V} (h : ScrAt G w a vs) : ScrAt G w' a vs := by
  rcases h with ⟨o, h⟩ | h
  · exact .inl ⟨o, e.frz _ _ _ h⟩
  · exact .inr h

mutual
theorem Rep.ext (e : Ext k w w' k') (W : World G w) (O : Own w k) : ∀ (d : D) (v : V) (m : Fp), Apart m k → Own w m → Rep G w d v m → Rep G w' d v m
  | .undef, _, _, _, _, h => by simp only [Rep] at h
  | .non, _, _, _, _, h => by simpa only [Rep] using h
  | .bl _, _, _, _, _, h => by simpa only [Rep] using h
  | .int _, _, _, _, _, h => by simpa only [Rep] using h
  | .str _, _, _, _, _, h => by simpa only [Rep] using h
  | .tup xs, v, m, hm, om, h => by
    simp only [Rep] at h ⊢
    obtain ⟨a, vs, e1, h1, h2⟩ := h
    exact ⟨a, vs, e1, SqT.ext e h1, RepL.ext e W O xs vs m hm om h2⟩
  | .lst f xs, v, m, hm, om, h => by
    simp only [Rep] at h ⊢
    obtain ⟨a, vs, m', e1, h1, h2, rfl⟩ := h
    exact ⟨a, vs, m', e1, h1.ext e W O hm om, RepL.ext e W O xs vs m' (hm.le fl_le) (om.le fl_le) h2, rfl⟩
  | .dct f false ks vs, v, m, hm, om, h => by
    simp only [Rep] at h ⊢
    obtain ⟨a, kvs, m', e1, h1, h2, h3, rfl⟩ := h
    exact ⟨a, kvs, m', e1, h1.ext e W O hm om, h2, RepL.ext e W O vs _ m' (hm.le fl_le) (om.le fl_le) h3, rfl⟩
  | .dct f true ks vs, v, m, hm, om, h => by
    simp only [Rep] at h ⊢
    obtain ⟨a, ys, m', e1, h1, h2, h4, h3, rfl⟩ := h
    exact ⟨a, ys, m', e1, h1.ext e W O hm om, h2, RepL.ext e W O ks _ _ Apart.zero Own.zero h4, RepL.ext e W O vs _ m' (hm.le fl_le) (om.le fl_le) h3, rfl⟩
  | .ins f c ds, v, m, hm, om, h => by
    simp only [Rep] at h ⊢
    obtain ⟨a, dx, vs, m', e1, h1, h2, h3, rfl⟩ := h
    exact ⟨a, dx, vs, m', e1, h1.ext e W O hm om, h2, RepL.ext e W O ds _ m' (hm.le fl_le) (om.le fl_le) h3, rfl⟩
  | .fam n lots, v, m, hm, om, h => by
    simp only [Rep] at h ⊢
    obtain ⟨rfl, a, dx, t, vs, y, e1, h1, h2, h3, h4⟩ := h
    exact ⟨rfl, a, dx, t, vs, y, e1, h1.ext (m := Fp.zero) e W O Apart.zero Own.zero, e.y _ _ h2, SqT.ext e h3, RepL.ext e W O lots _ _ Apart.zero Own.zero h4⟩
  | .scr ns, v, m, hm, om, h => by
    simp only [Rep] at h ⊢
    obtain ⟨rfl, a, e1, h1⟩ := h
    exact ⟨rfl, a, e1, h1.ext e⟩
theorem RepL.ext (e : Ext k w w' k') (W : World G w) (O : Own w k) : ∀ (ds : List D) (vs : List V) (m : Fp), Apart m k → Own w m → RepL G w ds vs m → RepL G w' ds vs m
  | [], vs, m, _, _, h => by simpa only [RepL] using h
  | d :: ds, vs, m, hm, om, h => by
    simp only [RepL] at h ⊢
    obtain ⟨v, vs', m1, m2, rfl, h1, h2, rfl⟩ := h
    have hm' := Apart.add.mp hm
    exact ⟨v, vs', m1, m2, rfl, Rep.ext e W O d v m1 hm'.1 om.left h1, RepL.ext e W O ds vs' m2 hm'.2 om.right h2, rfl⟩
end

/-- owned addresses stand -/
theorem fl_cases {f : Bool} {a b : Addr} {m : Fp} (h : fl f a m b ≠ 0) : (f = true ∧ b = a) ∨ m b ≠ 0 := by
  cases f with
  | true =>
    by_cases q : b = a
    · exact .inl ⟨rfl, q⟩
    · refine .inr ?_
      simpa [fl, Fp.one_ne q] using h
  | false => exact .inr h
mutual
theorem Rep.there : ∀ (d : D) (v : V) (m : Fp), Rep G w d v m → ∀ b, m b ≠ 0 → w.h b ≠ none
  | .undef, _, _, h, b, q => by simp only [Rep] at h
  | .non, _, _, h, b, q => by simp only [Rep] at h; rw [h.2] at q; exact absurd rfl q
  | .bl _, _, _, h, b, q => by simp only [Rep] at h; rw [h.2] at q; exact absurd rfl q
  | .int _, _, _, h, b, q => by simp only [Rep] at h; rw [h.2] at q; exact absurd rfl q
  | .str _, _, _, h, b, q => by simp only [Rep] at h; rw [h.2] at q; exact absurd rfl q
  | .tup xs, v, m, h, b, q => by
    simp only [Rep] at h
    obtain ⟨a, vs, e1, h1, h2⟩ := h
    exact RepL.there xs vs m h2 b q
  | .lst f xs, v, m, h, b, q => by
    simp only [Rep] at h
    obtain ⟨a, vs, m', e1, h1, h2, rfl⟩ := h
    rcases fl_cases q with ⟨hf, rfl⟩ | q
    · rw [h1.1]; simp
    · exact RepL.there xs vs m' h2 b q
  | .dct f false ks vs, v, m, h, b, q => by
    simp only [Rep] at h
    obtain ⟨a, kvs, m', e1, h1, h2, h3, rfl⟩ := h
    rcases fl_cases q with ⟨hf, rfl⟩ | q
    · rw [h1.1]; simp
    · exact RepL.there vs _ m' h3 b q
  | .dct f true ks vs, v, m, h, b, q => by
    simp only [Rep] at h
    obtain ⟨a, ys, m', e1, h1, h2, h4, h3, rfl⟩ := h
    rcases fl_cases q with ⟨hf, rfl⟩ | q
    · rw [h1.1]; simp
    · exact RepL.there vs _ m' h3 b q
  | .ins f c ds, v, m, h, b, q => by
    simp only [Rep] at h
    obtain ⟨a, dx, vs, m', e1, h1, h2, h3, rfl⟩ := h
    rcases fl_cases q with ⟨hf, rfl⟩ | q
    · rw [h1.1]; simp
    · exact RepL.there ds _ m' h3 b q
  | .fam n lots, v, m, h, b, q => by
    simp only [Rep] at h
    obtain ⟨rfl, _⟩ := h
    exact absurd rfl q
  | .scr ns, v, m, h, b, q => by
    simp only [Rep] at h
    obtain ⟨rfl, _⟩ := h
    exact absurd rfl q
theorem RepL.there : ∀ (ds : List D) (vs : List V) (m : Fp), RepL G w ds vs m → ∀ b, m b ≠ 0 → w.h b ≠ none
  | [], vs, m, h, b, q => by simp only [RepL] at h; rw [h.2] at q; exact absurd rfl q
  | d :: ds, vs, m, h, b, q => by
    simp only [RepL] at h
    obtain ⟨v, vs', m1, m2, rfl, h1, h2, rfl⟩ := h
    by_cases q1 : m1 b = 0
    · exact RepL.there ds vs' m2 h2 b (by simp [q1] at q; exact q)
    · exact Rep.there d v m1 h1 b q1
end

/-! ### Ext: chains -/
theorem Ext.refl (k : Fp) (w : Wd) : Ext k w w k :=
  ⟨fun _ _ h _ _ => h, fun _ _ h => h, fun _ _ _ h => h, fun _ h => h, fun _ h => h, fun _ h => .inl h, fun _ _ h => h, fun _ h => .inl h, fun _ h => .inl h⟩
theorem Ext.trans {w1 w2 : Wd} {k1 k2 : Fp} (a : Ext k w w1 k1) (b : Ext k1 w1 w2 k2) : Ext k w w2 k2 := by
  have back : ∀ c, w1.h c = none → w.h c = none := fun c q => Classical.byContradiction fun n => a.all c n q
  refine ⟨fun c o h hk hy => ?_, fun c vs h => b.tup _ _ (a.tup _ _ h), fun c o u h => b.frz _ _ _ (a.frz _ _ _ h), fun c h => b.all c (a.all c h), fun c h => b.z c (a.z c h), fun c h => ?_, fun c f h => b.y c f (a.y c f h), fun c h => ?_, fun c h => ?_⟩
  · have h1 := a.keep c o h hk hy
    refine b.keep c o h1 (Classical.byContradiction fun q => ?_) (Classical.byContradiction fun q => ?_)
    · rcases a.kn c q with r | r
      · exact r hk
      · rw [h] at r; cases r
    · rcases a.yn c q with r | r | r
      · exact r hy
      · exact r hk
      · rw [h] at r; cases r
  · rcases b.zn c h with r | r | r
    · exact a.zn c r
    · exact (a.kn c r).elim (fun q => .inr (.inl q)) fun q => .inr (.inr q)
    · exact .inr (.inr (back c r))
  · rcases b.yn c h with r | r | r
    · exact a.yn c r
    · exact (a.kn c r).elim (fun q => .inr (.inl q)) fun q => .inr (.inr q)
    · exact .inr (.inr (back c r))
  · rcases b.kn c h with r | r
    · exact a.kn c r
    · exact .inr (back c r)
/-- a wider right to write, with something owned apart -/
theorem Ext.frame {w1 : Wd} {k1 m : Fp} (a : Ext k w w1 k1) : Ext (Fp.add m k) w w1 (Fp.add m k1) := by
  refine ⟨fun c o h hk hy => a.keep c o h (by simp at hk; omega) hy, a.tup, a.frz, a.all, a.z, fun c h => ?_, a.y, fun c h => ?_, fun c h => ?_⟩
  · rcases a.zn c h with r | r | r
    · exact .inl r
    · exact .inr (.inl (by simp; omega))
    · exact .inr (.inr r)
  · rcases a.yn c h with r | r | r
    · exact .inl r
    · exact .inr (.inl (by simp; omega))
    · exact .inr (.inr r)
  · by_cases q : m c = 0
    · rcases a.kn c (by simp [q] at h; exact h) with r | r
      · exact .inl (by simp; omega)
      · exact .inr r
    · exact .inl (by simp; omega)
theorem Ext.frameR {w1 : Wd} {k1 m : Fp} (a : Ext k w w1 k1) : Ext (Fp.add k m) w w1 (Fp.add k1 m) := by
  rw [Fp.add_comm k, Fp.add_comm k1]; exact a.frame
theorem Ext.less {w1 : Wd} {k1 k2 : Fp} (a : Ext k w w1 k1) (h : ∀ b, k2 b ≠ 0 → k1 b ≠ 0) : Ext k w w1 k2 :=
  ⟨a.keep, a.tup, a.frz, a.all, a.z, a.zn, a.y, a.yn, fun c q => a.kn c (h c q)⟩
theorem Ext.more {w1 : Wd} {k1 k0 : Fp} (a : Ext k w w1 k1) (h : ∀ b, k b ≠ 0 → k0 b ≠ 0) : Ext k0 w w1 k1 :=
  ⟨fun c o q r y => a.keep c o q (Classical.byContradiction fun n => h c n r) y, a.tup, a.frz, a.all, a.z, fun c q => (a.zn c q).elim .inl fun r => r.elim (fun r => .inr (.inl (h c r))) fun r => .inr (.inr r), a.y, fun c q => (a.yn c q).elim .inl fun r => r.elim (fun r => .inr (.inl (h c r))) fun r => .inr (.inr r), fun c q => (a.kn c q).elim (fun r => .inl (h c r)) .inr⟩
/-- what is owned apart stays owned -/
theorem Own.ext {w1 : Wd} {k1 m : Fp} (a : Ext k w w1 k1) (hm : Own w (Fp.add m k)) (t : ∀ b, m b ≠ 0 → w.h b ≠ none) (h1 : Own w1 k1) : Own w1 (Fp.add m k1) := by
  intro c
  have hc := hm c
  have h1c := h1 c
  by_cases q : m c = 0
  · simp only [Fp.add_at, q, Nat.zero_add]
    exact h1c
  · have tk := t c q
    have hk : k c = 0 := by have := hc.1; simp at this; omega
    have h10 : k1 c = 0 := Classical.byContradiction fun n => (a.kn c n).elim (fun r => r hk) tk
    have hz := hc.2 (by simp; omega)
    refine ⟨by have := hc.1; simp [h10] at this ⊢; omega, fun _ => ⟨fun z => ?_, Classical.byContradiction fun n => ?_⟩⟩
    · rcases a.zn c z with r | r | r
      · exact hz.1 r
      · exact r hk
      · exact tk r
    · rcases a.yn c n with r | r | r
      · exact r hz.2
      · exact r hk
      · exact tk r
end
end TL
end
section
set_option maxRecDepth 100000
/-! The tree layer, part B: freezing, slots, states, readings. -/
namespace TL
open PySem PySem.Spec PyProof.Rows L2

mutual
/-- given away: nothing in it is owned any more -/
def frz : D → D
  | .tup xs => .tup (frzL xs)
  | .lst _ xs => .lst false (frzL xs)
  | .dct _ t ks vs => .dct false t ks (frzL vs)
  | .ins _ c ds => .ins false c (frzL ds)
  | .undef => .undef
  | .non => .non
  | .bl b => .bl b
  | .int i => .int i
  | .str s => .str s
  | .fam n l => .fam n l
  | .scr ns => .scr ns
def frzL : List D → List D
  | [] => []
  | d :: ds => frz d :: frzL ds
end
mutual
/-- nothing in it is owned -/
def imm : D → Bool
  | .undef => false
  | .tup xs => immL xs
  | .lst m xs => !m && immL xs
  | .dct m _ _ vs => !m && immL vs
  | .ins m _ ds => !m && immL ds
  | .non => true
  | .bl _ => true
  | .int _ => true
  | .str _ => true
  | .fam _ _ => true
  | .scr _ => true
def immL : List D → Bool
  | [] => true
  | d :: ds => imm d && immL ds
end

section
variable {G : Gen} {w : Wd}
mutual
theorem Rep.imm0 : ∀ (d : D) (v : V) (m : Fp), imm d = true → Rep G w d v m → m = Fp.zero
  | .undef, v, m, hi, h => by simp only [Rep] at h
  | .non, v, m, hi, h => by simp only [Rep] at h; exact h.2
  | .bl _, v, m, hi, h => by simp only [Rep] at h; exact h.2
  | .int _, v, m, hi, h => by simp only [Rep] at h; exact h.2
  | .str _, v, m, hi, h => by simp only [Rep] at h; exact h.2
  | .tup xs, v, m, hi, h => by
    simp only [Rep] at h; simp only [imm] at hi
    obtain ⟨a, vs, e1, h1, h2⟩ := h
    exact RepL.imm0 xs vs m hi h2
  | .lst f xs, v, m, hi, h => by
    simp only [Rep] at h; simp only [imm, Bool.and_eq_true, Bool.not_eq_true'] at hi
    obtain ⟨a, vs, m', e1, h1, h2, rfl⟩ := h
    rw [hi.1]; exact RepL.imm0 xs vs m' hi.2 h2
  | .dct f false ks vs, v, m, hi, h => by
    simp only [Rep] at h; simp only [imm, Bool.and_eq_true, Bool.not_eq_true'] at hi
    obtain ⟨a, kvs, m', e1, h1, h2, h3, rfl⟩ := h
    rw [hi.1]; exact RepL.imm0 vs _ m' hi.2 h3
  | .dct f true ks vs, v, m, hi, h => by
    simp only [Rep] at h; simp only [imm, Bool.and_eq_true, Bool.not_eq_true'] at hi
    obtain ⟨a, ys, m', e1, h1, h2, h4, h3, rfl⟩ := h
    rw [hi.1]; exact RepL.imm0 vs _ m' hi.2 h3
  | .ins f c ds, v, m, hi, h => by
    simp only [Rep] at h; simp only [imm, Bool.and_eq_true, Bool.not_eq_true'] at hi
    obtain ⟨a, dx, vs, m', e1, h1, h2, h3, rfl⟩ := h
    rw [hi.1]; exact RepL.imm0 ds _ m' hi.2 h3
  | .fam n lots, v, m, hi, h => by simp only [Rep] at h; exact h.1
  | .scr ns, v, m, hi, h => by simp only [Rep] at h; exact h.1
theorem RepL.imm0 : ∀ (ds : List D) (vs : List V) (m : Fp), immL ds = true → RepL G w ds vs m → m = Fp.zero
  | [], vs, m, hi, h => by simp only [RepL] at h; exact h.2
  | d :: ds, vs, m, hi, h => by
    simp only [RepL] at h; simp only [immL, Bool.and_eq_true] at hi
    obtain ⟨v, vs', m1, m2, rfl, h1, h2, rfl⟩ := h
    rw [Rep.imm0 d v m1 hi.1 h1, RepL.imm0 ds vs' m2 hi.2 h2]; simp
end

/-- more is frozen -/
def Wd.frz (w : Wd) (m : Fp) : Wd := { w with z := fun a => w.z a ∨ m a ≠ 0 }
mutual
theorem Rep.zmono {k : Fp} : ∀ (d : D) (v : V) (m : Fp), Rep G w d v m → Rep G (w.frz k) d v m
  | .undef, v, m, h => by simp only [Rep] at h
  | .non, v, m, h => by simpa only [Rep] using h
  | .bl _, v, m, h => by simpa only [Rep] using h
  | .int _, v, m, h => by simpa only [Rep] using h
  | .str _, v, m, h => by simpa only [Rep] using h
  | .tup xs, v, m, h => by
    simp only [Rep] at h ⊢
    obtain ⟨a, vs, e1, h1, h2⟩ := h
    exact ⟨a, vs, e1, h1, RepL.zmono xs vs m h2⟩
  | .lst f xs, v, m, h => by
    simp only [Rep] at h ⊢
    obtain ⟨a, vs, m', e1, h1, h2, rfl⟩ := h
    exact ⟨a, vs, m', e1, ⟨h1.1, fun q => .inl (h1.2 q)⟩, RepL.zmono xs vs m' h2, rfl⟩
  | .dct f false ks vs, v, m, h => by
    simp only [Rep] at h ⊢
    obtain ⟨a, kvs, m', e1, h1, h2, h3, rfl⟩ := h
    exact ⟨a, kvs, m', e1, ⟨h1.1, fun q => .inl (h1.2 q)⟩, h2, RepL.zmono vs _ m' h3, rfl⟩
  | .dct f true ks vs, v, m, h => by
    simp only [Rep] at h ⊢
    obtain ⟨a, ys, m', e1, h1, h2, h4, h3, rfl⟩ := h
    exact ⟨a, ys, m', e1, ⟨h1.1, fun q => .inl (h1.2 q)⟩, h2, RepL.zmono ks _ _ h4, RepL.zmono vs _ m' h3, rfl⟩
  | .ins f c ds, v, m, h => by
    simp only [Rep] at h ⊢
    obtain ⟨a, dx, vs, m', e1, h1, h2, h3, rfl⟩ := h
    exact ⟨a, dx, vs, m', e1, ⟨h1.1, fun q => .inl (h1.2 q)⟩, h2, RepL.zmono ds _ m' h3, rfl⟩
  | .fam n lots, v, m, h => by
    simp only [Rep] at h ⊢
    obtain ⟨rfl, a, dx, t, vs, y, e1, h1, h2, h3, h4⟩ := h
    exact ⟨rfl, a, dx, t, vs, y, e1, ⟨h1.1, fun q => .inl (h1.2 q)⟩, h2, h3, RepL.zmono lots _ _ h4⟩
  | .scr ns, v, m, h => by
    simp only [Rep] at h ⊢
    exact h
theorem RepL.zmono {k : Fp} : ∀ (ds : List D) (vs : List V) (m : Fp), RepL G w ds vs m → RepL G (w.frz k) ds vs m
  | [], vs, m, h => by simpa only [RepL] using h
  | d :: ds, vs, m, h => by
    simp only [RepL] at h ⊢
    obtain ⟨v, vs', m1, m2, rfl, h1, h2, rfl⟩ := h
    exact ⟨v, vs', m1, m2, rfl, Rep.zmono d v m1 h1, RepL.zmono ds vs' m2 h2, rfl⟩
end
theorem at_frz {f : Bool} {a : Addr} {o : HO} {m' k : Fp} (hk : ∀ b, fl f a m' b ≠ 0 → k b ≠ 0) (h : At w f a o) : At (w.frz k) false a o := by
  refine ⟨h.1, fun _ => ?_⟩
  cases f with
  | true => exact .inr (hk a fl_at)
  | false => exact .inl (h.2 rfl)
theorem fl_sub {f : Bool} {a : Addr} {m' k : Fp} (hk : ∀ b, fl f a m' b ≠ 0 → k b ≠ 0) : ∀ b, m' b ≠ 0 → k b ≠ 0 := fun b q => hk b (by have := fl_le (f := f) (a := a) (m := m') b; omega)
mutual
/-- frozen with all that it owns -/
theorem Rep.frz {k : Fp} : ∀ (d : D) (v : V) (m : Fp), (∀ b, m b ≠ 0 → k b ≠ 0) → Rep G w d v m → Rep G (w.frz k) (TL.frz d) v Fp.zero
  | .undef, v, m, hk, h => by simp only [Rep] at h
  | .non, v, m, hk, h => by simp only [Rep, TL.frz] at h ⊢; exact ⟨h.1, trivial⟩
  | .bl _, v, m, hk, h => by simp only [Rep, TL.frz] at h ⊢; exact ⟨h.1, trivial⟩
  | .int _, v, m, hk, h => by simp only [Rep, TL.frz] at h ⊢; exact ⟨h.1, trivial⟩
  | .str _, v, m, hk, h => by simp only [Rep, TL.frz] at h ⊢; exact ⟨h.1, trivial⟩
  | .tup xs, v, m, hk, h => by
    simp only [Rep, TL.frz] at h ⊢
    obtain ⟨a, vs, e1, h1, h2⟩ := h
    exact ⟨a, vs, e1, h1, RepL.frz xs vs m hk h2⟩
  | .lst f xs, v, m, hk, h => by
    simp only [Rep, TL.frz] at h ⊢
    obtain ⟨a, vs, m', e1, h1, h2, rfl⟩ := h
    exact ⟨a, vs, _, e1, at_frz hk h1, RepL.frz xs vs m' (fl_sub hk) h2, rfl⟩
  | .dct f false ks vs, v, m, hk, h => by
    simp only [Rep, TL.frz] at h ⊢
    obtain ⟨a, kvs, m', e1, h1, h2, h3, rfl⟩ := h
    exact ⟨a, kvs, _, e1, at_frz hk h1, h2, RepL.frz vs _ m' (fl_sub hk) h3, rfl⟩
  | .dct f true ks vs, v, m, hk, h => by
    simp only [Rep, TL.frz] at h ⊢
    obtain ⟨a, ys, m', e1, h1, h2, h4, h3, rfl⟩ := h
    exact ⟨a, ys, _, e1, at_frz hk h1, h2, RepL.zmono ks _ _ h4, RepL.frz vs _ m' (fl_sub hk) h3, rfl⟩
  | .ins f c ds, v, m, hk, h => by
    simp only [Rep, TL.frz] at h ⊢
    obtain ⟨a, dx, vs, m', e1, h1, h2, h3, rfl⟩ := h
    exact ⟨a, dx, vs, _, e1, at_frz hk h1, h2, RepL.frz ds _ m' (fl_sub hk) h3, rfl⟩
  | .fam n lots, v, m, hk, h => by
    simp only [Rep, TL.frz] at h ⊢
    obtain ⟨rfl, a, dx, t, vs, y, e1, h1, h2, h3, h4⟩ := h
    exact ⟨trivial, a, dx, t, vs, y, e1, ⟨h1.1, fun q => .inl (h1.2 q)⟩, h2, h3, RepL.zmono lots _ _ h4⟩
  | .scr ns, v, m, hk, h => by
    simp only [Rep, TL.frz] at h ⊢
    exact ⟨trivial, h.2⟩
theorem RepL.frz {k : Fp} : ∀ (ds : List D) (vs : List V) (m : Fp), (∀ b, m b ≠ 0 → k b ≠ 0) → RepL G w ds vs m → RepL G (w.frz k) (frzL ds) vs Fp.zero
  | [], vs, m, hk, h => by simp only [RepL, frzL] at h ⊢; exact ⟨h.1, trivial⟩
  | d :: ds, vs, m, hk, h => by
    simp only [RepL, frzL] at h ⊢
    obtain ⟨v, vs', m1, m2, rfl, h1, h2, rfl⟩ := h
    exact ⟨v, vs', _, _, rfl, Rep.frz d v m1 (fun b q => hk b (by simp; omega)) h1, RepL.frz ds vs' m2 (fun b q => hk b (by simp; omega)) h2, by simp⟩
end
theorem World.frz {m : Fp} (W : World G w) (O : Own w m) (t : ∀ b, m b ≠ 0 → w.h b ≠ none) : World G (w.frz m) := by
  refine ⟨W.len, fun a h => ?_, fun a n lots h => ?_⟩
  · rcases h with h | h
    · exact W.z a h
    · exact ⟨t a h, ((O a).2 h).2⟩
  · obtain ⟨kvs, h1, h2⟩ := W.y a n lots h
    refine ⟨kvs, h1, fun p hp => ?_⟩
    obtain ⟨s, d, e1, e2, e3⟩ := h2 p hp
    exact ⟨s, d, e1, e2, Rep.zmono d _ _ e3⟩
theorem Own.frz {md m : Fp} (O : Own w (Fp.add md m)) : Own (w.frz md) m := fun a => ⟨(O.right a).1, fun q => ⟨fun z => by
  rcases z with z | z
  · exact ((O.right a).2 q).1 z
  · have := (O.apart a); omega, ((O.right a).2 q).2⟩⟩
theorem Ext.frzd {md m : Fp} : Ext (Fp.add md m) w (w.frz md) m :=
  ⟨fun _ _ h _ _ => h, fun _ _ h => h, fun _ _ _ h => h, fun _ h => h, fun _ h => .inl h, fun a h => h.elim .inl fun q => .inr (.inl (by simp; omega)), fun _ _ h => h, fun _ h => .inl h, fun a h => .inl (by simp; omega)⟩

/-! ### slots -/
def SlotR (G : Gen) (w : Wd) (d : D) (s : Option V) (m : Fp) : Prop := (d = .undef ∧ m = Fp.zero) ∨ ∃ v, s = some v ∧ Rep G w d v m
def FrR (G : Gen) (w : Wd) : List D → L2.St → Fp → Prop
  | [], σ, m => σ = [] ∧ m = Fp.zero
  | d :: e, σ, m => ∃ s σ' m1 m2, σ = s :: σ' ∧ SlotR G w d s m1 ∧ FrR G w e σ' m2 ∧ m = Fp.add m1 m2
theorem FrR.len : ∀ {e : List D} {σ : L2.St} {m : Fp}, FrR G w e σ m → e.length = σ.length
  | [], σ, m, h => by rw [h.1]; rfl
  | d :: e, σ, m, h => by
    obtain ⟨s, σ', m1, m2, rfl, _, h2, _⟩ := h
    simp [h2.len]
/-- what stands in a slot, taken out -/
theorem FrR.take : ∀ {e : List D} {σ : L2.St} {m : Fp} {i : Nat} {d : D}, FrR G w e σ m → e[i]? = some d → d ≠ .undef →
    ∃ v m1 m2, σ[i]? = some (some v) ∧ Rep G w d v m1 ∧ FrR G w (e.set i .undef) σ m2 ∧ m = Fp.add m1 m2
  | [], σ, m, i, d, h, hi, hd => by simp at hi
  | c :: e, σ, m, 0, d, h, hi, hd => by
    obtain ⟨s, σ', m1, m2, rfl, h1, h2, rfl⟩ := h
    simp only [List.getElem?_cons_zero, Option.some.injEq] at hi
    subst hi
    rcases h1 with ⟨q, _⟩ | ⟨v, rfl, r⟩
    · exact absurd q hd
    · exact ⟨v, m1, m2, rfl, r, ⟨some v, σ', Fp.zero, m2, rfl, .inl ⟨rfl, rfl⟩, h2, by simp⟩, rfl⟩
  | c :: e, σ, m, i + 1, d, h, hi, hd => by
    obtain ⟨s, σ', m1, m2, rfl, h1, h2, rfl⟩ := h
    obtain ⟨v, k1, k2, e1, r, f, rfl⟩ := FrR.take h2 (by simpa using hi) hd
    exact ⟨v, k1, Fp.add m1 k2, by simpa using e1, r, ⟨s, σ', m1, k2, rfl, h1, f, rfl⟩, by rw [Fp.add_left_comm]⟩
/-- a value put back under its name -/
theorem FrR.back : ∀ {e : List D} {σ : L2.St} {m2 m1 : Fp} {i : Nat} {d : D} {v : V}, FrR G w e σ m2 → e[i]? = some .undef → σ[i]? = some (some v) → Rep G w d v m1 → FrR G w (e.set i d) σ (Fp.add m1 m2)
  | [], σ, m2, m1, i, d, v, h, hi, hs, r => by simp at hi
  | c :: e, σ, m2, m1, 0, d, v, h, hi, hs, r => by
    obtain ⟨s, σ', k1, k2, rfl, h1, h2, rfl⟩ := h
    simp only [List.getElem?_cons_zero, Option.some.injEq] at hi hs
    subst hi; subst hs
    rcases h1 with ⟨_, rfl⟩ | ⟨v, _, q⟩
    · exact ⟨some v, σ', m1, k2, rfl, .inr ⟨v, rfl, r⟩, h2, by simp⟩
    · simp only [Rep] at q
  | c :: e, σ, m2, m1, i + 1, d, v, h, hi, hs, r => by
    obtain ⟨s, σ', k1, k2, rfl, h1, h2, rfl⟩ := h
    exact ⟨s, σ', k1, Fp.add m1 k2, rfl, h1, FrR.back h2 (by simpa using hi) (by simpa using hs) r, by rw [Fp.add_left_comm]⟩
/-- a slot forgotten, whatever is stored there -/
theorem FrR.drop : ∀ {e : List D} {σ : L2.St} {m : Fp} (i : Nat) (s : Option V), FrR G w e σ m → ∃ m2, FrR G w (e.set i .undef) (σ.set i s) m2 ∧ ∀ b, m2 b ≤ m b
  | [], σ, m, i, s, h => by
    obtain ⟨rfl, rfl⟩ := h
    exact ⟨Fp.zero, ⟨rfl, rfl⟩, fun _ => Nat.le_refl _⟩
  | c :: e, σ, m, 0, s, h => by
    obtain ⟨s', σ', m1, m2, rfl, h1, h2, rfl⟩ := h
    exact ⟨m2, ⟨s, σ', Fp.zero, m2, rfl, .inl ⟨rfl, rfl⟩, h2, by simp⟩, fun b => by simp⟩
  | c :: e, σ, m, i + 1, s, h => by
    obtain ⟨s', σ', m1, m2, rfl, h1, h2, rfl⟩ := h
    obtain ⟨k, f, l⟩ := FrR.drop i s h2
    exact ⟨Fp.add m1 k, ⟨s', σ'.set i s, m1, k, rfl, h1, f, rfl⟩, fun b => by have := l b; simp; omega⟩
theorem FrR.put {e : List D} {σ : L2.St} {m m1 : Fp} {i : Nat} {d : D} {v : V} (h : FrR G w e σ m) (hi : i < e.length) (r : Rep G w d v m1) :
    ∃ m2, FrR G w (e.set i d) (σ.set i (some v)) (Fp.add m1 m2) ∧ ∀ b, m2 b ≤ m b := by
  obtain ⟨m2, f, l⟩ := h.drop i (some v)
  refine ⟨m2, ?_, l⟩
  have := f.back (i := i) (d := d) (v := v) (by simp [hi]) (by rw [List.getElem?_set_self (by rw [← h.len]; exact hi)]) r
  rwa [List.set_set] at this
theorem FrR.ext {w' : Wd} {k k' : Fp} (x : Ext k w w' k') (W : World G w) (O : Own w k) : ∀ {e : List D} {σ : L2.St} {m : Fp}, Apart m k → Own w m → FrR G w e σ m → FrR G w' e σ m
  | [], σ, m, hm, om, h => h
  | d :: e, σ, m, hm, om, h => by
    obtain ⟨s, σ', m1, m2, rfl, h1, h2, rfl⟩ := h
    have hm' := Apart.add.mp hm
    refine ⟨s, σ', m1, m2, rfl, ?_, FrR.ext x W O hm'.2 om.right h2, rfl⟩
    rcases h1 with h1 | ⟨v, e1, r⟩
    · exact .inl h1
    · exact .inr ⟨v, e1, Rep.ext x W O d v m1 hm'.1 om.left r⟩
theorem FrR.frz {k : Fp} : ∀ {e : List D} {σ : L2.St} {m : Fp}, FrR G w e σ m → FrR G (w.frz k) e σ m
  | [], σ, m, h => h
  | d :: e, σ, m, h => by
    obtain ⟨s, σ', m1, m2, rfl, h1, h2, rfl⟩ := h
    refine ⟨s, σ', m1, m2, rfl, ?_, FrR.frz h2, rfl⟩
    rcases h1 with h1 | ⟨v, e1, r⟩
    · exact .inl h1
    · exact .inr ⟨v, e1, Rep.zmono d v m1 r⟩
theorem FrR.there : ∀ {e : List D} {σ : L2.St} {m : Fp}, FrR G w e σ m → ∀ b, m b ≠ 0 → w.h b ≠ none
  | [], σ, m, h, b, q => by rw [h.2] at q; exact absurd rfl q
  | d :: e, σ, m, h, b, q => by
    obtain ⟨s, σ', m1, m2, rfl, h1, h2, rfl⟩ := h
    by_cases q1 : m1 b = 0
    · exact h2.there b (by simp [q1] at q; exact q)
    · rcases h1 with ⟨_, rfl⟩ | ⟨v, e1, r⟩
      · exact absurd rfl q1
      · exact Rep.there d v m1 r b q1

/-- the slots that are read alone left out -/
def maskN (ro : Nat → Bool) : Nat → List D → List D
  | _, [] => []
  | n, d :: e => (if ro n = true then .undef else d) :: maskN ro (n + 1) e
theorem maskN_len {ro : Nat → Bool} : ∀ {n : Nat} {e : List D}, (maskN ro n e).length = e.length
  | n, [] => rfl
  | n, d :: e => by simp [maskN, maskN_len]
theorem maskN_get {ro : Nat → Bool} : ∀ {n : Nat} {e : List D} {i : Nat}, ro (n + i) = false → (maskN ro n e)[i]? = e[i]?
  | n, [], i, h => rfl
  | n, d :: e, 0, h => by simp only [Nat.add_zero] at h; simp [maskN, h]
  | n, d :: e, i + 1, h => by
    simp only [maskN, List.getElem?_cons_succ]
    exact maskN_get (by rw [Nat.add_assoc, Nat.add_comm 1 i]; exact h)
theorem maskN_set {ro : Nat → Bool} {d : D} : ∀ {n : Nat} {e : List D} {i : Nat}, ro (n + i) = false → maskN ro n (e.set i d) = (maskN ro n e).set i d
  | n, [], i, h => rfl
  | n, c :: e, 0, h => by simp only [Nat.add_zero] at h; simp [maskN, h]
  | n, c :: e, i + 1, h => by
    simp only [maskN, List.set_cons_succ]
    rw [maskN_set (by rw [Nat.add_assoc, Nat.add_comm 1 i]; exact h)]
abbrev mask (ro : Nat → Bool) (e : List D) : List D := maskN ro 0 e
theorem mask_get {ro : Nat → Bool} {e : List D} {i : Nat} (h : ro i = false) : (mask ro e)[i]? = e[i]? := maskN_get (by rw [Nat.zero_add]; exact h)
theorem mask_set {ro : Nat → Bool} {e : List D} {i : Nat} {d : D} (h : ro i = false) : mask ro (e.set i d) = (mask ro e).set i d := maskN_set (by rw [Nat.zero_add]; exact h)

/-- a slot that is read alone: what stands there is not this frame's own -/
structure RoE where
  i : Nat
  d : D
  v : V
  mr : Fp
structure RoOk (G : Gen) (w : Wd) (e : List D) (σ : L2.St) (m : Fp) (r : RoE) : Prop where
  ed : e[r.i]? = some r.d
  sv : σ[r.i]? = some (some r.v)
  rep : Rep G w r.d r.v r.mr
  own : Own w r.mr
  apart : Apart r.mr m
/-- the state of a frame: e the trees by slots, m what it owns; k what is owned beside it -/
structure SK (G : Gen) (ro : Nat → Bool) (R : List RoE) (w : Wd) (e : List D) (σ : L2.St) (m k : Fp) : Prop where
  world : World G w
  own : Own w (Fp.add m k)
  fr : FrR G w (mask ro e) σ m
  ros : ∀ r ∈ R, RoOk G w e σ (Fp.add m k) r
  cov : (∀ i, ro i = true → ∃ r ∈ R, r.i = i) ∧ ∀ r ∈ R, ro r.i = true
theorem Own.add_of {m k : Fp} (a : Own w m) (b : Own w k) (h : Apart m k) : Own w (Fp.add m k) := fun c => by
  have ha := a c; have hb := b c; have hc := h c
  refine ⟨by simp; omega, fun q => ?_⟩
  by_cases q1 : m c = 0
  · exact hb.2 (by simp [q1] at q; exact q)
  · exact ha.2 q1
theorem Ext.apart {w1 : Wd} {k k1 m : Fp} (x : Ext k w w1 k1) (h : Apart m k) (t : ∀ b, m b ≠ 0 → w.h b ≠ none) : Apart m k1 := fun c => by
  by_cases q : m c = 0
  · exact .inl q
  · refine .inr (Classical.byContradiction fun n => ?_)
    rcases x.kn c n with r | r
    · rcases h c with z | z
      · exact q z
      · exact r z
    · exact t c q r
section
variable {ro : Nat → Bool} {R : List RoE} {w' : Wd} {e e' : List D} {σ : L2.St} {m m' k k' : Fp}
theorem SK.there (S : SK G ro R w e σ m k) : ∀ b, m b ≠ 0 → w.h b ≠ none := S.fr.there
/-- what is beside the frame changes -/
theorem SK.step (S : SK G ro R w e σ m k) (x : Ext k w w' k') (W' : World G w') (O' : Own w' k') : SK G ro R w' e σ m k' := by
  refine ⟨W', Own.ext x S.own S.there O', S.fr.ext x S.world S.own.right S.own.apart S.own.left, fun r hr => ?_, S.cov⟩
  have h := S.ros r hr
  have ap := h.apart.symm
  have a1 : Apart r.mr m := (Apart.add.mp ap).1.symm
  have a2 : Apart r.mr k := (Apart.add.mp ap).2.symm
  have t := Rep.there r.d r.v r.mr h.rep
  have o2 := Own.ext x (Own.add_of h.own S.own.right a2) t O'
  exact ⟨h.ed, h.sv, Rep.ext x S.world S.own.right _ _ _ a2 h.own h.rep, o2.left, (Apart.add.mpr ⟨a1.symm, (x.apart a2 t).symm⟩).symm⟩
/-- the frame itself goes on, what is beside it (h) is held -/
theorem SK.hold {h : Fp} {σ' : L2.St} (S : SK G ro R w e σ m h) (th : ∀ b, h b ≠ 0 → w.h b ≠ none) (x : Ext m w w' (Fp.add m' k')) (S' : SK G ro R w' e' σ' m' k') : SK G ro R w' e' σ' m' (Fp.add k' h) := by
  have o := Own.ext (m := h) x S.own.comm th S'.own
  refine ⟨S'.world, by rw [← Fp.add_assoc]; exact o.comm, S'.fr, fun r hr => ?_, S'.cov⟩
  have a := S.ros r hr
  have b := S'.ros r hr
  have a1 := (Apart.add.mp a.apart.symm).2
  refine ⟨b.ed, b.sv, b.rep, b.own, ?_⟩
  rw [← Fp.add_assoc]
  exact (Apart.add.mpr ⟨b.apart.symm, a1⟩).symm
theorem SK.rep {h : Fp} {d : D} {v : V} (S : SK G ro R w e σ m h) (r : Rep G w d v h) (x : Ext m w w' k') : Rep G w' d v h :=
  Rep.ext x S.world S.own.left d v h S.own.apart.symm S.own.right r
theorem SK.less {k2 : Fp} (S : SK G ro R w e σ m k) (h : ∀ b, k2 b ≤ k b) : SK G ro R w e σ m k2 :=
  ⟨S.world, S.own.le fun b => by have := h b; simp; omega, S.fr, fun r hr => by
    have a := S.ros r hr
    exact ⟨a.ed, a.sv, a.rep, a.own, fun b => by have := a.apart b; have := h b; simp at *; omega⟩, S.cov⟩
theorem SK.zero (S : SK G ro R w e σ m k) : SK G ro R w e σ m Fp.zero := S.less fun _ => Nat.zero_le _
end
end
end TL
end
section
set_option maxRecDepth 100000
/-! The tree layer, part C: readings, names, constants, operators by values. -/
namespace TL
open PySem PySem.Spec PyProof.Rows L2

/-- an expression that changes nothing; one that may change the frame's trees; the same of tests; a statement -/
abbrev Ev := List D → Option D
abbrev EvM := List D → Option (D × List D)
abbrev EvT := List D → Option Bool
abbrev EvTM := List D → Option (Bool × List D)
inductive Out where
  | nx
  | bk
  | rt (d : D)
abbrev EvS := List D → Option (Out × List D)

section
variable (G : Gen) (ro : Nat → Bool)
/-- a value of its own -/
def tP (f : Ev) : TE := fun σ H Q => ∃ R w e m d, w.h = H ∧ SK G ro R w e σ m Fp.zero ∧ f e = some d ∧
  ∀ v w' md, SK G ro R w' e σ m md → Rep G w' d v md → Ext Fp.zero w w' md → Q v w'.h
/-- a value that is looked at alone -/
def tB (f : Ev) : TE := fun σ H Q => ∃ R w e m d, w.h = H ∧ SK G ro R w e σ m Fp.zero ∧ f e = some d ∧
  ∀ v w' mb, SK G ro R w' e σ m Fp.zero → Rep G w' d v mb → Own w' mb → Ext Fp.zero w w' Fp.zero → Q v w'.h
def tM (f : EvM) : TE := fun σ H Q => ∃ R w e m d e', w.h = H ∧ SK G ro R w e σ m Fp.zero ∧ f e = some (d, e') ∧
  ∀ v w' md m', SK G ro R w' e' σ m' md → Rep G w' d v md → Ext m w w' (Fp.add m' md) → Q v w'.h
def tT (f : EvT) : TT := fun σ H Q => ∃ R w e m b, w.h = H ∧ SK G ro R w e σ m Fp.zero ∧ f e = some b ∧
  ∀ w', SK G ro R w' e σ m Fp.zero → Ext Fp.zero w w' Fp.zero → Q b w'.h
def tTM (f : EvTM) : TT := fun σ H Q => ∃ R w e m b e', w.h = H ∧ SK G ro R w e σ m Fp.zero ∧ f e = some (b, e') ∧
  ∀ w' m', SK G ro R w' e' σ m' Fp.zero → Ext m w w' m' → Q b w'.h
/-- how a statement ends, seen from (w, m, σ); fx: the slots that are never stored -/
def EndS (G : Gen) (ro fx : Nat → Bool) (R : List RoE) (w : Wd) (m : Fp) (σ : L2.St) (Dn : Ends) (e' : List D) : Out → Prop
  | .nx => ∀ w' σ' m', SK G ro R w' e' σ' m' Fp.zero → Ext m w w' m' → (∀ i, fx i = true → σ'[i]? = σ[i]?) → Dn.nx σ' w'.h
  | .bk => ∀ w' σ' m', SK G ro R w' e' σ' m' Fp.zero → Ext m w w' m' → (∀ i, fx i = true → σ'[i]? = σ[i]?) → Dn.bk σ' w'.h
  | .rt d => ∀ v w' σ' m' md, SK G ro R w' e' σ' m' md → Rep G w' d v md → Ext m w w' (Fp.add m' md) → (∀ i, fx i = true → σ'[i]? = σ[i]?) → Dn.rt v w'.h
def tS (fx : Nat → Bool) (f : EvS) : TS := fun Dn σ H => ∃ R w e m o e', w.h = H ∧ SK G ro R w e σ m Fp.zero ∧ f e = some (o, e') ∧ EndS G ro fx R w m σ Dn e' o
end

section
variable {X : Cx} {G : Gen} {ro : Nat → Bool} {e : Expr}
theorem PE.weak {t t' : TE} (h : PE X e t) (w : ∀ σ H Q, t' σ H Q → t σ H Q) : PE X e t' := ⟨fun pins s σ H Q I q => h.run pins s σ H Q I (w σ H Q q)⟩
theorem PT.weak {t t' : TT} (h : PT X e t) (w : ∀ σ H Q, t' σ H Q → t σ H Q) : PT X e t' := ⟨fun pins s σ H Q I q => h.run pins s σ H Q I (w σ H Q q)⟩
theorem PS.weak {st : Stmt} {t t' : TS} (h : PS X st t) (w : ∀ Dn σ H, t' Dn σ H → t Dn σ H) : PS X st t' := ⟨fun pins s σ H Dn I q => h.run pins s σ H Dn I (w Dn σ H q)⟩
theorem PSs.weak {st : List Stmt} {t t' : TS} (h : PSs X st t) (w : ∀ Dn σ H, t' Dn σ H → t Dn σ H) : PSs X st t' := ⟨fun pins s σ H Dn I q => h.run pins s σ H Dn I (w Dn σ H q)⟩
theorem PI.weak {tg iter : Expr} {t t' : TI} (h : PI X tg iter t) (w : ∀ σ H R, t' σ H R → t σ H R) : PI X tg iter t' := ⟨fun pins s σ H R I q => h.run pins s σ H R I (w σ H R q)⟩
theorem PA.weak {es : List Expr} {t t' : TA} (h : PA X es t) (w : ∀ σ H Q, t' σ H Q → t σ H Q) : PA X es t' := ⟨fun pos pins s σ H Q I q => h.run pos pins s σ H Q I (w σ H Q q)⟩

theorem Ext.dropZ {w w' : Wd} {k k' : Fp} (x : Ext k w w' k') : Ext k w w' Fp.zero := x.less fun b q => absurd rfl q

/-! ### from one kind to another -/
theorem PB {f : Ev} (h : PE X e (tP G ro f)) : PE X e (tB G ro f) := PE.weak h fun σ H Q ⟨R, w, e, m, d, e0, S, hf, k⟩ =>
  ⟨R, w, e, m, d, e0, S, hf, fun v w' md S' r x => k v w' md S'.zero r S'.own.right x.dropZ⟩
def mP (f : Ev) : EvM := fun e => match f e with
  | some d => some (d, e)
  | none => none
theorem PM {f : Ev} (h : PE X e (tP G ro f)) : PE X e (tM G ro (mP f)) := PE.weak h fun σ H Q ⟨R, w, e, m, d, e', e0, S, hf, k⟩ => by
  unfold mP at hf
  split at hf
  · rename_i d' hd
    cases hf
    exact ⟨R, w, e, m, d, e0, S, hd, fun v w' md S' r x => k v w' md m S' r (by have := x.frame (m := m); rwa [Fp.add_zero] at this)⟩
  · cases hf
/-- a value that is looked at alone, nothing of it owned -/
def pI (f : Ev) : Ev := fun e => match f e with
  | some d => if imm d = true then some d else none
  | none => none
theorem BP {f : Ev} (h : PE X e (tB G ro f)) : PE X e (tP G ro (pI f)) := PE.weak h fun σ H Q ⟨R, w, e, m, d, e0, S, hf, k⟩ => by
  unfold pI at hf
  split at hf
  · rename_i d' hd
    split at hf
    · rename_i hi
      cases hf
      refine ⟨R, w, e, m, d, e0, S, hd, fun v w' mb S' r o x => ?_⟩
      have z := Rep.imm0 d v mb hi r
      subst z
      exact k v w' Fp.zero S' r x
    · cases hf
  · cases hf

/-! ### constants -/
def pC (d : D) : Ev := fun _ => some d
theorem r_flat {d : D} {v : V} (h : PE X e (tC v)) (r : ∀ w, Rep G w d v Fp.zero) : PE X e (tP G ro (pC d)) := PE.weak h fun σ H Q ⟨R, w, e, m, d', e0, S, hf, k⟩ => by
  cases hf
  subst e0
  exact k v w Fp.zero S (r w) (Ext.refl _ _)
theorem r_int {i : Int} {j pos} : PE X (.Constant (.int i) j pos) (tP G ro (pC (.int i))) := r_flat pe_int fun w => by simp only [Rep]; exact ⟨trivial, trivial⟩
theorem r_bl {b : Bool} {j pos} : PE X (.Constant (.bool b) j pos) (tP G ro (pC (.bl b))) := r_flat pe_bl fun w => by simp only [Rep]; exact ⟨trivial, trivial⟩
theorem r_non {j pos} : PE X (.Constant .none j pos) (tP G ro (pC .non)) := r_flat pe_non fun w => by simp only [Rep]; exact ⟨trivial, trivial⟩
theorem r_str {x : Str} {j pos} : PE X (.Constant (.str x) j pos) (tP G ro (pC (.str x))) := r_flat pe_str fun w => by simp only [Rep]; exact ⟨trivial, trivial⟩
/-- a module's int -/
theorem r_gint {x : Str} {i : Int} {u : Value} {pos : Pos} (hg : Gl X x) (hm : X.mg x = some u) (r : RelV (.int i) u) (hd : (x == ("__debug__" : Str)) = false := by decide) : PE X (.Name x pos) (tP G ro (pC (.int i))) :=
  r_flat (pe_glob hg hm r hd) fun w => by simp only [Rep]; exact ⟨trivial, trivial⟩

/-! ### names -/
def slot (e : List D) (i : Nat) : Option D := match e[i]? with
  | some .undef => none
  | some d => some d
  | none => none
theorem slot_some {e : List D} {i : Nat} {d : D} (h : slot e i = some d) : e[i]? = some d ∧ d ≠ .undef := by
  unfold slot at h
  split at h
  · cases h
  · rename_i d' q1 q2
    cases h
    refine ⟨q2, fun z => ?_⟩
    subst z
    exact q1 rfl
  · cases h
theorem SK.slot {R : List RoE} {w : Wd} {e : List D} {σ : L2.St} {m k : Fp} {i : Nat} {d : D} (S : SK G ro R w e σ m k) (h : TL.slot e i = some d) :
    ∃ v mb, σ[i]? = some (some v) ∧ Rep G w d v mb ∧ Own w mb := by
  obtain ⟨h1, h2⟩ := slot_some h
  cases hr : ro i with
  | true =>
    obtain ⟨r, hr1, rfl⟩ := S.cov.1 i hr
    have a := S.ros r hr1
    have : r.d = d := Option.some.inj (a.ed.symm.trans h1)
    subst this
    exact ⟨r.v, r.mr, a.sv, a.rep, a.own⟩
  | false =>
    obtain ⟨v, m1, m2, e1, r, f, rfl⟩ := S.fr.take (i := i) (d := d) (by rw [mask_get hr]; exact h1) h2
    exact ⟨v, m1, e1, r, S.own.left.left⟩
def bVar (i : Nat) : Ev := fun e => slot e i
theorem r_var (i : Nat) {x : Str} {pos : Pos} (hN : X.N[i]? = some x := by rfl) (hv : Vis X.env.scope x := by first | exact Or.inl rfl | exact Or.inr (Or.inl rfl) | exact Or.inr (Or.inr rfl)) (hd : (x == ("__debug__" : Str)) = false := by decide)
    (hcd : (x == ("__classdict__" : Str)) = false := by decide) : PE X (.Name x pos) (tB G ro (bVar i)) := PE.weak (pe_var hN hv hd hcd) fun σ H Q ⟨R, w, e, m, d, e0, S, hf, k⟩ => by
  subst e0
  obtain ⟨v, mb, e1, r, o⟩ := S.slot hf
  exact ⟨v, e1, k v w mb S r o (Ext.refl _ _)⟩
/-- a name's value given away: from then on it is frozen -/
def mVar (i : Nat) : EvM := fun e => match slot e i with
  | some d => some (frz d, e.set i (frz d))
  | none => none
/-- a name's value moved out -/
def mMov (i : Nat) : EvM := fun e => match slot e i with
  | some d => some (d, e.set i .undef)
  | none => none

theorem SK.takeSlot {R : List RoE} {w : Wd} {e : List D} {σ : L2.St} {m : Fp} {i : Nat} {d : D} (S : SK G ro R w e σ m Fp.zero) (hr : ro i = false) (h : TL.slot e i = some d) :
    ∃ v md m', σ[i]? = some (some v) ∧ Rep G w d v md ∧ m = Fp.add md m' ∧ SK G ro R w (e.set i .undef) σ m' md := by
  obtain ⟨h1, h2⟩ := slot_some h
  obtain ⟨v, m1, m2, e1, r, f, rfl⟩ := S.fr.take (i := i) (d := d) (by rw [mask_get hr]; exact h1) h2
  refine ⟨v, m1, m2, e1, r, rfl, S.world, by rw [Fp.add_comm]; exact S.own, by rw [mask_set hr]; exact f, fun q hq => ?_, S.cov⟩
  have a := S.ros q hq
  have ne : q.i ≠ i := fun z => by
    have z' := S.cov.2 q hq
    rw [z, hr] at z'; cases z'
  exact ⟨by rw [List.getElem?_set_ne (Ne.symm ne)]; exact a.ed, a.sv, a.rep, a.own, by rw [Fp.add_comm]; exact a.apart⟩

theorem r_mov (i : Nat) {x : Str} {pos : Pos} (hr : ro i = false := by rfl) (hN : X.N[i]? = some x := by rfl) (hv : Vis X.env.scope x := by first | exact Or.inl rfl | exact Or.inr (Or.inl rfl) | exact Or.inr (Or.inr rfl)) (hd : (x == ("__debug__" : Str)) = false := by decide)
    (hcd : (x == ("__classdict__" : Str)) = false := by decide) : PE X (.Name x pos) (tM G ro (mMov i)) := PE.weak (pe_var hN hv hd hcd) fun σ H Q ⟨R, w, e, m, d, e', e0, S, hf, k⟩ => by
  subst e0
  unfold mMov at hf
  split at hf
  · rename_i d' hd'
    cases hf
    obtain ⟨v, md, m', e1, r, rfl, S'⟩ := S.takeSlot hr hd'
    exact ⟨v, e1, k v w md m' S' r ((Ext.refl _ _).less fun b q => by rw [Fp.add_comm]; exact q)⟩
  · cases hf
theorem SK.frzSlot {R : List RoE} {w : Wd} {e : List D} {σ : L2.St} {m : Fp} {i : Nat} {d : D} (S : SK G ro R w e σ m Fp.zero) (hr : ro i = false) (h : TL.slot e i = some d) :
    ∃ v w' m', σ[i]? = some (some v) ∧ w'.h = w.h ∧ Rep G w' (frz d) v Fp.zero ∧ SK G ro R w' (e.set i (frz d)) σ m' Fp.zero ∧ Ext m w w' m' := by
  obtain ⟨v, md, m', e1, r, rfl, S'⟩ := S.takeSlot hr h
  have rf := Rep.frz d v md (k := md) (fun b q => q) r
  have t := Rep.there d v md r
  have il : i < e.length := (List.getElem?_eq_some_iff.mp (slot_some h).1).1
  have fb := (S'.fr.frz (k := md)).back (i := i) (d := frz d) (v := v) (by rw [mask_get hr]; simp [il]) e1 rf
  rw [mask_set hr, List.set_set, ← mask_set hr, Fp.zero_add] at fb
  refine ⟨v, w.frz md, m', e1, rfl, rf, ⟨S.world.frz S'.own.right t, ?_, fb, fun q hq => ?_, S.cov⟩, ?_⟩
  · exact Own.frz (md := md) (m := m') S'.own.comm
  · have a := S'.ros q hq
    have ne : q.i ≠ i := fun z => by
      have z' := S.cov.2 q hq
      rw [z, hr] at z'; cases z'
    refine ⟨by rw [List.getElem?_set_ne (Ne.symm ne)]; have := a.ed; rwa [List.getElem?_set_ne (Ne.symm ne)] at this, a.sv, Rep.zmono _ _ _ a.rep, ?_, ?_⟩
    · have ap := (Apart.add.mp a.apart.symm).2.symm
      exact Own.frz (md := md) (m := q.mr) ((Own.add_of S'.own.right a.own ap.symm))
    · exact fun b => by have := a.apart b; simp at *; omega
  · exact Ext.frzd
theorem r_varF (i : Nat) {x : Str} {pos : Pos} (hr : ro i = false := by rfl) (hN : X.N[i]? = some x := by rfl) (hv : Vis X.env.scope x := by first | exact Or.inl rfl | exact Or.inr (Or.inl rfl) | exact Or.inr (Or.inr rfl)) (hd : (x == ("__debug__" : Str)) = false := by decide)
    (hcd : (x == ("__classdict__" : Str)) = false := by decide) : PE X (.Name x pos) (tM G ro (mVar i)) := PE.weak (pe_var hN hv hd hcd) fun σ H Q ⟨R, w, e, m, d, e', e0, S, hf, k⟩ => by
  subst e0
  unfold mVar at hf
  split at hf
  · rename_i d' hd'
    cases hf
    obtain ⟨v, w', m', e1, eh, r, S', x⟩ := S.frzSlot hr hd'
    refine ⟨v, e1, ?_⟩
    rw [← eh]
    exact k v w' Fp.zero m' S' r x
  · cases hf

/-! ### operators by values -/
/-- what a two-place operation asks and gives: trees in, a tree out, all of it new or frozen -/
def r2 (G : Gen) (g : D → D → Option D) : R2 := fun x y H Q => ∃ w d1 d2 m1 m2 d, w.h = H ∧ World G w ∧ Rep G w d1 x m1 ∧ Own w m1 ∧ Rep G w d2 y m2 ∧ Own w m2 ∧ g d1 d2 = some d ∧
  ∀ v w' md, World G w' → Rep G w' d v md → Own w' md → Ext Fp.zero w w' md → Q v w'.h
def rU1 (G : Gen) (g : D → Option D) : V → Hp → VK → Prop := fun x H Q => ∃ w d1 m1 d, w.h = H ∧ World G w ∧ Rep G w d1 x m1 ∧ Own w m1 ∧ g d1 = some d ∧
  ∀ v w' md, World G w' → Rep G w' d v md → Own w' md → Ext Fp.zero w w' md → Q v w'.h
def p1 (g : D → Option D) (f : Ev) : Ev := fun e => match f e with
  | some a => g a
  | none => none
def p2 (g : D → D → Option D) (f1 f2 : Ev) : Ev := fun e => match f1 e, f2 e with
  | some a, some b => g a b
  | _, _ => none
def m1 (g : D → Option D) (f : EvM) : EvM := fun e => match f e with
  | some (a, e1) => match g a with
    | some d => some (d, e1)
    | none => none
  | none => none
def m2 (g : D → D → Option D) (f1 f2 : EvM) : EvM := fun e => match f1 e with
  | some (a, e1) => match f2 e1 with
    | some (b, e2) => match g a b with
      | some d => some (d, e2)
      | none => none
    | none => none
  | none => none
/-- two values looked at, one after another -/
theorem bb {g : D → D → Option D} {f1 f2 : Ev} {σ : L2.St} {H : Hp} {Q : VK} (h : tP G ro (p2 g f1 f2) σ H Q) : tOp (r2 G g) (tB G ro f1) (tB G ro f2) σ H Q := by
  obtain ⟨R, w, e, m, d, e0, S, hf, k⟩ := h
  unfold p2 at hf
  split at hf
  · rename_i a b ha hb
    refine ⟨R, w, e, m, a, e0, S, ha, fun v1 w1 m1 S1 r1 o1 x1 => ?_⟩
    refine ⟨R, w1, e, m, b, rfl, S1, hb, fun v2 w2 m2 S2 r2 o2 x2 => ?_⟩
    have r1' := Rep.ext x2 S1.world Own.zero a v1 m1 (fun _ => .inr rfl) o1 r1
    have o1' := (Own.ext (m := m1) x2 (by rw [Fp.add_zero]; exact o1) (Rep.there _ _ _ r1) Own.zero).left
    refine ⟨w2, a, b, m1, m2, d, rfl, S2.world, r1', o1', r2, o2, hf, fun v w' md W' r o x => ?_⟩
    exact k v w' md (S2.step x W' o) r ((x1.trans x2).trans x)
  · cases hf
theorem b1 {g : D → Option D} {f : Ev} {σ : L2.St} {H : Hp} {Q : VK} (h : tP G ro (p1 g f) σ H Q) : tUn (rU1 G g) (tB G ro f) σ H Q := by
  obtain ⟨R, w, e, m, d, e0, S, hf, k⟩ := h
  unfold p1 at hf
  split at hf
  · rename_i a ha
    refine ⟨R, w, e, m, a, e0, S, ha, fun v1 w1 m1 S1 r1 o1 x1 => ?_⟩
    exact ⟨w1, a, m1, d, rfl, S1.world, r1, o1, hf, fun v w' md W' r o x => k v w' md (S1.step x W' o) r (x1.trans x)⟩
  · cases hf
theorem mm1 {g : D → Option D} {f : EvM} {σ : L2.St} {H : Hp} {Q : VK} (h : tM G ro (m1 g f) σ H Q) : tUn (rU1 G g) (tM G ro f) σ H Q := by
  obtain ⟨R, w, e, m, d, e', e0, S, hf, k⟩ := h
  unfold m1 at hf
  split at hf
  · rename_i a e1 ha
    split at hf
    · rename_i d' hg
      cases hf
      refine ⟨R, w, e, m, a, e', e0, S, ha, fun v1 w1 md1 mm S1 r1 x1 => ?_⟩
      refine ⟨w1, a, md1, d, rfl, S1.world, r1, S1.own.right, hg, fun v w' md W' r o x => ?_⟩
      have x' : Ext (Fp.add mm md1) w1 w' (Fp.add mm md) := ((x.frame (m := mm)).more fun b q => by simp at *; omega)
      exact k v w' md mm (S1.zero.step x W' o) r (x1.trans x')
    · cases hf
  · cases hf
theorem mm2 {g : D → D → Option D} {f1 f2 : EvM} {σ : L2.St} {H : Hp} {Q : VK} (h : tM G ro (m2 g f1 f2) σ H Q) : tOp (r2 G g) (tM G ro f1) (tM G ro f2) σ H Q := by
  obtain ⟨R, w, e, m, d, e', e0, S, hf, k⟩ := h
  unfold m2 at hf
  split at hf
  · rename_i a e1 ha
    split at hf
    · rename_i b e2 hb
      split at hf
      · rename_i d' hg
        cases hf
        refine ⟨R, w, e, m, a, e1, e0, S, ha, fun v1 w1 md1 mm1 S1 r1 x1 => ?_⟩
        refine ⟨R, w1, e1, mm1, b, e', rfl, S1.zero, hb, fun v2 w2 md2 mm2 S2 r2 x2 => ?_⟩
        have r1' := S1.rep r1 x2
        have S2' := S1.hold (Rep.there _ _ _ r1) x2 S2
        refine ⟨w2, a, b, md1, md2, d, rfl, S2.world, r1', S2'.own.right.right, r2, S2.own.right, hg, fun v w' md W' r o x => ?_⟩
        have x' : Ext (Fp.add mm2 md2) w2 w' (Fp.add mm2 md) := ((x.frame (m := mm2)).more fun b q => by simp at *; omega)
        have y1 : Ext (Fp.add mm1 md1) w1 w2 (Fp.add (Fp.add mm2 md2) md1) := x2.frameR
        have y2 : Ext (Fp.add (Fp.add mm2 md2) md1) w2 w' (Fp.add mm2 md) := x'.more fun b q => by simp at *; omega
        exact k v w' md mm2 (S2.zero.step x W' o) r ((x1.trans y1).trans y2)
      · cases hf
    · cases hf
  · cases hf
end
end TL
end
section
set_option maxRecDepth 100000
/-! The tree layer, part D: bounds, new objects, operators and comparisons by values. -/
namespace TL
open PySem PySem.Spec PyProof.Rows L2

/-! ### bounds that the machine keeps -/
def Bd (H : Hp) : Prop := ∀ a o, H a = some o → hoLen o ≤ sizeLine
theorem HOk.bd {P : Program} {w : PySem.World} {H : Hp} {h : Heap} (k : HOk P w H h) : Bd H := fun a o e => by
  have q := k a o e
  cases o with
  | lst xs => exact q.1
  | tup xs => exact q.1
  | dK kvs => exact q.1
  | _ => exact Nat.zero_le _
section
variable {X : Cx} {e : Expr}
theorem PE.bnd {t : TE} (h : PE X e t) : PE X e (fun σ H Q => t σ H fun v H' => Bd H' → Q v H') := ⟨fun pins s σ H Q I q =>
  thn (h.run pins s σ H _ I q) fun u s' ⟨v, H', I', r, k⟩ => ⟨v, H', I', r, k (HOk.bd I'.hok)⟩⟩
theorem OpR.bnd {f : Value → Value → Sem Value} {r : R2} (h : OpR X f r) : OpR X f (fun x y H Q => r x y H fun v H' => Bd H' → Q v H') := fun pins s σ H x y v u Q I rx ry q =>
  thn (h pins s σ H x y v u _ I rx ry q) fun u s' ⟨v, H', I', r, k⟩ => ⟨v, H', I', r, k (HOk.bd I'.hok)⟩
theorem UnR.bnd {f : Value → Sem Value} {r : V → Hp → VK → Prop} (h : UnR X f r) : UnR X f (fun x H Q => r x H fun v H' => Bd H' → Q v H') := fun pins s σ H x v Q I rx q =>
  thn (h pins s σ H x v _ I rx q) fun u s' ⟨v, H', I', r, k⟩ => ⟨v, H', I', r, k (HOk.bd I'.hok)⟩
theorem CallR.bnd {f : Value} {r : List V → Hp → VK → Prop} (h : CallR X f r) : CallR X f (fun xs H Q => r xs H fun v H' => Bd H' → Q v H') := fun pins s σ H xs us Q I rx q =>
  thn (h pins s σ H xs us _ I rx q) fun u s' ⟨v, H', I', r, k⟩ => ⟨v, H', I', r, k (HOk.bd I'.hok)⟩
theorem OpR.weak {f : Value → Value → Sem Value} {r r' : R2} (h : OpR X f r) (w : ∀ x y H Q, r' x y H Q → r x y H Q) : OpR X f r' := fun pins s σ H x y v u Q I rx ry q => h pins s σ H x y v u Q I rx ry (w _ _ _ _ q)
theorem UnR.weak {f : Value → Sem Value} {r r' : V → Hp → VK → Prop} (h : UnR X f r) (w : ∀ x H Q, r' x H Q → r x H Q) : UnR X f r' := fun pins s σ H x v Q I rx q => h pins s σ H x v Q I rx (w _ _ _ q)
theorem CallR.weak {f : Value} {r r' : List V → Hp → VK → Prop} (h : CallR X f r) (w : ∀ xs H Q, r' xs H Q → r xs H Q) : CallR X f r' := fun pins s σ H xs us Q I rx q => h pins s σ H xs us Q I rx (w _ _ _ q)
end

/-! ### a new object -/
def Wd.new (w : Wd) (p : Addr) (o : HO) : Wd := { w with h := upd w.h p o }
section
variable {G : Gen} {w : Wd} {p : Addr} {o : HO}
theorem World.yfree (W : World G w) (hp : w.h p = none) : w.y p = none := by
  cases q : w.y p with
  | none => rfl
  | some f =>
    obtain ⟨kvs, h, _⟩ := W.y p f.1 f.2 q
    rw [hp] at h; cases h
theorem World.zfree (W : World G w) (hp : w.h p = none) : ¬ w.z p := fun q => (W.z p q).1 hp
theorem Ext.new {k' : Fp} (hp : w.h p = none) (hk : ∀ b, k' b ≠ 0 → b = p) : Ext Fp.zero w (w.new p o) k' := by
  refine ⟨fun a u h _ _ => ?_, fun a vs h => ?_, fun a u v h => ?_, fun a h => ?_, fun a h => h, fun a h => .inl h, fun a f h => h, fun a h => .inl h, fun a h => .inr (by rw [hk a h]; exact hp)⟩
  · exact (upd_ne (ne_of_none h hp)).trans h
  · exact (upd_ne (ne_of_none h hp)).trans h
  · exact (upd_ne (ne_of_none h hp)).trans h
  · show upd w.h p o a ≠ none
    by_cases q : a = p
    · rw [q, upd_same]; simp
    · rw [upd_ne q]; exact h
theorem World.new (W : World G w) (hp : w.h p = none) (hl : hoLen o ≤ sizeLine) : World G (w.new p o) := by
  have x : Ext Fp.zero w (w.new p o) Fp.zero := Ext.new hp fun b q => absurd rfl q
  refine ⟨fun a u h => ?_, fun a h => ⟨x.all a (W.z a h).1, (W.z a h).2⟩, fun a n lots h => ?_⟩
  · by_cases q : a = p
    · subst q
      have h' : upd w.h a o a = some u := h
      rw [upd_same] at h'; cases h'; exact hl
    · have h' : upd w.h p o a = some u := h
      rw [upd_ne q] at h'; exact W.len a u h'
  · obtain ⟨kvs, h1, h2⟩ := W.y a n lots h
    refine ⟨kvs, (upd_ne (ne_of_none h1 hp)).trans h1, fun q hq => ?_⟩
    obtain ⟨s, d, e1, e2, e3⟩ := h2 q hq
    exact ⟨s, d, e1, e2, Rep.ext x W Own.zero _ _ _ Apart.zero Own.zero e3⟩
theorem Own.new (W : World G w) (hp : w.h p = none) : Own (w.new p o) (Fp.one p) := fun a => by
  refine ⟨by unfold Fp.one; split <;> omega, fun q => ?_⟩
  by_cases e : a = p
  · subst e; exact ⟨W.zfree hp, W.yfree hp⟩
  · exact absurd (Fp.one_ne e) q

/-! ### lists of trees -/
theorem RepL.len : ∀ {ds : List D} {vs : List V} {m : Fp}, RepL G w ds vs m → ds.length = vs.length
  | [], vs, m, h => by simp only [RepL] at h; rw [h.1]; rfl
  | d :: ds, vs, m, h => by
    simp only [RepL] at h
    obtain ⟨v, vs', m1, m2, rfl, h1, h2, rfl⟩ := h
    simp [h2.len]
theorem RepL.app : ∀ {ds es : List D} {vs us : List V} {m k : Fp}, RepL G w ds vs m → RepL G w es us k → RepL G w (ds ++ es) (vs ++ us) (Fp.add m k)
  | [], es, vs, us, m, k, h, h' => by
    simp only [RepL] at h
    obtain ⟨rfl, rfl⟩ := h
    simpa using h'
  | d :: ds, es, vs, us, m, k, h, h' => by
    simp only [RepL] at h
    obtain ⟨v, vs', m1, m2, rfl, h1, h2, rfl⟩ := h
    simp only [List.cons_append, RepL]
    exact ⟨v, vs' ++ us, m1, Fp.add m2 k, rfl, h1, h2.app h', by rw [Fp.add_assoc]⟩
theorem RepL.one {d : D} {v : V} {m : Fp} (h : Rep G w d v m) : RepL G w [d] [v] m := by
  simp only [RepL]
  exact ⟨v, [], m, Fp.zero, rfl, h, ⟨rfl, rfl⟩, by simp⟩
theorem RepL.nil : RepL G w [] [] Fp.zero := by simp only [RepL]; exact ⟨trivial, trivial⟩
theorem RepL.zero_iff : ∀ {ds : List D} {vs : List V}, RepL G w ds vs Fp.zero → ∀ (i : Nat) d v, ds[i]? = some d → vs[i]? = some v → Rep G w d v Fp.zero
  | [], vs, h, i, d, v, e1, e2 => by simp at e1
  | c :: ds, vs, h, i, d, v, e1, e2 => by
    simp only [RepL] at h
    obtain ⟨u, vs', m1, m2, rfl, h1, h2, e⟩ := h
    obtain ⟨rfl, rfl⟩ := Fp.eq_zero_of_add e.symm
    cases i with
    | zero => simp at e1 e2; subst e1; subst e2; exact h1
    | succ i => exact h2.zero_iff i d v (by simpa using e1) (by simpa using e2)
theorem RepL.get : ∀ {ds : List D} {vs : List V} {m : Fp}, RepL G w ds vs m → ∀ (i : Nat) d, ds[i]? = some d → ∃ v md, vs[i]? = some v ∧ Rep G w d v md ∧ ∀ b, md b ≤ m b
  | [], vs, m, h, i, d, e1 => by simp at e1
  | c :: ds, vs, m, h, i, d, e1 => by
    simp only [RepL] at h
    obtain ⟨u, vs', m1, m2, rfl, h1, h2, rfl⟩ := h
    cases i with
    | zero => simp at e1; subst e1; exact ⟨u, m1, rfl, h1, fun b => by simp⟩
    | succ i =>
      obtain ⟨v, md, e2, r, l⟩ := h2.get i d (by simpa using e1)
      exact ⟨v, md, by simpa using e2, r, fun b => by have := l b; simp; omega⟩
theorem RepL.drop : ∀ {ds : List D} {vs : List V} (n : Nat), RepL G w ds vs Fp.zero → RepL G w (ds.drop n) (vs.drop n) Fp.zero
  | ds, vs, 0, h => h
  | [], vs, n + 1, h => by simp only [RepL] at h; rw [h.1]; exact RepL.nil
  | d :: ds, vs, n + 1, h => by
    simp only [RepL] at h
    obtain ⟨v, vs', m1, m2, rfl, h1, h2, e⟩ := h
    obtain ⟨rfl, rfl⟩ := Fp.eq_zero_of_add e.symm
    exact RepL.drop n h2
theorem RepL.take : ∀ {ds : List D} {vs : List V} (n : Nat), RepL G w ds vs Fp.zero → RepL G w (ds.take n) (vs.take n) Fp.zero
  | ds, vs, 0, h => RepL.nil
  | [], vs, n + 1, h => by simp only [RepL] at h; rw [h.1]; exact RepL.nil
  | d :: ds, vs, n + 1, h => by
    simp only [RepL] at h
    obtain ⟨v, vs', m1, m2, rfl, h1, h2, e⟩ := h
    obtain ⟨rfl, rfl⟩ := Fp.eq_zero_of_add e.symm
    simp only [List.take_succ_cons, RepL]
    exact ⟨v, vs'.take n, Fp.zero, Fp.zero, rfl, h1, h2.take n, rfl⟩
theorem RepL.rev : ∀ {ds : List D} {vs : List V}, RepL G w ds vs Fp.zero → RepL G w ds.reverse vs.reverse Fp.zero
  | [], vs, h => by simp only [RepL] at h; rw [h.1]; exact RepL.nil
  | d :: ds, vs, h => by
    simp only [RepL] at h
    obtain ⟨v, vs', m1, m2, rfl, h1, h2, e⟩ := h
    obtain ⟨rfl, rfl⟩ := Fp.eq_zero_of_add e.symm
    simp only [List.reverse_cons]
    have := (RepL.rev h2).app (RepL.one h1)
    simpa using this
theorem RepL.immZ {ds : List D} {vs : List V} {m : Fp} (hi : immL ds = true) (h : RepL G w ds vs m) : RepL G w ds vs Fp.zero := by
  have := RepL.imm0 ds vs m hi h
  rwa [this] at h

/-! ### ready ends -/
variable {Q : VK}
abbrev Done (G : Gen) (w : Wd) (d : D) (Q : VK) : Prop := ∀ v w' md, World G w' → Rep G w' d v md → Own w' md → Ext Fp.zero w w' md → Q v w'.h
/-- the answer is a value without an object of its own -/
theorem Done.flat {d : D} {v : V} (k : Done G w d Q) (W : World G w) (r : Rep G w d v Fp.zero) : Q v w.h := k v w Fp.zero W r Own.zero (Ext.refl _ _)
/-- a new tuple -/
theorem Done.tup {ds : List D} {vs : List V} (k : Done G w (.tup ds) Q) (W : World G w) (hp : w.h p = none) (r : RepL G w ds vs Fp.zero) : (Bd (upd w.h p (.tup vs)) → Q (.ref p) (upd w.h p (.tup vs))) := fun bd => by
  have x : Ext Fp.zero w (w.new p (.tup vs)) Fp.zero := Ext.new hp fun b q => absurd rfl q
  refine k (.ref p) (w.new p (.tup vs)) Fp.zero (W.new hp (bd p _ upd_same)) ?_ Own.zero x
  simp only [Rep]
  exact ⟨p, vs, rfl, .inl (.inl upd_same), RepL.ext x W Own.zero _ _ _ Apart.zero Own.zero r⟩
/-- a new list -/
theorem Done.lst {ds : List D} {vs : List V} (k : Done G w (.lst true ds) Q) (W : World G w) (hp : w.h p = none) (r : RepL G w ds vs Fp.zero) : (Bd (upd w.h p (.lst vs)) → Q (.ref p) (upd w.h p (.lst vs))) := fun bd => by
  have x : Ext Fp.zero w (w.new p (.lst vs)) (Fp.one p) := Ext.new hp fun b q => Classical.byContradiction fun n => q (Fp.one_ne n)
  refine k (.ref p) (w.new p (.lst vs)) (Fp.one p) (W.new hp (bd p _ upd_same)) ?_ (Own.new W hp) x
  simp only [Rep]
  exact ⟨p, vs, Fp.zero, rfl, ⟨upd_same, fun q => nomatch q⟩, RepL.ext x.dropZ W Own.zero _ _ _ Apart.zero Own.zero r, by simp [fl]⟩
end
end TL
end
section
set_option maxRecDepth 100000
/-! The tree layer, part E: operators by values. -/
namespace TL
open PySem PySem.Spec PyProof.Rows L2

def lim (n : Nat) : Bool := decide (n ≤ 16000000)
theorem lim_le {n : Nat} (h : lim n = true) : n ≤ 16000000 := of_decide_eq_true h
theorem lim_size {n : Nat} (h : lim n = true) : n < sizeLine := by
  have := lim_le h; have e := sizeLine_eq; omega

def dAdd : D → D → Option D
  | .int a, .int b => some (.int (a + b))
  | .tup xs, .tup ys => if (immL xs && immL ys && lim (xs.length + ys.length)) = true then some (.tup (xs ++ ys)) else none
  | .lst _ xs, .lst _ ys => if (immL xs && immL ys && lim (xs.length + ys.length)) = true then some (.lst true (xs ++ ys)) else none
  | .str a, .str b => if lim (a.length + b.length) = true then some (.str (a ++ b)) else none
  | _, _ => none
def dSub : D → D → Option D
  | .int a, .int b => some (.int (a - b))
  | _, _ => none
def small64 (a : Int) : Bool := decide (-(2 ^ 64) < a ∧ a < 2 ^ 64)
def dMul : D → D → Option D
  | .int a, .int b => if (small64 a || small64 b) = true then some (.int (a * b)) else none
  | .lst _ xs, .int k => if (immL xs && decide (0 ≤ k) && decide (k ≤ 1000) && decide (xs.length ≤ 1000)) = true then some (.lst true (List.replicate k.toNat xs).flatten) else none
  | .tup xs, .int k => if (immL xs && decide (2 ≤ k) && decide (k ≤ 1000) && decide (xs.length ≤ 1000) && !xs.isEmpty) = true then some (.tup (List.replicate k.toNat xs).flatten) else none
  | _, _ => none
def dDiv : D → D → Option D
  | .int a, .int b => if (decide (0 < b) && decide (b < 1073741824)) = true then some (.int (a / b)) else none
  | _, _ => none
def dMod : D → D → Option D
  | .int a, .int b => if decide (0 < b) = true then some (.int (a % b)) else none
  | _, _ => none
def dPow : D → D → Option D
  | .int a, .int b => if (decide (0 ≤ b) && decide (b ≤ 1000000) && decide (a.natAbs < 2 ^ 64)) = true then some (.int (a ^ b.toNat)) else none
  | _, _ => none
def dShl : D → D → Option D
  | .int a, .int b => if (decide (0 ≤ b) && decide (b ≤ 1000000) && decide (a.natAbs < 2 ^ 64)) = true then some (.int (a * 2 ^ b.toNat)) else none
  | _, _ => none
def dXor : D → D → Option D
  | .int a, .int b => some (.int (Builtin.bitXor a b))
  | _, _ => none
def dAnd : D → D → Option D
  | .int a, .int b => some (.int (Builtin.bitAnd a b))
  | _, _ => none
def dNeg : D → Option D
  | .int a => some (.int (-a))
  | _ => none

section
variable {X : Cx} {G : Gen}
theorem Rep.int {w : Wd} {i : Int} {v : V} {m : Fp} (h : Rep G w (.int i) v m) : v = .int i := by simp only [Rep] at h; exact h.1
theorem Rep.bl {w : Wd} {b : Bool} {v : V} {m : Fp} (h : Rep G w (.bl b) v m) : v = .bl b := by simp only [Rep] at h; exact h.1
theorem Rep.strV {w : Wd} {s : Str} {v : V} {m : Fp} (h : Rep G w (.str s) v m) : v = .str s := by simp only [Rep] at h; exact h.1
theorem Rep.mkInt {w : Wd} {i : Int} : Rep G w (.int i) (.int i) Fp.zero := by simp only [Rep]; exact ⟨trivial, trivial⟩
theorem Rep.mkBl {w : Wd} {b : Bool} : Rep G w (.bl b) (.bl b) Fp.zero := by simp only [Rep]; exact ⟨trivial, trivial⟩
theorem Rep.mkStr {w : Wd} {s : Str} : Rep G w (.str s) (.str s) Fp.zero := by simp only [Rep]; exact ⟨trivial, trivial⟩
theorem Rep.mkNon {w : Wd} : Rep G w .non .non Fp.zero := by simp only [Rep]; exact ⟨trivial, trivial⟩

/-- an operation on two ints -/
theorem opInts {f : Value → Value → Sem Value} {C : Int → Int → Prop} {r : Int → Int → Int} {c : Int → Int → Bool} {g : D → D → Option D} (h : OpR X f (rI C fun i j => .int (r i j))) (hc : ∀ i j, c i j = true → C i j)
    (hg : ∀ d1 d2 d, g d1 d2 = some d → ∃ i j, d1 = .int i ∧ d2 = .int j ∧ c i j = true ∧ d = .int (r i j)) : OpR X f (r2 G g) := OpR.weak h fun x y H Q ⟨w, d1, d2, m1, m2, d, e0, W, r1, o1, r2, o2, hf, k⟩ => by
  obtain ⟨i, j, rfl, rfl, hcc, rfl⟩ := hg d1 d2 d hf
  subst e0
  exact ⟨i, j, r1.int, r2.int, hc i j hcc, Done.flat k W Rep.mkInt⟩
theorem opInts0 {f : Value → Value → Sem Value} {r : Int → Int → Int} {g : D → D → Option D} (h : OpR X f (rI0 fun i j => .int (r i j)))
    (hg : ∀ d1 d2 d, g d1 d2 = some d → ∃ i j, d1 = .int i ∧ d2 = .int j ∧ d = .int (r i j)) : OpR X f (r2 G g) := OpR.weak h fun x y H Q ⟨w, d1, d2, m1, m2, d, e0, W, r1, o1, r2, o2, hf, k⟩ => by
  obtain ⟨i, j, rfl, rfl, rfl⟩ := hg d1 d2 d hf
  subst e0
  exact ⟨i, j, r1.int, r2.int, Done.flat k W Rep.mkInt⟩
theorem o_sub : OpR X (binaryOp .Sub) (r2 G dSub) := opInts0 op_sub fun d1 d2 d h => by
  unfold dSub at h
  split at h
  · cases h; exact ⟨_, _, rfl, rfl, rfl⟩
  · cases h
theorem o_xor : OpR X (binaryOp .BitXor) (r2 G dXor) := opInts0 op_xor fun d1 d2 d h => by
  unfold dXor at h
  split at h
  · cases h; exact ⟨_, _, rfl, rfl, rfl⟩
  · cases h
theorem o_and : OpR X (binaryOp .BitAnd) (r2 G dAnd) := opInts0 op_and fun d1 d2 d h => by
  unfold dAnd at h
  split at h
  · cases h; exact ⟨_, _, rfl, rfl, rfl⟩
  · cases h
theorem o_div : OpR X (binaryOp .FloorDiv) (r2 G dDiv) := opInts (c := fun _ j => decide (0 < j) && decide (j < 1073741824)) op_fdiv (fun i j h => by simp at h; exact h) fun d1 d2 d h => by
  unfold dDiv at h
  split at h
  · split at h
    · rename_i q; cases h; exact ⟨_, _, rfl, rfl, q, rfl⟩
    · cases h
  · cases h
theorem o_mod : OpR X (binaryOp .Mod) (r2 G dMod) := opInts (c := fun _ j => decide (0 < j)) op_mod (fun i j h => by simpa using h) fun d1 d2 d h => by
  unfold dMod at h
  split at h
  · split at h
    · rename_i q; cases h; exact ⟨_, _, rfl, rfl, q, rfl⟩
    · cases h
  · cases h
theorem o_pow : OpR X (binaryOp .Pow) (r2 G dPow) := opInts (c := fun i j => decide (0 ≤ j) && decide (j ≤ 1000000) && decide (i.natAbs < 2 ^ 64)) op_pow (fun i j h => by simp only [Bool.and_eq_true, decide_eq_true_eq] at h; exact ⟨h.1.1, h.1.2, h.2⟩) fun d1 d2 d h => by
  unfold dPow at h
  split at h
  · split at h
    · rename_i q; cases h; exact ⟨_, _, rfl, rfl, q, rfl⟩
    · cases h
  · cases h
theorem o_shl : OpR X (binaryOp .LShift) (r2 G dShl) := opInts (c := fun i j => decide (0 ≤ j) && decide (j ≤ 1000000) && decide (i.natAbs < 2 ^ 64)) op_shl (fun i j h => by simp only [Bool.and_eq_true, decide_eq_true_eq] at h; exact ⟨h.1.1, h.1.2, h.2⟩) fun d1 d2 d h => by
  unfold dShl at h
  split at h
  · split at h
    · rename_i q; cases h; exact ⟨_, _, rfl, rfl, q, rfl⟩
    · cases h
  · cases h
theorem o_neg : UnR X (unaryOp .USub) (rU1 G dNeg) := UnR.weak un_neg fun x H Q ⟨w, d1, m1, d, e0, W, r1, o1, hf, k⟩ => by
  unfold dNeg at hf
  split at hf
  · cases hf
    subst e0
    exact ⟨_, r1.int, Done.flat k W Rep.mkInt⟩
  · cases hf
/-- where the layer's generalities stand -/
structure Fit (X : Cx) (G : Gen) : Prop where
  K : X.K = G.K
  P : X.prog = G.P
  W : X.w = G.W
  calm : X.calm = true
  units : X.A.units + 80 < cLine
theorem o_add (F : Fit X G) : OpR X (binaryOp .Add) (r2 G dAdd) := OpR.weak (OpR.bnd (OpR.or op_add (OpR.or (op_catA (X := X)) (OpR.or op_cat op_add_str)))) fun x y H Q ⟨w, d1, d2, m1, m2, d, e0, W, r1, o1, r2, o2, hf, k⟩ => by
  subst e0
  unfold dAdd at hf
  split at hf
  · cases hf
    exact .inl ⟨_, _, r1.int, r2.int, fun _ => Done.flat k W Rep.mkInt⟩
  · split at hf
    · rename_i xs ys hq
      cases hf
      simp only [Bool.and_eq_true] at hq
      simp only [Rep] at r1 r2
      obtain ⟨a, vs, rfl, ha, l1⟩ := r1
      obtain ⟨b, us, rfl, hb, l2⟩ := r2
      have z1 := RepL.immZ hq.1.1 l1
      have z2 := RepL.immZ hq.1.2 l2
      rw [← F.K] at ha hb
      refine .inr (.inl ⟨a, b, vs, us, rfl, rfl, ha, hb, ?_, fun hv => ?_, fun hv hu => ?_, fun hv hu p hp => ?_⟩)
      · rw [← l1.len, ← l2.len]; exact Nat.le_of_lt (lim_size hq.2)
      · intro _
        subst hv
        have e : xs = [] := List.length_eq_zero_iff.mp (by rw [l1.len]; rfl)
        subst e
        refine Done.flat k W ?_
        simp only [Rep, List.nil_append]
        exact ⟨b, us, rfl, by rw [← F.K]; exact hb, z2⟩
      · intro _
        subst hu
        have e : ys = [] := List.length_eq_zero_iff.mp (by rw [l2.len]; rfl)
        subst e
        refine Done.flat k W ?_
        simp only [Rep, List.append_nil]
        exact ⟨a, vs, rfl, by rw [← F.K]; exact ha, z1⟩
      · have := RepL.app z1 z2
        rw [Fp.zero_add] at this
        exact Done.tup k W hp this
    · cases hf
  · split at hf
    · rename_i xs ys hq
      cases hf
      simp only [Bool.and_eq_true] at hq
      simp only [Rep] at r1 r2
      obtain ⟨a, vs, m', rfl, ha, l1, rfl⟩ := r1
      obtain ⟨b, us, m'', rfl, hb, l2, rfl⟩ := r2
      refine .inr (.inr (.inl ⟨a, b, vs, us, rfl, rfl, ha.1, hb.1, ?_, fun p hp => ?_⟩))
      · rw [← l1.len, ← l2.len]; exact Nat.le_of_lt (lim_size hq.2)
      · have := RepL.app (RepL.immZ hq.1.1 l1) (RepL.immZ hq.1.2 l2)
        rw [Fp.zero_add] at this
        exact Done.lst k W hp this
    · cases hf
  · split at hf
    · rename_i hq
      cases hf
      exact .inr (.inr (.inr ⟨_, _, r1.strV, r2.strV, Nat.le_of_lt (lim_size hq), fun _ => Done.flat k W Rep.mkStr⟩))
    · cases hf
  · cases hf
theorem RepL.rep {w : Wd} {ds : List D} {vs : List V} (h : RepL G w ds vs Fp.zero) : ∀ n : Nat, RepL G w (List.replicate n ds).flatten (List.replicate n vs).flatten Fp.zero
  | 0 => RepL.nil
  | n + 1 => by
    simp only [List.replicate_succ, List.flatten_cons]
    have := RepL.app h (RepL.rep h n)
    rwa [Fp.zero_add] at this
theorem small_mul {a b : Int} (h : (small64 a || small64 b) = true) : CMul a b := by
  unfold small64 at h
  rcases Bool.or_eq_true _ _ ▸ h with h | h
  · exact .inl (of_decide_eq_true h)
  · exact .inr (of_decide_eq_true h)
theorem rep_size {k : Int} {n : Nat} (h0 : 0 ≤ k) (h1 : k ≤ 1000) (h2 : n ≤ 1000) : n * k.toNat ≤ sizeLine := by
  have : k.toNat ≤ 1000 := by omega
  have := Nat.mul_le_mul h2 this
  have e := sizeLine_eq
  omega
theorem o_mul (F : Fit X G) : OpR X (binaryOp .Mult) (r2 G dMul) := OpR.weak (OpR.bnd (OpR.or op_mul (OpR.or op_rep (op_repT (X := X))))) fun x y H Q ⟨w, d1, d2, m1, m2, d, e0, W, r1, o1, r2, o2, hf, k⟩ => by
  subst e0
  unfold dMul at hf
  split at hf
  · split at hf
    · rename_i hq
      cases hf
      exact .inl ⟨_, _, r1.int, r2.int, small_mul hq, fun _ => Done.flat k W Rep.mkInt⟩
    · cases hf
  · split at hf
    · rename_i xs j hq
      cases hf
      simp only [Bool.and_eq_true, decide_eq_true_eq] at hq
      simp only [Rep] at r1
      obtain ⟨a, vs, m', rfl, ha, l1, rfl⟩ := r1
      refine .inr (.inl ⟨a, j, vs, rfl, r2.int, ha.1, by omega, by omega, ?_, fun p hp => Done.lst k W hp (RepL.rep (RepL.immZ hq.1.1.1 l1) _)⟩)
      rw [← l1.len]
      exact rep_size hq.1.1.2 hq.1.2 hq.2
    · cases hf
  · split at hf
    · rename_i xs j hq
      cases hf
      simp only [Bool.and_eq_true, decide_eq_true_eq] at hq
      simp only [Rep] at r1
      obtain ⟨a, vs, rfl, ha, l1⟩ := r1
      rw [← F.K] at ha
      refine .inr (.inr ⟨a, j, vs, rfl, r2.int, ha, fun z => ?_, hq.1.1.1.2, hq.1.1.2, by rw [← l1.len]; exact hq.1.2, fun p hp => Done.tup k W hp (RepL.rep (RepL.immZ hq.1.1.1.1 l1) _)⟩)
      subst z
      have e : xs = [] := List.length_eq_zero_iff.mp (by rw [l1.len]; rfl)
      subst e
      simp at hq
    · cases hf
  · cases hf
end
end TL
end
section
set_option maxRecDepth 100000
/-! The tree layer, part F: trees that are data: ==, <, in, sorted. -/
namespace TL
open PySem PySem.Spec PyProof.Rows L2

mutual
/-- a tree as the library's data (what is none: a dict) -/
def pdT : D → PyData
  | .non => .none
  | .bl b => .bool b
  | .int i => .int i
  | .str s => .str s
  | .tup xs => .tuple (pdL xs)
  | .lst _ xs => .list (pdL xs)
  | _ => .dict []
def pdL : List D → List PyData
  | [] => []
  | d :: ds => pdT d :: pdL ds
end
mutual
/-- data, at most n deep -/
def okD : Nat → D → Bool
  | _, .non => true
  | _, .bl _ => true
  | _, .int _ => true
  | _, .str s => PyData.strOk s
  | n + 1, .tup xs => okL n xs
  | n + 1, .lst _ xs => okL n xs
  | _, _ => false
def okL : Nat → List D → Bool
  | _, [] => true
  | n, d :: ds => okD n d && okL n ds
end
mutual
def eqD : D → D → Bool
  | .non, .non => true
  | .bl a, .bl b => a == b
  | .bl a, .int j => (if a = true then 1 else 0) == j
  | .int i, .bl b => i == (if b = true then 1 else 0)
  | .int i, .int j => i == j
  | .str x, .str y => x == y
  | .lst _ xs, .lst _ ys => eqL xs ys
  | .tup xs, .tup ys => eqL xs ys
  | _, _ => false
def eqL : List D → List D → Bool
  | [], [] => true
  | x :: xs, y :: ys => eqD x y && eqL xs ys
  | _, _ => false
end
mutual
/-- can be compared place by place -/
def alD : D → D → Bool
  | .non, .non => true
  | .bl _, .bl _ => true
  | .int _, .int _ => true
  | .str _, .str _ => true
  | .lst _ xs, .lst _ ys => alL xs ys
  | .tup xs, .tup ys => alL xs ys
  | _, _ => false
def alL : List D → List D → Bool
  | x :: xs, y :: ys => alD x y && alL xs ys
  | _, _ => true
end
mutual
def ltD : D → D → Bool
  | .bl a, .bl b => decide (b2i a < b2i b)
  | .int a, .int b => decide (a < b)
  | .str a, .str b => decide (a.cps.toList < b.cps.toList)
  | .lst _ xs, .lst _ ys => ltL xs ys
  | .tup xs, .tup ys => ltL xs ys
  | _, _ => false
def ltL : List D → List D → Bool
  | [], [] => false
  | [], _ :: _ => true
  | _ :: _, [] => false
  | x :: xs, y :: ys => if eqD x y = true then ltL xs ys else ltD x y
end

mutual
theorem pd_can : ∀ (n : Nat) (d : D), okD n d = true → (pdT d).canLay0 = true ∧ (pdT d).depth ≤ n
  | n, .undef, h => by simp [okD] at h
  | n, .non, h => by simp [pdT, PyData.canLay0, PyData.depth]
  | n, .bl _, h => by simp [pdT, PyData.canLay0, PyData.depth]
  | n, .int _, h => by simp [pdT, PyData.canLay0, PyData.depth]
  | n, .str s, h => by simp only [okD] at h; simp [pdT, PyData.canLay0, PyData.depth, h]
  | 0, .tup xs, h => by simp [okD] at h
  | n + 1, .tup xs, h => by
    simp only [okD] at h
    have := pdL_can n xs h
    simp only [pdT, PyData.canLay0, PyData.depth]
    exact ⟨this.1, by omega⟩
  | 0, .lst _ xs, h => by simp [okD] at h
  | n + 1, .lst _ xs, h => by
    simp only [okD] at h
    have := pdL_can n xs h
    simp only [pdT, PyData.canLay0, PyData.depth]
    exact ⟨this.1, by omega⟩
  | n, .dct _ _ _ _, h => by simp [okD] at h
  | n, .ins _ _ _, h => by simp [okD] at h
  | n, .fam _ _, h => by simp [okD] at h
  | n, .scr _, h => by simp [okD] at h
theorem pdL_can : ∀ (n : Nat) (ds : List D), okL n ds = true → PyData.canLayAll0 (pdL ds) = true ∧ PyData.depthAll (pdL ds) ≤ n
  | n, [], h => by simp [pdL, PyData.canLayAll0, PyData.depthAll]
  | n, d :: ds, h => by
    simp only [okL, Bool.and_eq_true] at h
    have h1 := pd_can n d h.1
    have h2 := pdL_can n ds h.2
    simp only [pdL, PyData.canLayAll0, PyData.depthAll, h1.1, h2.1]
    exact ⟨rfl, by omega⟩
end
theorem pd_shaped {n : Nat} {d : D} (h : okD n d = true) (hn : n ≤ 64) : SeqAt.shaped (pdT d) = true := by
  have := pd_can n d h
  unfold SeqAt.shaped
  rw [this.1, Bool.true_and]
  exact decide_eq_true (by omega)
mutual
theorem pd_eqv : ∀ (n k : Nat) (a b : D), okD n a = true → okD k b = true → PyData.eqv (pdT a) (pdT b) = eqD a b
  | n, k, .undef, b, h, h' => by simp [okD] at h
  | n, k, .non, b, h, h' => by cases b <;> simp_all [pdT, PyData.eqv, eqD, okD]
  | n, k, .bl _, b, h, h' => by cases b <;> simp_all [pdT, PyData.eqv, eqD, okD]
  | n, k, .int _, b, h, h' => by cases b <;> simp_all [pdT, PyData.eqv, eqD, okD]
  | n, k, .str _, b, h, h' => by cases b <;> simp_all [pdT, PyData.eqv, eqD, okD]
  | 0, k, .tup xs, b, h, h' => by simp [okD] at h
  | n + 1, k, .tup xs, b, h, h' => by
    simp only [okD] at h
    cases b with
    | tup ys =>
      cases k with
      | zero => simp [okD] at h'
      | succ k =>
        simp only [okD] at h'
        simp only [pdT, PyData.eqv, eqD]
        exact pdL_eqv n k xs ys h h'
    | _ => simp_all [pdT, PyData.eqv, eqD, okD]
  | 0, k, .lst _ xs, b, h, h' => by simp [okD] at h
  | n + 1, k, .lst _ xs, b, h, h' => by
    simp only [okD] at h
    cases b with
    | lst m ys =>
      cases k with
      | zero => simp [okD] at h'
      | succ k =>
        simp only [okD] at h'
        simp only [pdT, PyData.eqv, eqD]
        exact pdL_eqv n k xs ys h h'
    | _ => simp_all [pdT, PyData.eqv, eqD, okD]
  | n, k, .dct _ _ _ _, b, h, h' => by simp [okD] at h
  | n, k, .ins _ _ _, b, h, h' => by simp [okD] at h
  | n, k, .fam _ _, b, h, h' => by simp [okD] at h
  | n, k, .scr _, b, h, h' => by simp [okD] at h
theorem pdL_eqv : ∀ (n k : Nat) (a b : List D), okL n a = true → okL k b = true → PyData.eqvAll (pdL a) (pdL b) = eqL a b
  | n, k, [], [], h, h' => by simp [pdL, PyData.eqvAll, eqL]
  | n, k, [], b :: bs, h, h' => by simp [pdL, PyData.eqvAll, eqL]
  | n, k, a :: as, [], h, h' => by simp [pdL, PyData.eqvAll, eqL]
  | n, k, a :: as, b :: bs, h, h' => by
    simp only [okL, Bool.and_eq_true] at h h'
    simp only [pdL, PyData.eqvAll, eqL, pd_eqv n k a b h.1 h'.1, pdL_eqv n k as bs h.2 h'.2]
end
mutual
theorem pd_al : ∀ (a b : D), alD a b = true → PySem.W.alike (pdT a) (pdT b) = true
  | .undef, b, h => by cases b <;> simp [alD] at h
  | .non, b, h => by cases b <;> simp_all [alD, pdT, PySem.W.alike]
  | .bl _, b, h => by cases b <;> simp_all [alD, pdT, PySem.W.alike]
  | .int _, b, h => by cases b <;> simp_all [alD, pdT, PySem.W.alike]
  | .str _, b, h => by cases b <;> simp_all [alD, pdT, PySem.W.alike]
  | .tup xs, b, h => by
    cases b with
    | tup ys => simp only [alD] at h; simp only [pdT, PySem.W.alike]; exact pdL_al xs ys h
    | _ => simp [alD] at h
  | .lst _ xs, b, h => by
    cases b with
    | lst _ ys => simp only [alD] at h; simp only [pdT, PySem.W.alike]; exact pdL_al xs ys h
    | _ => simp [alD] at h
  | .dct _ _ _ _, b, h => by cases b <;> simp [alD] at h
  | .ins _ _ _, b, h => by cases b <;> simp [alD] at h
  | .fam _ _, b, h => by cases b <;> simp [alD] at h
  | .scr _, b, h => by cases b <;> simp [alD] at h
theorem pdL_al : ∀ (a b : List D), alL a b = true → PySem.W.alikeAll (pdL a) (pdL b) = true
  | [], b, h => by simp [pdL, PySem.W.alikeAll]
  | a :: as, [], h => by simp [pdL, PySem.W.alikeAll]
  | a :: as, b :: bs, h => by
    simp only [alL, Bool.and_eq_true] at h
    simp only [pdL, PySem.W.alikeAll, pd_al a b h.1, pdL_al as bs h.2, Bool.and_self]
end
mutual
theorem pd_lt : ∀ (n k : Nat) (a b : D), okD n a = true → okD k b = true → alD a b = true → a ≠ .non → PySem.W.dataLt (pdT a) (pdT b) = ltD a b
  | n, k, .undef, b, _, _, h, _ => by cases b <;> simp [alD] at h
  | n, k, .non, b, _, _, h, hn => absurd rfl hn
  | n, k, .bl _, b, _, _, h, _ => by
    cases b <;> first | (simp only [pdT, ltD]; exact PySem.W.dataLt_bool _ _) | simp [alD] at h
  | n, k, .int _, b, _, _, h, _ => by
    cases b <;> first | (simp only [pdT, ltD]; exact PySem.W.dataLt_int _ _) | simp [alD] at h
  | n, k, .str _, b, _, _, h, _ => by
    cases b <;> first | (simp only [pdT, ltD]; exact PySem.W.dataLt_str _ _) | simp [alD] at h
  | 0, k, .tup xs, b, o1, o2, h, _ => by simp [okD] at o1
  | n + 1, k, .tup xs, b, o1, o2, h, _ => by
    cases b with
    | tup ys =>
      cases k with
      | zero => simp [okD] at o2
      | succ k =>
        simp only [alD] at h; simp only [okD] at o1 o2; simp only [pdT, ltD, PySem.W.dataLt_tuple]; exact pdL_lt n k xs ys o1 o2 h
    | _ => simp [alD] at h
  | 0, k, .lst _ xs, b, o1, o2, h, _ => by simp [okD] at o1
  | n + 1, k, .lst _ xs, b, o1, o2, h, _ => by
    cases b with
    | lst _ ys =>
      cases k with
      | zero => simp [okD] at o2
      | succ k =>
        simp only [alD] at h; simp only [okD] at o1 o2; simp only [pdT, ltD, PySem.W.dataLt_list]; exact pdL_lt n k xs ys o1 o2 h
    | _ => simp [alD] at h
  | n, k, .dct _ _ _ _, b, _, _, h, _ => by cases b <;> simp [alD] at h
  | n, k, .ins _ _ _, b, _, _, h, _ => by cases b <;> simp [alD] at h
  | n, k, .fam _ _, b, _, _, h, _ => by cases b <;> simp [alD] at h
  | n, k, .scr _, b, _, _, h, _ => by cases b <;> simp [alD] at h
theorem pdL_lt : ∀ (n k : Nat) (a b : List D), okL n a = true → okL k b = true → alL a b = true → PyProof.Rows.lexLt itemOrd (PySem.W.keyToksAll (pdL a)) (PySem.W.keyToksAll (pdL b)) = ltL a b
  | n, k, [], [], _, _, h => by
    simp only [pdL, ltL]; exact PyProof.Rows.lex_irrefl _
  | n, k, [], b :: bs, _, _, h => by
    simp only [pdL, ltL, PySem.W.toks_all_cons, PySem.W.keyToksAll]
    rw [PyProof.Rows.lex_diff (O := itemOrd) (by simp)]
    simp [itemOrd, itemLt]
  | n, k, a :: as, [], _, _, h => by
    simp only [pdL, ltL, PySem.W.toks_all_cons, PySem.W.keyToksAll]
    rw [PyProof.Rows.lex_diff (O := itemOrd) (by simp)]
    simp [itemOrd, itemLt]
  | n, k, a :: as, b :: bs, o1, o2, h => by
    simp only [alL, Bool.and_eq_true] at h
    simp only [okL, Bool.and_eq_true] at o1 o2
    have ev := pd_eqv n k a b o1.1 o2.1
    simp only [pdL, ltL]
    cases q : eqD a b with
    | true =>
      rw [PySem.W.dataLt_all_yes (pd_al a b h.1) (ev.trans q), if_pos rfl]
      exact pdL_lt n k as bs o1.2 o2.2 h.2
    | false =>
      have hn : a ≠ .non := fun z => by
        subst z
        cases b <;> simp [alD, eqD] at h q
      rw [PySem.W.dataLt_all_no (pd_al a b h.1) (ev.trans q), if_neg Bool.false_ne_true]
      exact pd_lt n k a b o1.1 o2.1 h.1 hn
end

section
variable {X : Cx} {G : Gen} {w : Wd}
mutual
theorem Rep.dp : ∀ (n : Nat) (d : D) (v : V) (m : Fp), okD n d = true → Rep G w d v m → Dp G.K w.h v (pdT d)
  | n, .undef, v, m, h, r => by simp [okD] at h
  | n, .non, v, m, h, r => by simp only [Rep] at r; rw [r.1, pdT]; exact Dp.non
  | n, .bl _, v, m, h, r => by simp only [Rep] at r; rw [r.1, pdT]; exact Dp.bl _
  | n, .int _, v, m, h, r => by simp only [Rep] at r; rw [r.1, pdT]; exact Dp.int _
  | n, .str _, v, m, h, r => by simp only [Rep] at r; rw [r.1, pdT]; exact Dp.str _
  | 0, .tup xs, v, m, h, r => by simp [okD] at h
  | n + 1, .tup xs, v, m, h, r => by
    simp only [okD] at h
    simp only [Rep] at r
    obtain ⟨a, vs, rfl, h1, h2⟩ := r
    rw [pdT]
    exact Dp.tup h1 (RepL.dp n xs vs m h h2)
  | 0, .lst _ xs, v, m, h, r => by simp [okD] at h
  | n + 1, .lst _ xs, v, m, h, r => by
    simp only [okD] at h
    simp only [Rep] at r
    obtain ⟨a, vs, m', rfl, h1, h2, rfl⟩ := r
    rw [pdT]
    exact Dp.lst (.inl (.inl h1.1)) (RepL.dp n xs vs m' h h2)
  | n, .dct _ _ _ _, v, m, h, r => by simp [okD] at h
  | n, .ins _ _ _, v, m, h, r => by simp [okD] at h
  | n, .fam _ _, v, m, h, r => by simp [okD] at h
  | n, .scr _, v, m, h, r => by simp [okD] at h
theorem RepL.dp : ∀ (n : Nat) (ds : List D) (vs : List V) (m : Fp), okL n ds = true → RepL G w ds vs m → DpAll G.K w.h vs (pdL ds)
  | n, [], vs, m, h, r => by simp only [RepL] at r; rw [r.1, pdL]; exact DpAll.nil
  | n, d :: ds, vs, m, h, r => by
    simp only [okL, Bool.and_eq_true] at h
    simp only [RepL] at r
    obtain ⟨v, vs', m1, m2, rfl, h1, h2, rfl⟩ := r
    rw [pdL]
    exact DpAll.cons (Rep.dp n d v m1 h.1 h1) (RepL.dp n ds vs' m2 h.2 h2)
end

def dEq : D → D → Option D := fun a b => if (okD 40 a && okD 40 b) = true then some (.bl (eqD a b)) else none
def dNe : D → D → Option D := fun a b => if (okD 40 a && okD 40 b) = true then some (.bl (!eqD a b)) else none
theorem o_eq (F : Fit X G) : OpR X (compareOp .Eq) (r2 G dEq) := OpR.weak (op_eqD (X := X) (by have := F.units; omega)) fun x y H Q ⟨w, d1, d2, m1, m2, d, e0, W, r1, o1, r2, o2, hf, k⟩ => by
  subst e0
  unfold dEq at hf
  split at hf
  · rename_i q
    rw [Bool.and_eq_true] at q
    cases hf
    refine ⟨pdT d1, pdT d2, by rw [F.K]; exact Rep.dp 40 d1 x m1 q.1 r1, by rw [F.K]; exact Rep.dp 40 d2 y m2 q.2 r2, pd_shaped q.1 (by omega), pd_shaped q.2 (by omega), ?_⟩
    rw [pd_eqv 40 40 d1 d2 q.1 q.2]
    exact Done.flat k W Rep.mkBl
  · cases hf
theorem o_ne (F : Fit X G) : OpR X (compareOp .NotEq) (r2 G dNe) := OpR.weak (op_neD (X := X) (by have := F.units; omega)) fun x y H Q ⟨w, d1, d2, m1, m2, d, e0, W, r1, o1, r2, o2, hf, k⟩ => by
  subst e0
  unfold dNe at hf
  split at hf
  · rename_i q
    rw [Bool.and_eq_true] at q
    cases hf
    refine ⟨pdT d1, pdT d2, by rw [F.K]; exact Rep.dp 40 d1 x m1 q.1 r1, by rw [F.K]; exact Rep.dp 40 d2 y m2 q.2 r2, pd_shaped q.1 (by omega), pd_shaped q.2 (by omega), ?_⟩
    rw [pd_eqv 40 40 d1 d2 q.1 q.2]
    exact Done.flat k W Rep.mkBl
  · cases hf
end
end TL
end
section
set_option maxRecDepth 100000
/-! The tree layer, part G: sorting of data, () among tuples too. -/
namespace PySem.W
open PySem PySem.Calls PyProof.Rows PySem.SeqAt
section
variable {prog : Program} {w : World} {A : Around} {E : Value → Shared → Prop} {s : Shared}

theorem call_tuple_lt {Q : Value → Shared → Prop} {l b : Addr} {items items2 : Array Value} {e r : Nat → Bool} (hl : s.heap.IsTuple l items) (hb : s.heap.IsTuple b items2)
    (he : ∀ j (h1 : j < items.size) (h2 : j < items2.size), EqAt A.in1 s items[j] items2[j] (e j)) (hr : ∀ j (h1 : j < items.size) (h2 : j < items2.size), e j = false → RcLt A.in1 s items[j] items2[j] (r j))
    (h : Q (.bool (firstLt e r (decide (items.size < items2.size)) (List.range (min items.size items2.size)))) s) : wpAny (model prog w) A (call (.builtin "tuple.__lt__") [.ref l, .ref b]) Q E s := by
  obtain ⟨⟨cls, dd, data, sl⟩, ho, hc, n, hd⟩ := id hl
  obtain ⟨⟨cls2, dd2, data2, sl2⟩, ho2, hc2, n2, hd2⟩ := id hb
  simp only at hc hd hc2 hd2
  subst hc hd hc2 hd2
  exact call_meets F.slot_tuple_lt ⟨_, ho, rfl⟩ F.entry_tuple_lt (F.args_tuple_lt_2 _ _) (tuple_ltAt l b items items2 n n2 dd dd2 sl sl2 e r) ⟨ho, ho2, he, hr, h⟩
theorem room_inT {n a b : Nat} (h : n + min (a + 1) (b + 1) < cLine) : n + 1 + min a b < cLine := by omega
/-- one key against another where the keys are tuples -/
theorem oneLt_tup {f : Bool} {xs ys : List PyData} {a b : Value} {as bs : List Addr} {Q : Bool → Shared → Prop} (ra : Reads s.heap a (.tuple xs) as) (rb : Reads s.heap b (.tuple ys) bs) (h : alikeAll xs ys = true)
    (hu : A.units + 1 + min (PyData.depthAll xs) (PyData.depthAll ys) < cLine) (hq : Q (dataLt (.tuple xs) (.tuple ys)) s) : wpAny (model prog w) A (oneLt' f a b) Q E s := by
  cases f with
  | false =>
    exact oneLt_alike (fun q => nomatch q) ra rb (by simpa [alike] using h) (by simp) (by simp only [PyData.depth]; omega) hq
  | true =>
    cases ra with
    | @tuple l o vs n _ as₁ h1 h2 h3 h4 =>
      cases rb with
      | @tuple l' o' vs' n' _ bs₁ k1 k2 k3 k4 =>
        have n1 : vs.size = xs.length := by simpa using ReadsAll.length _ _ _ h4
        have n2 : vs'.size = ys.length := by simpa using ReadsAll.length _ _ _ k4
        rw [dataLt_tuple, ← firstLt_toks xs ys h, ← n1, ← n2] at hq
        rw [oneLt'_eq]
        simp only [if_true]
        refine wpAny_bind (wpAny_cRoomFor (by omega) ?_)
        refine wpAny_bind (wpAny_callSpecialIfBound?_slot (T := "tuple") ⟨_, h1, h2⟩ F.slot_tuple_lt (call_tuple_lt (e := pairEq xs ys) (r := fun j => dataLt (xs.getD j .none) (ys.getD j .none)) ⟨_, h1, h2, _, h3⟩ ⟨_, k1, k2, _, k3⟩ (fun j j1 j2 => ?_) (fun j j1 j2 hj => ?_) ?_))
        · have := eqAt_alikeAll xs ys A.in1 s vs.toList vs'.toList _ _ h4 k4 h hu j (by simpa using j1) (by simpa using j2)
          simpa using this
        · have := rcLt_alikeAll xs ys A.in1 s vs.toList vs'.toList _ _ h4 k4 h hu j (by simpa using j1) (by simpa using j2) hj
          simpa using this
        · exact wpAny_truthy_bool hq

def neT : PyData → Bool
  | .tuple (_ :: _) => true
  | _ => false
theorem firsts_wp {M : Model} : ∀ {vs : List Value} {ds : List PyData}, EachIs (fun v d => ∃ as, Reads s.heap v d as) vs ds → (∀ d, d ∈ ds → ∃ xs, d = .tuple xs) →
    ∃ fs : List (Option Value), fs.map (·.isSome) = ds.map neT ∧ ∀ (A : Around) (E : Value → Shared → Prop) (Q : List (Option Value) → Shared → Prop), Q fs s → wpAny M A (vs.mapM firstOfTuple') Q E s
  | _, _, .nil, _ => ⟨[], rfl, fun A E Q h => by rw [List.mapM_nil]; exact wpAny_pure h⟩
  | v :: vs, d :: ds, .cons ⟨as, r⟩ t, ht => by
    obtain ⟨fs, h1, h2⟩ := firsts_wp (M := M) t fun d hd => ht d (List.mem_cons_of_mem _ hd)
    obtain ⟨xs, rfl⟩ := ht d (List.mem_cons_self ..)
    cases r with
    | @tuple a o its n _ _ ho hc hd hr =>
      refine ⟨its[0]? :: fs, ?_, fun A E Q h => ?_⟩
      · rw [List.map_cons, List.map_cons, h1]
        congr 1
        have hl := ReadsAll.length _ _ _ hr
        cases xs with
        | nil =>
          have : its.size = 0 := by simpa using hl
          simp [neT, this]
        | cons x xs =>
          have : 0 < its.size := by
            have e : its.size = xs.length + 1 := by simpa using hl
            omega
          simp [neT, this]
      · rw [List.mapM_cons, kas_first_eq]
        refine wpAny_bind (wpAny_bind (wpAny_typeOf (T := "tuple") ⟨o, ho, hc⟩ ?_))
        rw [if_neg (by simp)]
        refine wpAny_bind (listItems_at ho hd (wpAny_pure ?_))
        exact wpAny_bind (h2 A E _ (wpAny_pure h))

/-- tuples, one of them empty at least -/
theorem SortsAt.tups0 {vs : List Value} {ds : List PyData} (e : EachIs (fun v d => ∃ as, Reads s.heap v d as) vs ds) (hal : AllAlike ds) (ht : ∀ d, d ∈ ds → ∃ xs, d = .tuple xs) (h0 : ∃ d, d ∈ ds ∧ neT d = false) (hu : ∀ d, d ∈ ds → A.units + d.depth < cLine) :
    SortsAt prog w A s (dataKind s.heap ds) vs := by
  refine ⟨fun v hv => ?_, ?_⟩
  · obtain ⟨d, hd, as, r⟩ := e.left v hv
    exact ⟨_, dataKind_some hal hd r⟩
  · have lt : ∀ f : Bool, ∀ (E : Value → Shared → Prop) (x y : Value) (a b : (dataKind s.heap ds).α) {Q : Bool → Shared → Prop}, (dataKind s.heap ds).keyOf x = some a → (dataKind s.heap ds).keyOf y = some b → Q ((dataKind s.heap ds).blt a b) s → wpAny (model prog w) A (oneLt' f x y) Q E s := by
      intro f E x y a b Q ha hb hq
      obtain ⟨d, as, hd, ra, rfl⟩ := dataKind_inv ha
      obtain ⟨d', as', hd', rb, rfl⟩ := dataKind_inv hb
      have hdd := hal d hd d' hd'
      have h1 := hu d hd
      obtain ⟨xs, rfl⟩ := ht d hd
      obtain ⟨ys, rfl⟩ := ht d' hd'
      exact oneLt_tup ra rb (by simpa [alike] using hdd) (by simp only [PyData.depth] at h1; omega) hq
    obtain ⟨fs, f1, f2⟩ := firsts_wp (M := model prog w) e ht
    have hk : ∃ kd : SortKind, (kd = general' ∨ kd = oneType') ∧ (2 ≤ vs.length → ∀ (E : Value → Shared → Prop) {Q : SortKind → Shared → Prop}, Q kd s → wpAny (model prog w) A (keyKind' vs.toArray) Q E s) := by
      have nall : ¬ (fs.toArray.all (·.isSome)) = true := by
        intro q
        obtain ⟨d, hd, hn⟩ := h0
        have q1 : ∀ b ∈ fs.map (·.isSome), b = true := by
          intro b hb
          obtain ⟨x, hx, rfl⟩ := List.mem_map.mp hb
          simp only [List.all_toArray, List.all_eq_true] at q
          exact q x hx
        rw [f1] at q1
        have := q1 (neT d) (List.mem_map.mpr ⟨d, hd, rfl⟩)
        rw [hn] at this; cases this
      have ts : ∀ v ∈ vs, Looks (model prog w) s.heap (typeOf v) (Value.type "tuple") := fun v hv => by
        obtain ⟨d, hd, as, r⟩ := e.left v hv
        obtain ⟨xs, rfl⟩ := ht d hd
        exact looks_reads r
      by_cases hf : (fs.toArray[0]?.bind id).isSome = true
      · refine ⟨general', .inl rfl, fun h2 E Q hq => ?_⟩
        rw [kat_kind_eq, List.mapM_toArray, map_eq_pure_bind]
        refine wpAny_bind (wpAny_bind (f2 A E _ (wpAny_pure ?_)))
        rw [if_neg nall, if_pos hf]
        exact wpAny_pure hq
      · refine ⟨oneType', .inr rfl, fun h2 E Q hq => ?_⟩
        rw [kat_kind_eq, List.mapM_toArray, map_eq_pure_bind]
        refine wpAny_bind (wpAny_bind (f2 A E _ (wpAny_pure ?_)))
        rw [if_neg nall, if_neg hf]
        obtain ⟨v₁, vr, rfl⟩ : ∃ v₁ vr, vs = v₁ :: vr := by
          match vs, h2 with
          | v₁ :: vr, _ => exact ⟨v₁, vr, rfl⟩
        rw [oneTypeOnly'_eq, List.mapM_toArray, map_eq_pure_bind]
        refine wpAny_bind (wpAny_bind (wpAny_bind (kas_mapM (r := Value.type "tuple") _ (fun v hv Q' hq => (ts v hv).here hq) (wpAny_pure ?_))))
        have hall2 : ((List.map (fun _ => Value.type "tuple") (v₁ :: vr)).toArray.all fun x => x == Value.type "tuple") = true := by
          simp only [List.all_toArray, List.all_map, List.all_eq_true]
          intro _ _
          rfl
        have h0 : (List.map (fun _ => Value.type "tuple") (v₁ :: vr)).toArray[0]? = some (Value.type "tuple") := by simp
        rw [h0]
        simp only [hall2, if_true]
        exact wpAny_pure (wpAny_pure hq)
    obtain ⟨kd, hkd, hk⟩ := hk
    refine ⟨kd, ?_, hk⟩
    rcases hkd with rfl | rfl
    · intro E x y a b Q ha hb hq
      exact lt false E x y a b ha hb hq
    · intro E x y a b Q ha hb hq
      exact lt true E x y a b ha hb hq
end
end PySem.W
end
section
set_option maxRecDepth 100000
/-! The tree layer, part H: sorted(xs). -/
namespace PySem.W
open PySem PySem.Calls PyProof.Rows
section
variable {α : Type} {le : α → α → Bool}
def insBy (le : α → α → Bool) (x : α) : List α → List α
  | [] => [x]
  | y :: ys => if le x y = true then x :: y :: ys else y :: insBy le x ys
def sortBy (le : α → α → Bool) : List α → List α
  | [] => []
  | x :: xs => insBy le x (sortBy le xs)
theorem insBy_mem {x z : α} : ∀ {l : List α}, z ∈ insBy le x l ↔ z = x ∨ z ∈ l
  | [] => by simp [insBy]
  | y :: ys => by
    unfold insBy
    split
    · simp
    · simp only [List.mem_cons, insBy_mem]
      constructor
      · rintro (h | h | h)
        · exact .inr (.inl h)
        · exact .inl h
        · exact .inr (.inr h)
      · rintro (h | h | h)
        · exact .inr (.inl h)
        · exact .inl h
        · exact .inr (.inr h)
theorem insBy_pw (h : TotalLe le) {x : α} : ∀ {l : List α}, l.Pairwise (fun a b => le a b = true) → (insBy le x l).Pairwise (fun a b => le a b = true)
  | [], _ => by simp [insBy]
  | y :: ys, p => by
    unfold insBy
    split
    · rename_i q
      refine List.pairwise_cons.mpr ⟨fun z hz => ?_, p⟩
      rcases List.mem_cons.mp hz with e | hz
      · rw [e]; exact q
      · exact h.trans _ _ _ q ((List.pairwise_cons.mp p).1 z hz)
    · rename_i q
      refine List.pairwise_cons.mpr ⟨fun z hz => ?_, insBy_pw h (List.pairwise_cons.mp p).2⟩
      rcases insBy_mem.mp hz with e | hz
      · rw [e]; exact (h.total y x).resolve_right q
      · exact (List.pairwise_cons.mp p).1 z hz
theorem insBy_fil (h : TotalLe le) {x c : α} : ∀ {l : List α}, (insBy le x l).filter (sameRank le c) = (x :: l).filter (sameRank le c)
  | [] => rfl
  | y :: ys => by
    unfold insBy
    split
    · rfl
    · rename_i q
      have ih := insBy_fil h (x := x) (c := c) (l := ys)
      by_cases hy : sameRank le c y = true
      · have hx : ¬ sameRank le c x = true := fun hx => by
          unfold sameRank at hx hy
          rw [Bool.and_eq_true] at hx hy
          exact q (h.trans _ _ _ hx.2 hy.1)
        rw [List.filter_cons_of_pos hy, ih, List.filter_cons_of_neg hx, List.filter_cons_of_neg hx, List.filter_cons_of_pos hy]
      · rw [List.filter_cons_of_neg hy, ih]
        by_cases hx : sameRank le c x = true
        · rw [List.filter_cons_of_pos hx, List.filter_cons_of_pos hx, List.filter_cons_of_neg hy]
        · rw [List.filter_cons_of_neg hx, List.filter_cons_of_neg hx, List.filter_cons_of_neg hy]
theorem sortBy_pw (h : TotalLe le) : ∀ l : List α, (sortBy le l).Pairwise (fun a b => le a b = true)
  | [] => List.Pairwise.nil
  | x :: xs => insBy_pw h (sortBy_pw h xs)
theorem sortBy_fil (h : TotalLe le) (c : α) : ∀ l : List α, (sortBy le l).filter (sameRank le c) = l.filter (sameRank le c)
  | [] => rfl
  | x :: xs => by
    unfold sortBy
    rw [insBy_fil h]
    by_cases hx : sameRank le c x = true
    · rw [List.filter_cons_of_pos hx, List.filter_cons_of_pos hx, sortBy_fil h c xs]
    · rw [List.filter_cons_of_neg hx, List.filter_cons_of_neg hx, sortBy_fil h c xs]
theorem sortBy_eq (h : TotalLe le) (l : List α) : sortBy le l = l.mergeSort le := sort_unique h (sortBy_pw h l) fun c => sortBy_fil h c l
theorem sortBy_mem {z : α} : ∀ {l : List α}, z ∈ sortBy le l ↔ z ∈ l
  | [] => by simp [sortBy]
  | x :: xs => by unfold sortBy; rw [insBy_mem, sortBy_mem]; simp
theorem insBy_congr {r s : α → α → Bool} {x : α} : ∀ {l : List α}, (∀ b ∈ l, r x b = s x b) → insBy r x l = insBy s x l
  | [], _ => rfl
  | y :: ys, h => by
    unfold insBy
    rw [h y List.mem_cons_self, insBy_congr fun b hb => h b (List.mem_cons_of_mem _ hb)]
theorem sortBy_congr {r s : α → α → Bool} : ∀ {l : List α}, (∀ a ∈ l, ∀ b ∈ l, r a b = s a b) → sortBy r l = sortBy s l
  | [], _ => rfl
  | x :: xs, h => by
    unfold sortBy
    rw [sortBy_congr (l := xs) fun a ha b hb => h a (List.mem_cons_of_mem _ ha) b (List.mem_cons_of_mem _ hb)]
    exact insBy_congr fun b hb => h x List.mem_cons_self b (List.mem_cons_of_mem _ (sortBy_mem.mp hb))
end

section
variable {prog : Program} {w : World} {A : Around} {E : Value → Shared → Prop} {s : Shared}
theorem collect_tuple {l : Addr} {vs : List Value} {Q : List Value → Shared → Prop} (hl : s.heap.IsTuple l vs.toArray)
    (h : Q vs { s with heap := (s.heap.push (seqObj "list" #[] 0)).update s.heap.objs.size (Obj.mapSeq (· ++ vs.toArray)) }) (hsz : vs.length ≤ sizeLine) :
    wpAny (model prog w) A (collect (.ref l)) Q E s := by
  obtain ⟨o, ho, hc, n, hd⟩ := id hl
  unfold collect
  refine wpAny_bind (wpAny_runValue (codeAny_builtin entry_proto_collect' ?_))
  show wpAny _ _ (do again (.builtin "list.__iadd__" ⟨[← newList [], .ref l], []⟩)) _ _ s
  refine wpAny_bind (wpAny_newList (wpAny_pure ⟨Code.quiet_builtin _ (by decide +kernel), codeAny_builtin entry_list_iadd' ?_⟩))
  show wpAny _ _ (Builtin.List.listExtendWith (.ref s.heap.objs.size) (.ref l) (.ref s.heap.objs.size)) _ _ { s with heap := s.heap.push (seqObj "list" #[] 0) }
  unfold Builtin.List.listExtendWith
  have ho' : (s.heap.push (seqObj "list" #[] 0)).get? l = some o := Heap.get?_push_of_some _ ho
  refine wpAny_bind (wpAny_typeOf (T := "tuple") ⟨o, ho', hc⟩ ?_)
  have ht : (Value.type "tuple" == Value.type "tuple") = true := by rfl
  rw [if_pos (by rw [ht]; simp)]
  refine wpAny_bind (listItems_at ho' hd ?_)
  refine wpAny_bind (listItems_at (xs := #[]) (n := 0) (Heap.get?_push_size _ rfl) rfl ?_)
  rw [if_neg (by simp)]
  refine wpAny_bind (listUpdate_at (xs := #[]) (n := 0) (Heap.get?_push_size _ rfl) rfl ?_ (Nat.zero_le _) (by show (#[] ++ vs.toArray).size ≤ sizeLine + 1; simp only [Array.size_append, List.size_toArray, List.length_nil]; omega))
  refine wpAny_pure ?_
  show wpAny (model prog w) A (do
      let o ← load s.heap.objs.size
      match o.data with
      | .seq xs _ => pure xs.toList
      | _ => unsupported "internal:collect") Q E { s with heap := (s.heap.push (seqObj "list" #[] 0)).update s.heap.objs.size (Obj.mapSeq (· ++ vs.toArray)) }
  refine wpAny_bind (wpAny_load (get?_update_seq (Heap.get?_push_size _ rfl) _) ?_)
  show wpAny _ _ (pure ((#[] : Array Value) ++ vs.toArray).toList) Q E _
  rw [show ((#[] : Array Value) ++ vs.toArray).toList = vs by simp]
  exact wpAny_pure h
/-- sorted(x) of what collects to vs -/
theorem sorted_vals_of {x : Value} {vs : List Value} {κ : PyProof.Rows.KeyKind} {Q : Value → Shared → Prop} (hargs : argsOk "sorted" ⟨[x], []⟩)
    (hc : ∀ (A : Around) (E : Value → Shared → Prop) (Q : List Value → Shared → Prop), Q vs { s with heap := (s.heap.push (seqObj "list" #[] 0)).update s.heap.objs.size (Obj.mapSeq (· ++ vs.toArray)) } → wpAny (model prog w) A (collect x) Q E s)
    (S : SortsAt prog w A.in1.in1 { s with heap := sortingHeap (copyHeap s.heap vs) (s.heap.objs.size + 1) vs } κ vs) (hL : vs.length ≤ sizeLine)
    (h : Q (.ref (s.heap.objs.size + 1)) { s with heap := sortedAll s.heap vs (sortVals κ false vs vs).toArray }) : wpAny (model prog w) A (call (.builtin "sorted") [x]) Q E s := by
  refine call_function_entry_kw kind_sorted plain_sorted entry_sorted hargs ?_
  unfold Builtin.«sorted»
  refine wpAny_bind (m := checkCount "sorted" 1 1 _) (wpAny_pure ?_)
  refine wpAny_bind (hc _ _ _ ?_)
  refine wpAny_bind (wpAny_newList ?_ hL)
  have hsz : ((s.heap.push (seqObj "list" #[] 0)).update s.heap.objs.size (Obj.mapSeq (· ++ vs.toArray))).objs.size = s.heap.objs.size + 1 := by
    rw [Heap.size_update, size_push']
  show wpAny _ _ _ _ _ { s with heap := copyHeap s.heap vs }
  rw [hsz]
  refine wpAny_bind (wpAny_holding (wpAny_call_entry_kw slot_list_sort ⟨_, copyHeap_at s.heap vs, rfl⟩ entry_list_sort ?body (args_list_sort _)))
  case body =>
    show wpAny (model prog w) A.in1.in1 (Builtin.«list.sort» ⟨[.ref (s.heap.objs.size + 1)], []⟩) _ _ _
    refine wpAny_mono (list_sort_vals (P := fun f s' => f = .done (.ret .none) ∧ Q (.ref (s.heap.objs.size + 1)) s') (E := fun _ _ => False) (s := { s with heap := copyHeap s.heap vs }) (copyHeap_at s.heap vs) S hL ⟨rfl, h⟩) (fun f s' hf => ?_) fun _ _ e => e.elim
    obtain ⟨rfl, hq⟩ := hf
    exact ⟨_, rfl, wpAny_pure ⟨_, rfl, hq⟩⟩
end
end PySem.W

namespace TL
open PySem PySem.Spec PyProof.Rows L2
def isTupD : D → Bool
  | .tup _ => true
  | _ => false
def isNeT : D → Bool
  | .tup (_ :: _) => true
  | _ => false
def isIntD : D → Bool
  | .int _ => true
  | _ => false
def isLotD : D → Bool
  | .tup xs => xs.all isIntD
  | _ => false
def isLotsD : D → Bool
  | .tup xs => xs.all isLotD
  | _ => false
/-- every two of them can be compared -/
def alAll (xs : List D) : Bool := xs.all isIntD || xs.all isLotD || xs.all isLotsD || xs.all fun a => xs.all fun b => alD a b
def sortable (xs : List D) : Bool := xs.all isTupD || xs.all fun d => !isTupD d && (match d with | .non => false | _ => true)
def leD (a b : D) : Bool := !ltD b a
def sortD (xs : List D) : List D := PySem.W.sortBy leD xs
def seqOf : D → Option (List D)
  | .lst _ xs => some xs
  | .tup xs => some xs
  | _ => none
def dSorted (d : D) : Option D := match seqOf d with
  | some xs => if (immL xs && okL 20 xs && alAll xs && sortable xs) = true then some (.lst true (sortD xs)) else none
  | none => none

theorem alD_int {a b : D} (ha : isIntD a = true) (hb : isIntD b = true) : alD a b = true := by
  cases a <;> simp [isIntD] at ha
  cases b <;> simp [isIntD] at hb
  rfl
theorem alL_all {p : D → Bool} (h : ∀ a b, p a = true → p b = true → alD a b = true) : ∀ (xs ys : List D), xs.all p = true → ys.all p = true → alL xs ys = true
  | [], ys, _, _ => by cases ys <;> rfl
  | x :: xs, [], _, _ => rfl
  | x :: xs, y :: ys, hx, hy => by
    simp only [List.all_cons, Bool.and_eq_true] at hx hy
    simp only [alL, h x y hx.1 hy.1, alL_all h xs ys hx.2 hy.2, Bool.and_self]
theorem alD_lot {a b : D} (ha : isLotD a = true) (hb : isLotD b = true) : alD a b = true := by
  cases a <;> simp only [isLotD] at ha <;> try cases ha
  cases b <;> simp only [isLotD] at hb <;> try cases hb
  simp only [alD]
  exact alL_all (p := isIntD) (fun _ _ => alD_int) _ _ ha hb
theorem alD_lots {a b : D} (ha : isLotsD a = true) (hb : isLotsD b = true) : alD a b = true := by
  cases a <;> simp only [isLotsD] at ha <;> try cases ha
  cases b <;> simp only [isLotsD] at hb <;> try cases hb
  simp only [alD]
  exact alL_all (p := isLotD) (fun _ _ => alD_lot) _ _ ha hb
theorem alAll_of {xs : List D} (h : alAll xs = true) : ∀ a ∈ xs, ∀ b ∈ xs, alD a b = true := by
  intro a ha b hb
  unfold alAll at h
  simp only [Bool.or_eq_true, List.all_eq_true] at h
  rcases h with ((h | h) | h) | h
  · exact alD_int (h a ha) (h b hb)
  · exact alD_lot (h a ha) (h b hb)
  · exact alD_lots (h a ha) (h b hb)
  · exact h a ha b hb
theorem okL_mem {n : Nat} : ∀ {xs : List D}, okL n xs = true → ∀ a ∈ xs, okD n a = true
  | [], _, a, ha => by simp at ha
  | x :: xs, h, a, ha => by
    simp only [okL, Bool.and_eq_true] at h
    rcases List.mem_cons.mp ha with e | ha
    · rw [e]; exact h.1
    · exact okL_mem h.2 a ha
theorem pdL_map : ∀ xs : List D, pdL xs = xs.map pdT
  | [] => rfl
  | x :: xs => by simp [pdL, pdL_map xs]
theorem sortD_eq {xs : List D} (ok : okL 20 xs = true) (al : alAll xs = true) (so : sortable xs = true) : xs.mergeSort (PySem.W.dataLe false pdT) = sortD xs := by
  rw [← PySem.W.sortBy_eq (le := PySem.W.dataLe false pdT) (PySem.W.sortLe_total _ _ _)]
  unfold sortD
  refine PySem.W.sortBy_congr fun a ha b hb => ?_
  show (!PySem.W.dataLt (pdT b) (pdT a)) = !ltD b a
  by_cases hn : b = .non
  · exfalso
    subst hn
    unfold sortable at so
    rw [Bool.or_eq_true, List.all_eq_true, List.all_eq_true] at so
    rcases so with so | so
    · exact absurd (so _ hb) (by simp [isTupD])
    · exact absurd (so _ hb) (by simp)
  · rw [pd_lt 20 20 b a (okL_mem ok b hb) (okL_mem ok a ha) (alAll_of al b hb a ha) hn]

theorem sortable_of {xs : List D} (so : sortable xs = true) : (PySem.W.Sortable (xs.map pdT)) ∨ ((∀ d, d ∈ xs.map pdT → ∃ ys, d = .tuple ys) ∧ ∃ d, d ∈ xs.map pdT ∧ PySem.W.neT d = false) := by
  unfold sortable at so
  rw [Bool.or_eq_true, List.all_eq_true, List.all_eq_true] at so
  rcases so with so | so
  · by_cases h : xs.all isNeT = true
    · refine .inl (.inl fun d hd => ?_)
      obtain ⟨x, hx, rfl⟩ := List.mem_map.mp hd
      have := List.all_eq_true.mp h x hx
      cases x <;> simp [isNeT] at this
      rename_i ys
      cases ys with
      | nil => simp at this
      | cons y ys => exact ⟨pdT y, pdL ys, by simp [pdT, pdL]⟩
    · refine .inr ⟨fun d hd => ?_, ?_⟩
      · obtain ⟨x, hx, rfl⟩ := List.mem_map.mp hd
        have := so x hx
        cases x <;> simp [isTupD] at this
        exact ⟨_, rfl⟩
      · have h' : xs.all isNeT = false := by simpa using h
        rw [List.all_eq_false] at h'
        obtain ⟨x, hx, hn⟩ := h'
        refine ⟨pdT x, List.mem_map.mpr ⟨x, hx, rfl⟩, ?_⟩
        have := so x hx
        cases x <;> simp [isTupD] at this
        rename_i ys
        cases ys with
        | nil => simp [pdT, pdL, PySem.W.neT]
        | cons y ys => simp [isNeT] at hn
  · refine .inl (.inr fun d hd => ?_)
    obtain ⟨x, hx, rfl⟩ := List.mem_map.mp hd
    have := so x hx
    cases x <;> simp_all [pdT, isTupD]
section
variable {X : Cx} {G : Gen}
/-- the values beside their trees -/
theorem each_of_vals {w : Wd} {pins : List (Addr × Obj)} {σ : L2.St} {s : Shared} (I : Inv X pins σ w.h s) (hK : X.K = G.K) (n : Nat) : ∀ {xs : List D} {vs : List V} {us : List Value}, okL n xs = true → RepL G w xs vs Fp.zero → Vals vs us →
    PySem.W.EachIs (fun u d => ∃ v, RelV v u ∧ Rep G w d v Fp.zero) us xs ∧ PySem.W.EachIs (fun u d => ∃ as, Reads s.heap u (pdT d) as) us xs
  | [], vs, us, ok, r, rv => by
    simp only [RepL] at r
    obtain ⟨rfl, _⟩ := r
    cases rv
    exact ⟨.nil, .nil⟩
  | d :: ds, vs, us, ok, r, rv => by
    simp only [okL, Bool.and_eq_true] at ok
    simp only [RepL] at r
    obtain ⟨v, vs', m1, m2, rfl, h1, h2, e⟩ := r
    obtain ⟨rfl, rfl⟩ := Fp.eq_zero_of_add e.symm
    cases rv with
    | cons r1 r2 =>
      obtain ⟨t1, t2⟩ := each_of_vals I hK n ok.2 h2 r2
      refine ⟨.cons ⟨v, r1, h1⟩ t1, .cons ?_ t2⟩
      exact Dp.reads I _ _ _ (by rw [hK]; exact Rep.dp n d v _ ok.1 h1) r1
theorem vals_of_each {w : Wd} : ∀ {us : List Value} {xs : List D}, PySem.W.EachIs (fun u d => ∃ v, RelV v u ∧ Rep G w d v Fp.zero) us xs → ∃ vs, Vals vs us ∧ RepL G w xs vs Fp.zero
  | _, _, .nil => ⟨[], .nil, RepL.nil⟩
  | _, _, .cons ⟨v, r, q⟩ t => by
    obtain ⟨vs, h1, h2⟩ := vals_of_each t
    refine ⟨v :: vs, .cons r h1, ?_⟩
    simp only [RepL]
    exact ⟨v, vs, Fp.zero, Fp.zero, rfl, q, h2, rfl⟩
/-- a call of one argument, by trees -/
def rC1 (G : Gen) (g : D → Option D) : List V → Hp → VK → Prop := fun vs H Q => ∃ v, vs = [v] ∧ rU1 G g v H Q
theorem args_sorted_any (v : Value) : argsOk "sorted" ⟨[v], []⟩ := args_sorted1 _
theorem c_sorted (F : Fit X G) : CallR X (.builtin "sorted") (rC1 G dSorted) := by
  intro pins s σ H vs us Q I rv h
  obtain ⟨v, rfl, w, d1, m1, d, e0, W, r1, o1, hf, k⟩ := h
  subst e0
  obtain ⟨u, rfl, ru⟩ := vals1 rv
  unfold dSorted at hf
  split at hf
  · rename_i xs hs
    split at hf
    · rename_i hq
      cases hf
      simp only [Bool.and_eq_true] at hq
      obtain ⟨⟨⟨im, ok⟩, al⟩, so⟩ := hq
      -- the items as they stand
      have main : ∀ (a : Addr) (vs : List V) (its : List Value), u = .ref a → RepL G w xs vs Fp.zero → Vals vs its → vs.length ≤ sizeLine →
          (∀ (A : Around) (E : Value → Shared → Prop) (Q : List Value → Shared → Prop), Q its { s with heap := (s.heap.push (seqObj "list" #[] 0)).update s.heap.objs.size (Obj.mapSeq (· ++ its.toArray)) } → wpAny (model X.prog X.w) A (collect u) Q E s) →
          wpAny (model X.prog X.w) X.A (call (.builtin "sorted") [u]) (EP X pins σ Q) X.xe s := by
        intro a vs its hu r rv hz hc
        obtain ⟨e1, e2⟩ := each_of_vals I F.K 20 ok r rv
        have hl : its.length ≤ sizeLine := by rw [← rv.length]; exact hz
        have e2' : PySem.W.EachIs (fun u d => ∃ as, Reads (PySem.W.sortingHeap (PySem.W.copyHeap s.heap its) (s.heap.objs.size + 1) its) u (pdT d) as) its xs := e2.mono fun _ _ ⟨as, r⟩ => ⟨as, PyProof.Rows.Reads.keeps (fun _ _ => PySem.W.sorting_copy_old) r⟩
        have e3 := PySem.W.each_map (R := fun u d => ∃ as, Reads (PySem.W.sortingHeap (PySem.W.copyHeap s.heap its) (s.heap.objs.size + 1) its) u d as) pdT e2'
        have hal : PySem.W.AllAlike (xs.map pdT) := by
          intro d hd d' hd'
          obtain ⟨x, hx, rfl⟩ := List.mem_map.mp hd
          obtain ⟨y, hy, rfl⟩ := List.mem_map.mp hd'
          exact pd_al _ _ (alAll_of al x hx y hy)
        have hu2 : ∀ d, d ∈ xs.map pdT → X.A.in1.in1.units + d.depth < cLine := by
          intro d hd
          obtain ⟨x, hx, rfl⟩ := List.mem_map.mp hd
          have h1 := (pd_can 20 x (okL_mem ok x hx)).2
          have h2 := F.units
          show X.A.units + 1 + 1 + _ < _
          omega
        have S : PySem.W.SortsAt X.prog X.w X.A.in1.in1 { s with heap := PySem.W.sortingHeap (PySem.W.copyHeap s.heap its) (s.heap.objs.size + 1) its } (PySem.W.dataKind (PySem.W.sortingHeap (PySem.W.copyHeap s.heap its) (s.heap.objs.size + 1) its) (xs.map pdT)) its := by
          rcases sortable_of so with q | ⟨q1, q2⟩
          · exact PySem.W.SortsAt.data (s := { s with heap := PySem.W.sortingHeap (PySem.W.copyHeap s.heap its) (s.heap.objs.size + 1) its }) e3 hal q hu2
          · exact PySem.W.SortsAt.tups0 (s := { s with heap := PySem.W.sortingHeap (PySem.W.copyHeap s.heap its) (s.heap.objs.size + 1) its }) e3 hal q1 q2 hu2
        refine PySem.W.sorted_vals_of (args_sorted_any _) hc S hl ?_
        have out := PySem.W.sortVals_data false e1 e2' hal
        rw [sortD_eq ok al so] at out
        obtain ⟨vo, q1, q2⟩ := vals_of_each out
        have hlen : (PySem.W.sortVals (PySem.W.dataKind (PySem.W.sortingHeap (PySem.W.copyHeap s.heap its) (s.heap.objs.size + 1) its) (xs.map pdT)) false its its).length = its.length := PySem.W.sortVals_length false rfl
        obtain ⟨ep, he'⟩ := PyProof.Rows.sortedAll_at s.heap its (PySem.W.sortVals (PySem.W.dataKind (PySem.W.sortingHeap (PySem.W.copyHeap s.heap its) (s.heap.objs.size + 1) its) (xs.map pdT)) false its its).toArray
        have J := I.laid (o := .lst vo) (t' := s.toks) (fun _ _ => PyProof.Rows.sortedAll_old) (Nat.le_succ _) ⟨by rw [q1.length, hlen]; exact hl, _, ep, q1, he'⟩
        refine ⟨.ref _, upd w.h (s.heap.objs.size + 1) (.lst vo), J, rfl, ?_⟩
        exact Done.lst k W (I.hok.fresh (Nat.le_succ _)) q2 (HOk.bd J.hok)
      cases d1 <;> simp only [seqOf] at hs <;> try cases hs
      · simp only [Rep] at r1
        obtain ⟨a, vs, rfl, h1, h2⟩ := r1
        cases ru
        obtain ⟨its, rv', ht, hz⟩ := I.tuple (by rw [F.K]; exact h1)
        exact main a vs its rfl (RepL.immZ im h2) rv' hz fun A E Q q => PySem.W.collect_tuple (show s.heap.IsTuple a its.toArray from ht) q (by rw [← rv'.length]; exact hz)
      · simp only [Rep] at r1
        obtain ⟨a, vs, m', rfl, h1, h2, rfl⟩ := r1
        cases ru
        obtain ⟨its, rv', hl, hz⟩ := I.list (SqL.of h1.1)
        exact main a vs its rfl (RepL.immZ im h2) rv' hz fun A E Q q => collect_list hl.isList q (by rw [← rv'.length]; exact hz)
    · cases hf
  · cases hf
end
end TL
end
section
set_option maxRecDepth 100000
/-! The tree layer, part I: comparisons, in, is; built-in calls by values. -/
namespace TL
open PySem PySem.Spec PyProof.Rows L2
section
variable {X : Cx} {G : Gen}
def isNon : D → Bool
  | .non => true
  | _ => false
def dLt : D → D → Option D
  | .int a, .int b => some (.bl (decide (a < b)))
  | a, b => if (okD 40 a && okD 40 b && alD a b && !isNon a) = true then some (.bl (ltD a b)) else none
theorem o_lt (F : Fit X G) : OpR X (compareOp .Lt) (r2 G dLt) := by
  intro pins s σ H x y v u Q I rx ry ⟨w, d1, d2, m1, m2, d, e0, W, r1, o1, r2, o2, hf, k⟩
  subst e0
  have main : ∀ d1 d2 : D, okD 40 d1 = true → okD 40 d2 = true → alD d1 d2 = true → d1 ≠ .non → Rep G w d1 x m1 → Rep G w d2 y m2 → (∀ v w' md, World G w' → Rep G w' (.bl (ltD d1 d2)) v md → Own w' md → Ext Fp.zero w w' md → Q v w'.h) →
      wpAny (model X.prog X.w) X.A (compareOp .Lt v u) (EP X pins σ Q) X.xe s := by
    intro d1 d2 k1 k2 ha hn r1 r2 k
    obtain ⟨as, q1⟩ := Dp.reads I (pdT d1) x v (by rw [F.K]; exact Rep.dp 40 d1 x m1 k1 r1) rx
    obtain ⟨bs, q2⟩ := Dp.reads I (pdT d2) y u (by rw [F.K]; exact Rep.dp 40 d2 y m2 k2 r2) ry
    have h1 := (pd_can 40 d1 k1).2
    have h2 := F.units
    have hn' : pdT d1 ≠ .none := fun z => by cases d1 <;> simp [pdT] at z hn <;> simp [alD] at ha
    have := PySem.W.rcLt_alike (pdT d1) (pdT d2) X.A s v u as bs q1 q2 (pd_al d1 d2 ha) hn' (by omega)
    refine this X.prog X.w X.xe _ ?_
    rw [pd_lt 40 40 d1 d2 k1 k2 ha hn]
    exact ⟨.bl _, w.h, I, rfl, Done.flat k W Rep.mkBl⟩
  unfold dLt at hf
  split at hf
  · cases hf
    exact main _ _ rfl rfl rfl (by simp) r1 r2 k
  · split at hf
    · rename_i hq
      cases hf
      simp only [Bool.and_eq_true] at hq
      exact main _ _ hq.1.1.1 hq.1.1.2 hq.1.2 (fun z => by subst z; simp [isNon] at hq) r1 r2 k
    · cases hf
def dCmpI (c : Int → Int → Bool) : D → D → Option D
  | .int a, .int b => some (.bl (c a b))
  | _, _ => none
theorem opCmp {f : Value → Value → Sem Value} {c : Int → Int → Bool} (h : OpR X f (rI0 fun i j => .bl (c i j))) : OpR X f (r2 G (dCmpI c)) := OpR.weak h fun x y H Q ⟨w, d1, d2, m1, m2, d, e0, W, r1, o1, r2, o2, hf, k⟩ => by
  unfold dCmpI at hf
  split at hf
  · cases hf
    subst e0
    exact ⟨_, _, r1.int, r2.int, Done.flat k W Rep.mkBl⟩
  · cases hf
def dLe : D → D → Option D := dCmpI fun i j => decide (i ≤ j)
def dGt : D → D → Option D := dCmpI fun i j => decide (j < i)
def dGe : D → D → Option D := dCmpI fun i j => decide (j ≤ i)
theorem o_le : OpR X (compareOp .LtE) (r2 G dLe) := opCmp op_le
theorem o_gt : OpR X (compareOp .Gt) (r2 G dGt) := opCmp op_gt
theorem o_ge : OpR X (compareOp .GtE) (r2 G dGe) := opCmp op_ge
def dIs : D → D → Option D
  | .bl a, .bl b => some (.bl (decide (a = b)))
  | a, .non => some (.bl (isNon a))
  | _, _ => none
def dIsNot : D → D → Option D
  | .bl a, .bl b => some (.bl (!decide (a = b)))
  | a, .non => some (.bl (!isNon a))
  | _, _ => none
theorem Rep.isNon {w : Wd} {d : D} {v : V} {m : Fp} (h : Rep G w d v m) : decide (v = .non) = TL.isNon d := by
  cases d with
  | dct f t ks vs =>
    cases t <;> simp only [Rep] at h <;> obtain ⟨a, _, _, rfl, _⟩ := h <;> simp [TL.isNon]
  | undef => simp only [Rep] at h
  | non => simp only [Rep] at h; simp [h.1, TL.isNon]
  | bl b => simp only [Rep] at h; simp [h.1, TL.isNon]
  | int i => simp only [Rep] at h; simp [h.1, TL.isNon]
  | str i => simp only [Rep] at h; simp [h.1, TL.isNon]
  | tup xs => simp only [Rep] at h; obtain ⟨a, _, rfl, _⟩ := h; simp [TL.isNon]
  | lst f xs => simp only [Rep] at h; obtain ⟨a, _, _, rfl, _⟩ := h; simp [TL.isNon]
  | ins f c ds => simp only [Rep] at h; obtain ⟨a, _, _, _, rfl, _⟩ := h; simp [TL.isNon]
  | fam n l => simp only [Rep] at h; obtain ⟨_, a, _, _, _, _, rfl, _⟩ := h; simp [TL.isNon]
  | scr ns => simp only [Rep] at h; obtain ⟨_, a, rfl, _⟩ := h; simp [TL.isNon]
theorem o_is : OpR X (compareOp .Is) (r2 G dIs) := OpR.weak (OpR.or op_isN op_isBl) fun x y H Q ⟨w, d1, d2, m1, m2, d, e0, W, r1, o1, r2, o2, hf, k⟩ => by
  subst e0
  unfold dIs at hf
  split at hf
  · cases hf
    exact .inr ⟨_, _, r1.bl, r2.bl, Done.flat k W Rep.mkBl⟩
  · cases hf
    refine .inl ⟨by simp only [Rep] at r2; exact r2.1, ?_⟩
    rw [r1.isNon]
    exact Done.flat k W Rep.mkBl
  · cases hf
theorem o_isnot : OpR X (compareOp .IsNot) (r2 G dIsNot) := OpR.weak (OpR.or op_notN op_notBl) fun x y H Q ⟨w, d1, d2, m1, m2, d, e0, W, r1, o1, r2, o2, hf, k⟩ => by
  subst e0
  unfold dIsNot at hf
  split at hf
  · cases hf
    exact .inr ⟨_, _, r1.bl, r2.bl, Done.flat k W Rep.mkBl⟩
  · cases hf
    refine .inl ⟨by simp only [Rep] at r2; exact r2.1, ?_⟩
    rw [r1.isNon]
    exact Done.flat k W Rep.mkBl
  · cases hf

/-! ### in, not in: of lists and tuples -/
def inSeq (x : D) (xs : List D) : Bool := xs.any fun y => eqD y x
def dInS : D → D → Option D := fun x c => match seqOf c with
  | some xs => if (okD 20 x && okL 20 xs) = true then some (.bl (inSeq x xs)) else none
  | none => none
theorem any_pd {n : Nat} {x : D} (hx : okD n x = true) : ∀ {xs : List D}, okL n xs = true → (pdL xs).any (fun y => PyData.eqv y (pdT x)) = inSeq x xs
  | [], _ => rfl
  | y :: ys, h => by
    simp only [okL, Bool.and_eq_true] at h
    simp only [pdL, List.any_cons, inSeq, pd_eqv n n y x h.1 hx, any_pd hx h.2]
theorem inS (F : Fit X G) {neg : Bool} {g : D → D → Option D} {op : CmpOp} (hg : ∀ x c d, g x c = some d → ∃ xs, seqOf c = some xs ∧ okD 20 x = true ∧ okL 20 xs = true ∧ d = .bl (xor neg (inSeq x xs)))
    (hl : ∀ {A : Around} {E : Value → Shared → Prop} {s : Shared} {c x : Value} {xs : List PyData} {d : PyData} {as bs : List Addr} {Q : Value → Shared → Prop}, Reads s.heap c (.list xs) as → Reads s.heap x d bs → PyData.canLayAll0 xs = true → d.canLay0 = true → A.units + 1 + min (PyData.depthAll xs) d.depth < cLine → Q (.bool (xor neg (xs.any fun y => PyData.eqv y d))) s → wpAny (model X.prog X.w) A (compareOp op x c) Q E s)
    (ht : ∀ {A : Around} {E : Value → Shared → Prop} {s : Shared} {c x : Value} {xs : List PyData} {d : PyData} {as bs : List Addr} {Q : Value → Shared → Prop}, Reads s.heap c (.tuple xs) as → Reads s.heap x d bs → PyData.canLayAll0 xs = true → d.canLay0 = true → A.units + 1 + min (PyData.depthAll xs) d.depth < cLine → Q (.bool (xor neg (xs.any fun y => PyData.eqv y d))) s → wpAny (model X.prog X.w) A (compareOp op x c) Q E s) : OpR X (compareOp op) (r2 G g) := by
  intro pins s σ H x y v u Q I rx ry ⟨w, d1, d2, m1, m2, d, e0, W, r1, o1, r2, o2, hf, k⟩
  subst e0
  obtain ⟨xs, hs, k1, k2, rfl⟩ := hg _ _ _ hf
  obtain ⟨as, q1⟩ := Dp.reads I (pdT d1) x v (by rw [F.K]; exact Rep.dp 20 d1 x m1 k1 r1) rx
  have c1 := pd_can 20 d1 k1
  have c2 := pdL_can 20 xs k2
  have hu := F.units
  have fin : EP X pins σ Q (.bool (xor neg ((pdL xs).any fun y => PyData.eqv y (pdT d1)))) s := by
    rw [any_pd k1 k2]
    exact ⟨.bl _, w.h, I, rfl, Done.flat k W Rep.mkBl⟩
  cases d2 <;> simp only [seqOf] at hs <;> try cases hs
  · obtain ⟨bs, q2⟩ := Dp.reads I (.tuple (pdL xs)) y u (by rw [F.K]; exact Rep.dp 21 (.tup xs) y m2 (by simpa only [okD] using k2) r2) ry
    exact ht q2 q1 c2.1 c1.1 (by omega) fin
  · rename_i f
    obtain ⟨bs, q2⟩ := Dp.reads I (.list (pdL xs)) y u (by rw [F.K]; exact Rep.dp 21 (.lst f xs) y m2 (by simpa only [okD] using k2) r2) ry
    exact hl q2 q1 c2.1 c1.1 (by omega) fin
theorem o_inS (F : Fit X G) : OpR X (compareOp .In) (r2 G dInS) := inS (neg := false) F (fun x c d h => by
  unfold dInS at h
  split at h
  · rename_i xs hs
    split at h
    · rename_i hq
      rw [Bool.and_eq_true] at hq
      cases h
      exact ⟨xs, hs, hq.1, hq.2, by simp⟩
    · cases h
  · cases h) (fun a b c d e q => SeqAt.in_list_reads a b c d e (by simpa using q)) (fun a b c d e q => SeqAt.in_tuple_reads a b c d e (by simpa using q))
def dNotInS : D → D → Option D := fun x c => match seqOf c with
  | some xs => if (okD 20 x && okL 20 xs) = true then some (.bl (!inSeq x xs)) else none
  | none => none
theorem o_notInS (F : Fit X G) : OpR X (compareOp .NotIn) (r2 G dNotInS) := inS (neg := true) F (fun x c d h => by
  unfold dNotInS at h
  split at h
  · rename_i xs hs
    split at h
    · rename_i hq
      rw [Bool.and_eq_true] at hq
      cases h
      exact ⟨xs, hs, hq.1, hq.2, by simp⟩
    · cases h
  · cases h) (fun a b c d e q => SeqAt.notIn_list_reads a b c d e (by simpa using q)) (fun a b c d e q => SeqAt.notIn_tuple_reads a b c d e (by simpa using q))
end
end TL
end
section
set_option maxRecDepth 100000
/-! The tree layer, part J: expressions, tests, argument lists. -/
namespace TL
open PySem PySem.Spec PyProof.Rows L2
section
variable {X : Cx} {G : Gen} {ro : Nat → Bool} {a b c e : Expr} {pos : Pos} {f f1 f2 f3 : Ev} {h1 h2 h3 : EvM} {g g' : D → D → Option D} {g1 : D → Option D}
theorem r_op {op : Operator} (o : OpR X (binaryOp op) (r2 G g)) (ha : PE X a (tB G ro f1)) (hb : PE X b (tB G ro f2)) : PE X (.BinOp a op b pos) (tP G ro (p2 g f1 f2)) := PE.weak (pe_op o ha hb) fun _ _ _ => bb
theorem r_opM {op : Operator} (o : OpR X (binaryOp op) (r2 G g)) (ha : PE X a (tM G ro h1)) (hb : PE X b (tM G ro h2)) : PE X (.BinOp a op b pos) (tM G ro (m2 g h1 h2)) := PE.weak (pe_op o ha hb) fun _ _ _ => mm2
theorem r_cmp {op : CmpOp} (o : OpR X (compareOp op) (r2 G g)) (ha : PE X a (tB G ro f1)) (hb : PE X b (tB G ro f2)) (hm : behindInMarks op b = false := by first | exact nomark _ | rfl) : PE X (.Compare a [op] [b] pos) (tP G ro (p2 g f1 f2)) := PE.weak (pe_cmpR o ha hb hm) fun _ _ _ => bb
theorem r_cmpM {op : CmpOp} (o : OpR X (compareOp op) (r2 G g)) (ha : PE X a (tM G ro h1)) (hb : PE X b (tM G ro h2)) (hm : behindInMarks op b = false := by first | exact nomark _ | rfl) : PE X (.Compare a [op] [b] pos) (tM G ro (m2 g h1 h2)) := PE.weak (pe_cmpR o ha hb hm) fun _ _ _ => mm2
theorem r_un {op : UnaryOp} (o : UnR X (unaryOp op) (rU1 G g1)) (ha : PE X a (tB G ro f)) : PE X (.UnaryOp op a pos) (tP G ro (p1 g1 f)) := PE.weak (pe_un o ha) fun _ _ _ => b1
theorem r_unM {op : UnaryOp} (o : UnR X (unaryOp op) (rU1 G g1)) (ha : PE X a (tM G ro h1)) : PE X (.UnaryOp op a pos) (tM G ro (m1 g1 h1)) := PE.weak (pe_un o ha) fun _ _ _ => mm1
/-- a flag's value -/
def flag (d : D) : Option Bool := match d with
  | .bl b => some b
  | _ => none
theorem flag_some {d : D} {k : Bool} (h : flag d = some k) : d = .bl k := by
  unfold flag at h
  split at h
  · cases h; rfl
  · cases h
/-- a op1 b op2 c -/
def pChain (g g' : D → D → Option D) (f1 f2 f3 : Ev) : Ev := fun e => match f1 e, f2 e with
  | some x, some y => match g x y with
    | some (.bl true) => match f3 e with
      | some z => g' y z
      | none => none
    | some (.bl false) => some (.bl false)
    | _ => none
  | _, _ => none
theorem r_chain {op op' : CmpOp} (o : OpR X (compareOp op) (r2 G g)) (o' : OpR X (compareOp op') (r2 G g')) (ha : PE X a (tB G ro f1)) (hb : PE X b (tB G ro f2)) (hc : PE X c (tB G ro f3))
    (hm : lastMarks [op, op'] [b, c] = false := by with_unfolding_all rfl) : PE X (.Compare a [op, op'] [b, c] pos) (tP G ro (pChain g g' f1 f2 f3)) := PE.weak (pe_chain o o' ha hb hc hm) fun σ H Q ⟨R, w, e, m, d, e0, S, hf, k⟩ => by
  unfold pChain at hf
  split at hf
  · rename_i x y hx hy
    refine ⟨R, w, e, m, x, e0, S, hx, fun v1 w1 m1 S1 r1 o1 x1 => ?_⟩
    refine ⟨R, w1, e, m, y, rfl, S1, hy, fun v2 w2 m2 S2 r2 o2 x2 => ?_⟩
    have r1' := Rep.ext x2 S1.world Own.zero x v1 m1 (fun _ => .inr rfl) o1 r1
    have o1' := (Own.ext (m := m1) x2 (by rw [Fp.add_zero]; exact o1) (Rep.there _ _ _ r1) Own.zero).left
    split at hf
    · rename_i hg
      refine ⟨w2, x, y, m1, m2, .bl true, rfl, S2.world, r1', o1', r2, o2, hg, fun v w' md W' r o x3 => ⟨true, r.bl, ?_⟩⟩
      have S3 := (S2.step x3 W' o).zero
      rw [if_pos rfl]
      split at hf
      · rename_i z hz
        refine ⟨R, w', e, m, z, rfl, S3, hz, fun v4 w4 m4 S4 r4 o4 x4 => ?_⟩
        have x34 := x3.dropZ.trans x4
        have r2' := Rep.ext x34 S2.world Own.zero y v2 m2 (fun _ => .inr rfl) o2 r2
        have o2' := (Own.ext (m := m2) x34 (by rw [Fp.add_zero]; exact o2) (Rep.there _ _ _ r2) Own.zero).left
        refine ⟨w4, y, z, m2, m4, d, rfl, S4.world, r2', o2', r4, o4, hf, fun v5 w5 md5 W5 r5 o5 x5 => ?_⟩
        exact k v5 w5 md5 (S4.step x5 W5 o5) r5 ((x1.trans x2).trans (x34.trans x5))
      · cases hf
    · rename_i hg
      cases hf
      refine ⟨w2, x, y, m1, m2, .bl false, rfl, S2.world, r1', o1', r2, o2, hg, fun v w' md W' r o x3 => ⟨false, r.bl, ?_⟩⟩
      rw [if_neg Bool.false_ne_true]
      exact k (.bl false) w' Fp.zero (S2.step x3 W' o).zero Rep.mkBl ((x1.trans x2).trans x3.dropZ)
    · cases hf
  · cases hf

/-! ### tests -/
def fT (f : Ev) : EvT := fun e => match f e with
  | some d => flag d
  | none => none
theorem tT_of {t : TE} {σ : L2.St} {H : Hp} {Q : Bool → Hp → Prop} (ht : ∀ Q', tP G ro f σ H Q' → t σ H Q') (h : tT G ro (fT f) σ H Q) : t σ H fun x H1 => ∃ c, x = .bl c ∧ Q c H1 := by
  obtain ⟨R, w, e, m, b, e0, S, hf, k⟩ := h
  unfold fT at hf
  split at hf
  · rename_i d hd
    have e1 := flag_some hf
    subst e1
    exact ht _ ⟨R, w, e, m, _, e0, S, hd, fun v w' md S' r x => ⟨b, r.bl, k w' S'.zero x.dropZ⟩⟩
  · cases hf
theorem q_val (h : PE X e (tP G ro f)) (he : ∀ whole, isTrue e X.env whole = (do let v ← whole; standAt e.pos; holding [v] (truthy v)) := by intro _; rfl) : PT X e (tT G ro (fT f)) := PT.weak (pt_val h he) fun σ H Q q => tT_of (fun _ x => x) q
theorem q_cmp {op : CmpOp} (o : OpR X (compareOp op) (r2 G g)) (ha : PE X a (tB G ro f1)) (hb : PE X b (tB G ro f2)) (hm : behindInMarks op b = false := by first | exact nomark _ | rfl) : PT X (.Compare a [op] [b] pos) (tT G ro (fT (p2 g f1 f2))) := PT.weak (pt_cmpR o ha hb hm) fun σ H Q q => tT_of (fun _ x => bb x) q
def tAndF (f1 f2 : EvT) : EvT := fun e => match f1 e with
  | some true => f2 e
  | some false => some false
  | none => none
def tOrF (f1 f2 : EvT) : EvT := fun e => match f1 e with
  | some true => some true
  | some false => f2 e
  | none => none
def tNotF (f : EvT) : EvT := fun e => match f e with
  | some b => some (!b)
  | none => none
section
variable {t1 t2 : EvT} {rest : List Expr}
theorem q_and1 (h : PT X a (tT G ro t1)) : PW X (.BoolOp .And [a] pos) (tT G ro t1) := pw_and1 h
theorem q_or1 (h : PT X a (tT G ro t1)) : PW X (.BoolOp .Or [a] pos) (tT G ro t1) := pw_or1 h
theorem PW.weak {e : Expr} {t t' : TT} (h : PW X e t) (w : ∀ σ H Q, t' σ H Q → t σ H Q) : PW X e t' := ⟨fun wh pins s σ H Q I q => h.run wh pins s σ H Q I (w σ H Q q)⟩
theorem q_and (h1 : PT X a (tT G ro t1)) (h2 : PW X (.BoolOp .And (b :: rest) pos) (tT G ro t2)) : PW X (.BoolOp .And (a :: b :: rest) pos) (tT G ro (tAndF t1 t2)) := PW.weak (pw_and h1 h2) fun σ H Q ⟨R, w, e, m, k, e0, S, hf, kk⟩ => by
  unfold tAndF at hf
  split at hf
  · rename_i q
    exact ⟨R, w, e, m, true, e0, S, q, fun w' S' x => iteT (⟨R, w', e, m, k, rfl, S', hf, fun w2 S2 x2 => kk w2 S2 (x.trans x2)⟩)⟩
  · rename_i q
    cases hf
    exact ⟨R, w, e, m, false, e0, S, q, fun w' S' x => iteF (kk w' S' x)⟩
  · cases hf
theorem q_or (h1 : PT X a (tT G ro t1)) (h2 : PW X (.BoolOp .Or (b :: rest) pos) (tT G ro t2)) : PW X (.BoolOp .Or (a :: b :: rest) pos) (tT G ro (tOrF t1 t2)) := PW.weak (pw_or h1 h2) fun σ H Q ⟨R, w, e, m, k, e0, S, hf, kk⟩ => by
  unfold tOrF at hf
  split at hf
  · rename_i q
    cases hf
    exact ⟨R, w, e, m, true, e0, S, q, fun w' S' x => iteT (kk w' S' x)⟩
  · rename_i q
    exact ⟨R, w, e, m, false, e0, S, q, fun w' S' x => iteF (⟨R, w', e, m, k, rfl, S', hf, fun w2 S2 x2 => kk w2 S2 (x.trans x2)⟩)⟩
  · cases hf
theorem q_not (h1 : PT X a (tT G ro t1)) : PT X (.UnaryOp .Not a pos) (tT G ro (tNotF t1)) := PT.weak (pt_not h1) fun σ H Q ⟨R, w, e, m, k, e0, S, hf, kk⟩ => by
  unfold tNotF at hf
  split at hf
  · rename_i q
    cases hf
    exact ⟨R, w, e, m, _, e0, S, q, fun w' S' x => kk w' S' x⟩
  · cases hf
end

/-! ### and, or, not, if as values -/
def pAnd (f1 f2 : Ev) : Ev := fun e => match f1 e with
  | some (.bl true) => f2 e
  | some (.bl false) => some (.bl false)
  | _ => none
def pOr (f1 f2 : Ev) : Ev := fun e => match f1 e with
  | some (.bl true) => some (.bl true)
  | some (.bl false) => f2 e
  | _ => none
def pNot (f : Ev) : Ev := fun e => match f e with
  | some (.bl b) => some (.bl (!b))
  | _ => none
def pIf (t : EvT) (f1 f2 : Ev) : Ev := fun e => match t e with
  | some true => f1 e
  | some false => f2 e
  | none => none
variable {rest : List Expr} {t : EvT}
theorem r_one {op} (h : PE X a (tP G ro f)) : PE X (.BoolOp op [a] pos) (tP G ro f) := pe_one h
theorem r_and (h1 : PE X a (tP G ro f1)) (h2 : PE X (.BoolOp .And (b :: rest) pos) (tP G ro f2)) : PE X (.BoolOp .And (a :: b :: rest) pos) (tP G ro (pAnd f1 f2)) := PE.weak (pe_and h1 h2) fun σ H Q ⟨R, w, e, m, d, e0, S, hf, k⟩ => by
  unfold pAnd at hf
  split at hf
  · rename_i q
    exact ⟨R, w, e, m, _, e0, S, q, fun v w' md S' r x => ⟨true, r.bl, iteT (⟨R, w', e, m, d, rfl, S'.zero, hf, fun v2 w2 md2 S2 r2 x2 => k v2 w2 md2 S2 r2 (x.dropZ.trans x2)⟩)⟩⟩
  · rename_i q
    cases hf
    exact ⟨R, w, e, m, _, e0, S, q, fun v w' md S' r x => ⟨false, r.bl, iteF (k _ w' Fp.zero S'.zero Rep.mkBl x.dropZ)⟩⟩
  · cases hf
theorem r_or (h1 : PE X a (tP G ro f1)) (h2 : PE X (.BoolOp .Or (b :: rest) pos) (tP G ro f2)) : PE X (.BoolOp .Or (a :: b :: rest) pos) (tP G ro (pOr f1 f2)) := PE.weak (pe_or h1 h2) fun σ H Q ⟨R, w, e, m, d, e0, S, hf, k⟩ => by
  unfold pOr at hf
  split at hf
  · rename_i q
    cases hf
    exact ⟨R, w, e, m, _, e0, S, q, fun v w' md S' r x => ⟨true, r.bl, iteT (k _ w' Fp.zero S'.zero Rep.mkBl x.dropZ)⟩⟩
  · rename_i q
    exact ⟨R, w, e, m, _, e0, S, q, fun v w' md S' r x => ⟨false, r.bl, iteF (⟨R, w', e, m, d, rfl, S'.zero, hf, fun v2 w2 md2 S2 r2 x2 => k v2 w2 md2 S2 r2 (x.dropZ.trans x2)⟩)⟩⟩
  · cases hf
theorem r_not (h : PE X a (tP G ro f)) : PE X (.UnaryOp .Not a pos) (tP G ro (pNot f)) := PE.weak (pe_not h) fun σ H Q ⟨R, w, e, m, d, e0, S, hf, k⟩ => by
  unfold pNot at hf
  split at hf
  · rename_i b' q
    cases hf
    exact ⟨R, w, e, m, _, e0, S, q, fun v w' md S' r x => ⟨b', r.bl, k _ w' Fp.zero S'.zero Rep.mkBl x.dropZ⟩⟩
  · cases hf
theorem r_if (ht : PT X c (tT G ro t)) (h1 : PE X a (tP G ro f1)) (h2 : PE X b (tP G ro f2)) : PE X (.IfExp c a b pos) (tP G ro (pIf t f1 f2)) := PE.weak (pe_ifExp ht h1 h2) fun σ H Q ⟨R, w, e, m, d, e0, S, hf, k⟩ => by
  unfold pIf at hf
  split at hf
  · rename_i q
    exact ⟨R, w, e, m, true, e0, S, q, fun w' S' x => iteT (⟨R, w', e, m, d, rfl, S', hf, fun v2 w2 md2 S2 r2 x2 => k v2 w2 md2 S2 r2 (x.trans x2)⟩)⟩
  · rename_i q
    exact ⟨R, w, e, m, false, e0, S, q, fun w' S' x => iteF (⟨R, w', e, m, d, rfl, S', hf, fun v2 w2 md2 S2 r2 x2 => k v2 w2 md2 S2 r2 (x.trans x2)⟩)⟩
  · cases hf

/-! ### argument lists -/
abbrev EvL := List D → Option (List D)
abbrev EvLM := List D → Option (List D × List D)
def lNil : EvL := fun _ => some []
def lCons (f : Ev) (l : EvL) : EvL := fun e => match f e, l e with
  | some d, some ds => some (d :: ds)
  | _, _ => none
def kNil : EvLM := fun e => some ([], e)
def kCons (f : EvM) (l : EvLM) : EvLM := fun e => match f e with
  | some (d, e1) => match l e1 with
    | some (ds, e2) => some (d :: ds, e2)
    | none => none
  | none => none
/-- values of their own, from the left -/
def tPA (G : Gen) (ro : Nat → Bool) (l : EvL) : TA := fun σ H Q => ∃ R w e m ds, w.h = H ∧ SK G ro R w e σ m Fp.zero ∧ l e = some ds ∧
  ∀ vs w' md, SK G ro R w' e σ m md → RepL G w' ds vs md → Ext Fp.zero w w' md → Q vs w'.h
def tMA (G : Gen) (ro : Nat → Bool) (l : EvLM) : TA := fun σ H Q => ∃ R w e m ds e', w.h = H ∧ SK G ro R w e σ m Fp.zero ∧ l e = some (ds, e') ∧
  ∀ vs w' md m', SK G ro R w' e' σ m' md → RepL G w' ds vs md → Ext m w w' (Fp.add m' md) → Q vs w'.h
/-- values that are looked at -/
def RepA (G : Gen) (w : Wd) : List D → List V → Prop
  | [], vs => vs = []
  | d :: ds, vs => ∃ v vs' m, vs = v :: vs' ∧ Rep G w d v m ∧ Own w m ∧ RepA G w ds vs'
def tBA (G : Gen) (ro : Nat → Bool) (l : EvL) : TA := fun σ H Q => ∃ R w e m ds, w.h = H ∧ SK G ro R w e σ m Fp.zero ∧ l e = some ds ∧
  ∀ vs w', SK G ro R w' e σ m Fp.zero → RepA G w' ds vs → Ext Fp.zero w w' Fp.zero → Q vs w'.h
theorem RepA.ext {w w' : Wd} (x : Ext Fp.zero w w' Fp.zero) (W : World G w) : ∀ {ds : List D} {vs : List V}, RepA G w ds vs → RepA G w' ds vs
  | [], vs, h => h
  | d :: ds, vs, h => by
    obtain ⟨v, vs', m, rfl, r, o, t⟩ := h
    exact ⟨v, vs', m, rfl, Rep.ext x W Own.zero d v m (fun _ => .inr rfl) o r, (Own.ext (m := m) x (by rw [Fp.add_zero]; exact o) (Rep.there _ _ _ r) Own.zero).left, RepA.ext x W t⟩
theorem SK.holdP {R : List RoE} {w w' : Wd} {e : List D} {σ : L2.St} {m md k : Fp} (S : SK G ro R w e σ m md) (t : ∀ b, md b ≠ 0 → w.h b ≠ none) (x : Ext Fp.zero w w' k) (W' : World G w') (O' : Own w' k) : SK G ro R w' e σ m (Fp.add md k) := by
  have x' := x.frame (m := md)
  rw [Fp.add_zero] at x'
  exact S.step x' W' (Own.ext (m := md) x (by rw [Fp.add_zero]; exact S.own.right) t O')
section
variable {es : List Expr} {l : EvL} {lm : EvLM}
theorem a_nil : PA X [] (tPA G ro lNil) := PA.weak pa_nil fun σ H Q ⟨R, w, e, m, ds, e0, S, hf, k⟩ => by
  cases hf; subst e0
  exact k [] w Fp.zero S RepL.nil (Ext.refl _ _)
theorem a_cons (h : PE X e (tP G ro f)) (hl : PA X es (tPA G ro l)) (hs : starEach (e :: es) X.env = (false, eval e X.env) :: starEach es X.env := by rfl) : PA X (e :: es) (tPA G ro (lCons f l)) := PA.weak (pa_cons h hl hs) fun σ H Q ⟨R, w, e, m, ds, e0, S, hf, k⟩ => by
  unfold lCons at hf
  split at hf
  · rename_i d ds' hd hds
    cases hf
    refine ⟨R, w, e, m, d, e0, S, hd, fun v w1 md1 S1 r1 x1 => ⟨R, w1, e, m, ds', rfl, S1.zero, hds, fun vs w2 md2 S2 r2 x2 => ?_⟩⟩
    have S2' := S1.holdP (Rep.there _ _ _ r1) x2 S2.world S2.own.right
    have r1' := Rep.ext x2 S1.world Own.zero d v md1 (fun _ => .inr rfl) S1.own.right r1
    refine k (v :: vs) w2 (Fp.add md1 md2) S2' ?_ ?_
    · simp only [RepL]; exact ⟨v, vs, md1, md2, rfl, r1', r2, rfl⟩
    · have y := x2.frame (m := md1)
      rw [Fp.add_zero] at y
      exact x1.trans y
  · cases hf
theorem k_nil : PA X [] (tMA G ro kNil) := PA.weak pa_nil fun σ H Q ⟨R, w, e, m, ds, e', e0, S, hf, k⟩ => by
  cases hf; subst e0
  exact k [] w Fp.zero m S RepL.nil (Ext.refl _ _)
theorem k_cons (h : PE X e (tM G ro h1)) (hl : PA X es (tMA G ro lm)) (hs : starEach (e :: es) X.env = (false, eval e X.env) :: starEach es X.env := by rfl) : PA X (e :: es) (tMA G ro (kCons h1 lm)) := PA.weak (pa_cons h hl hs) fun σ H Q ⟨R, w, e, m, ds, e', e0, S, hf, k⟩ => by
  unfold kCons at hf
  split at hf
  · rename_i d e1 hd
    split at hf
    · rename_i ds' e2 hds
      cases hf
      refine ⟨R, w, e, m, d, e1, e0, S, hd, fun v w1 md1 m1 S1 r1 x1 => ⟨R, w1, e1, m1, ds', e', rfl, S1.zero, hds, fun vs w2 md2 m2 S2 r2 x2 => ?_⟩⟩
      have S2' := S1.hold (Rep.there _ _ _ r1) x2 S2
      have r1' := S1.rep r1 x2
      refine k (v :: vs) w2 (Fp.add md1 md2) m2 (by rw [Fp.add_comm]; exact S2') ?_ ?_
      · simp only [RepL]; exact ⟨v, vs, md1, md2, rfl, r1', r2, rfl⟩
      · have y1 : Ext (Fp.add m1 md1) w1 w2 (Fp.add (Fp.add m2 md2) md1) := x2.frameR
        refine (x1.trans y1).less fun b q => ?_
        simp at *; omega
    · cases hf
  · cases hf
theorem b_nil : PA X [] (tBA G ro lNil) := PA.weak pa_nil fun σ H Q ⟨R, w, e, m, ds, e0, S, hf, k⟩ => by
  cases hf; subst e0
  exact k [] w S rfl (Ext.refl _ _)
theorem b_cons (h : PE X e (tB G ro f)) (hl : PA X es (tBA G ro l)) (hs : starEach (e :: es) X.env = (false, eval e X.env) :: starEach es X.env := by rfl) : PA X (e :: es) (tBA G ro (lCons f l)) := PA.weak (pa_cons h hl hs) fun σ H Q ⟨R, w, e, m, ds, e0, S, hf, k⟩ => by
  unfold lCons at hf
  split at hf
  · rename_i d ds' hd hds
    cases hf
    refine ⟨R, w, e, m, d, e0, S, hd, fun v w1 m1 S1 r1 o1 x1 => ⟨R, w1, e, m, ds', rfl, S1, hds, fun vs w2 S2 r2 x2 => ?_⟩⟩
    have r1' := Rep.ext x2 S1.world Own.zero d v m1 (fun _ => .inr rfl) o1 r1
    have o1' := (Own.ext (m := m1) x2 (by rw [Fp.add_zero]; exact o1) (Rep.there _ _ _ r1) Own.zero).left
    exact k (v :: vs) w2 S2 ⟨v, vs, m1, rfl, r1', o1', r2⟩ (x1.trans x2)
  · cases hf

/-! ### (a, b), [a, b] -/
def pTup (l : EvL) : Ev := fun e => match l e with
  | some ds => if lim ds.length = true then some (.tup ds) else none
  | none => none
def pLst (l : EvL) : Ev := fun e => match l e with
  | some ds => if lim ds.length = true then some (.lst true ds) else none
  | none => none
def mTup (l : EvLM) : EvM := fun e => match l e with
  | some (ds, e') => if lim ds.length = true then some (.tup ds, e') else none
  | none => none
def mLst (l : EvLM) : EvM := fun e => match l e with
  | some (ds, e') => if lim ds.length = true then some (.lst true ds, e') else none
  | none => none
/-- a new object beside the frame, of what is held -/
theorem SK.newO {R : List RoE} {w : Wd} {e : List D} {σ : L2.St} {m md : Fp} {p : Addr} {o : HO} (S : SK G ro R w e σ m md) (td : ∀ b, md b ≠ 0 → w.h b ≠ none) (hp : w.h p = none) (hl : hoLen o ≤ sizeLine) :
    SK G ro R (w.new p o) e σ m (Fp.add md (Fp.one p)) ∧ Ext md w (w.new p o) (Fp.add md (Fp.one p)) ∧ SK G ro R (w.new p o) e σ m md ∧ Ext md w (w.new p o) md := by
  have x : Ext Fp.zero w (w.new p o) (Fp.one p) := Ext.new hp fun b q => Classical.byContradiction fun n => q (Fp.one_ne n)
  have W' := S.world.new hp hl
  have x' := x.frame (m := md)
  rw [Fp.add_zero] at x'
  have t : Own (w.new p o) (Fp.add md (Fp.one p)) := fun b => by
    have h1 := S.own.right b
    have h2 := Own.new S.world (o := o) hp b
    by_cases e : b = p
    · subst e
      have : md b = 0 := Classical.byContradiction fun n => td b n hp
      exact ⟨by simp [this]; exact h2.1, fun _ => h2.2 (by simp [Fp.one_same])⟩
    · exact ⟨by simp [Fp.one_ne e]; exact h1.1, fun q => h1.2 (by simpa [Fp.one_ne e] using q)⟩
  have S' := S.step x' W' t
  exact ⟨S', x', S'.less fun b => by simp, x'.less fun b q => by simp; omega⟩

theorem done_newT {R : List RoE} {w : Wd} {e : List D} {σ : L2.St} {m md : Fp} {p : Addr} {ds : List D} {vs : List V} (S : SK G ro R w e σ m md) (r : RepL G w ds vs md) (hp : w.h p = none) (hl : vs.length ≤ sizeLine) :
    SK G ro R (w.new p (.tup vs)) e σ m md ∧ Ext md w (w.new p (.tup vs)) md ∧ Rep G (w.new p (.tup vs)) (.tup ds) (.ref p) md := by
  obtain ⟨_, _, h1, h2⟩ := S.newO (o := .tup vs) (RepL.there _ _ _ r) hp hl
  refine ⟨h1, h2, ?_⟩
  have x : Ext Fp.zero w (w.new p (.tup vs)) Fp.zero := Ext.new hp fun b q => absurd rfl q
  simp only [Rep]
  exact ⟨p, vs, rfl, .inl (.inl upd_same), RepL.ext x S.world Own.zero _ _ _ (fun _ => .inr rfl) S.own.right r⟩
theorem done_newL {R : List RoE} {w : Wd} {e : List D} {σ : L2.St} {m md : Fp} {p : Addr} {ds : List D} {vs : List V} (S : SK G ro R w e σ m md) (r : RepL G w ds vs md) (hp : w.h p = none) (hl : vs.length ≤ sizeLine) :
    SK G ro R (w.new p (.lst vs)) e σ m (Fp.add md (Fp.one p)) ∧ Ext md w (w.new p (.lst vs)) (Fp.add md (Fp.one p)) ∧ Rep G (w.new p (.lst vs)) (.lst true ds) (.ref p) (Fp.add md (Fp.one p)) := by
  obtain ⟨h1, h2, _, _⟩ := S.newO (o := .lst vs) (RepL.there _ _ _ r) hp hl
  refine ⟨h1, h2, ?_⟩
  have x : Ext Fp.zero w (w.new p (.lst vs)) Fp.zero := Ext.new hp fun b q => absurd rfl q
  simp only [Rep]
  exact ⟨p, vs, md, rfl, ⟨upd_same, fun q => nomatch q⟩, RepL.ext x S.world Own.zero _ _ _ (fun _ => .inr rfl) S.own.right r, by rw [Fp.add_comm]; rfl⟩
/-- behind a step beside the frame -/
theorem Ext.after {w w1 w2 : Wd} {m md k : Fp} (x : Ext Fp.zero w w1 md) (y : Ext md w1 w2 k) : Ext Fp.zero w w2 k := x.trans y
theorem Ext.afterM {w w1 w2 : Wd} {m m' md k : Fp} (x : Ext m w w1 (Fp.add m' md)) (y : Ext md w1 w2 k) : Ext m w w2 (Fp.add m' k) := x.trans (y.frame (m := m'))
theorem r_tup {x1} (h : PA X es (tPA G ro l)) : PE X (.Tuple es x1 pos) (tP G ro (pTup l)) := PE.weak (PE.bnd (pe_tup h)) fun σ H Q ⟨R, w, e, m, d, e0, S, hf, k⟩ => by
  unfold pTup at hf
  split at hf
  · rename_i ds hds
    split at hf
    · rename_i hq
      cases hf
      refine ⟨R, w, e, m, ds, e0, S, hds, fun vs w1 md S1 r1 x1 => ?_⟩
      have hl : vs.length ≤ sizeLine := by rw [← r1.len]; exact Nat.le_of_lt (lim_size hq)
      refine ⟨hl, fun p hp _ => ?_⟩
      obtain ⟨q1, q2, q3⟩ := done_newT S1 r1 hp hl
      exact k _ _ md q1 q3 (x1.trans q2)
    · cases hf
  · cases hf
theorem r_lst (h : PA X es (tPA G ro l)) : PE X (.List es pos) (tP G ro (pLst l)) := PE.weak (PE.bnd (pe_lst h)) fun σ H Q ⟨R, w, e, m, d, e0, S, hf, k⟩ => by
  unfold pLst at hf
  split at hf
  · rename_i ds hds
    split at hf
    · rename_i hq
      cases hf
      refine ⟨R, w, e, m, ds, e0, S, hds, fun vs w1 md S1 r1 x1 => ?_⟩
      have hl : vs.length ≤ sizeLine := by rw [← r1.len]; exact Nat.le_of_lt (lim_size hq)
      refine ⟨hl, fun p hp _ => ?_⟩
      obtain ⟨q1, q2, q3⟩ := done_newL S1 r1 hp hl
      exact k _ _ _ q1 q3 (x1.trans q2)
    · cases hf
  · cases hf
theorem r_tupM {x1} (h : PA X es (tMA G ro lm)) : PE X (.Tuple es x1 pos) (tM G ro (mTup lm)) := PE.weak (PE.bnd (pe_tup h)) fun σ H Q ⟨R, w, e, m, d, e', e0, S, hf, k⟩ => by
  unfold mTup at hf
  split at hf
  · rename_i ds e1 hds
    split at hf
    · rename_i hq
      cases hf
      refine ⟨R, w, e, m, ds, e', e0, S, hds, fun vs w1 md m1 S1 r1 x1 => ?_⟩
      have hl : vs.length ≤ sizeLine := by rw [← r1.len]; exact Nat.le_of_lt (lim_size hq)
      refine ⟨hl, fun p hp _ => ?_⟩
      obtain ⟨q1, q2, q3⟩ := done_newT S1 r1 hp hl
      exact k _ _ md m1 q1 q3 (Ext.afterM x1 q2)
    · cases hf
  · cases hf
theorem r_lstM (h : PA X es (tMA G ro lm)) : PE X (.List es pos) (tM G ro (mLst lm)) := PE.weak (PE.bnd (pe_lst h)) fun σ H Q ⟨R, w, e, m, d, e', e0, S, hf, k⟩ => by
  unfold mLst at hf
  split at hf
  · rename_i ds e1 hds
    split at hf
    · rename_i hq
      cases hf
      refine ⟨R, w, e, m, ds, e', e0, S, hds, fun vs w1 md m1 S1 r1 x1 => ?_⟩
      have hl : vs.length ≤ sizeLine := by rw [← r1.len]; exact Nat.le_of_lt (lim_size hq)
      refine ⟨hl, fun p hp _ => ?_⟩
      obtain ⟨q1, q2, q3⟩ := done_newL S1 r1 hp hl
      exact k _ _ _ m1 q1 q3 (Ext.afterM x1 q2)
    · cases hf
  · cases hf
/-! ### calls of built-ins by values -/
def gC (g : List D → Option D) (l : EvL) : Ev := fun e => match l e with
  | some ds => g ds
  | none => none
def gCM (g : List D → Option D) (l : EvLM) : EvM := fun e => match l e with
  | some (ds, e') => match g ds with
    | some d => some (d, e')
    | none => none
  | none => none
/-- a call by trees -/
def rC (G : Gen) (g : List D → Option D) : List V → Hp → VK → Prop := fun vs H Q => ∃ w ds d, w.h = H ∧ World G w ∧ RepA G w ds vs ∧ g ds = some d ∧
  ∀ v w' md, World G w' → Rep G w' d v md → Own w' md → Ext Fp.zero w w' md → Q v w'.h
theorem RepL.repA {w : Wd} : ∀ {ds : List D} {vs : List V} {m : Fp}, Own w m → RepL G w ds vs m → RepA G w ds vs
  | [], vs, m, o, h => by simp only [RepL] at h; exact h.1
  | d :: ds, vs, m, o, h => by
    simp only [RepL] at h
    obtain ⟨v, vs', m1, m2, rfl, h1, h2, rfl⟩ := h
    exact ⟨v, vs', m1, rfl, h1, o.left, RepL.repA o.right h2⟩
theorem cc {gg : List D → Option D} {σ : L2.St} {H : Hp} {Q : VK} (h : tP G ro (gC gg l) σ H Q) : tCB (rC G gg) (tBA G ro l) σ H Q := by
  obtain ⟨R, w, e, m, d, e0, S, hf, k⟩ := h
  unfold gC at hf
  split at hf
  · rename_i ds hds
    refine ⟨R, w, e, m, ds, e0, S, hds, fun vs w1 S1 r1 x1 => ?_⟩
    exact ⟨w1, ds, d, rfl, S1.world, r1, hf, fun v w' md W' r o x => k v w' md (S1.step x W' o) r (x1.trans x)⟩
  · cases hf
theorem ccM {gg : List D → Option D} {σ : L2.St} {H : Hp} {Q : VK} (h : tM G ro (gCM gg lm) σ H Q) : tCB (rC G gg) (tMA G ro lm) σ H Q := by
  obtain ⟨R, w, e, m, d, e', e0, S, hf, k⟩ := h
  unfold gCM at hf
  split at hf
  · rename_i ds e1 hds
    split at hf
    · rename_i d' hg
      cases hf
      refine ⟨R, w, e, m, ds, e', e0, S, hds, fun vs w1 md1 m1 S1 r1 x1 => ?_⟩
      refine ⟨w1, ds, d, rfl, S1.world, RepL.repA S1.own.right r1, hg, fun v w' md W' r o x => ?_⟩
      exact k v w' md m1 (S1.zero.step x W' o) r (x1.trans ((x.frame (m := m1)).more fun b q => by simp at *; omega))
    · cases hf
  · cases hf
variable {x : Str} {p : Pos} {id T : String} {gg : List D → Option D}
theorem r_callB (hc : CallR X (.builtin id) (rC G gg)) (hm : X.mg x = none) (hv : bootBuiltins x = some (.builtin id)) (hg : Gl X x) (ha : PA X (e :: es) (tBA G ro l)) (hn : x ≠ "__name__" := by decide) (hdb : (x == ("__debug__" : Str)) = false := by decide)
    (he : starEach (e :: es) X.env = (false, eval e X.env) :: starEach es X.env := by rfl) (hpl : (backTo pos (starEach es X.env)).any (·.1) = false := by rfl) : PE X (.Call (.Name x p) (e :: es) [] pos) (tP G ro (gC gg l)) :=
  PE.weak (pe_callB hc hg hm hv ha hn hdb he hpl) fun _ _ _ => cc
theorem r_callT (hc : CallR X (.type T) (rC G gg)) (hm : X.mg x = none) (hv : bootBuiltins x = some (.type T)) (hg : Gl X x) (ha : PA X (e :: es) (tBA G ro l)) (hn : x ≠ "__name__" := by decide) (hdb : (x == ("__debug__" : Str)) = false := by decide)
    (he : starEach (e :: es) X.env = (false, eval e X.env) :: starEach es X.env := by rfl) (hpl : (backTo pos (starEach es X.env)).any (·.1) = false := by rfl) : PE X (.Call (.Name x p) (e :: es) [] pos) (tP G ro (gC gg l)) :=
  PE.weak (pe_callTy hc hg hm hv ha hn hdb he hpl) fun _ _ _ => cc
theorem r_callBM (hc : CallR X (.builtin id) (rC G gg)) (hm : X.mg x = none) (hv : bootBuiltins x = some (.builtin id)) (hg : Gl X x) (ha : PA X (e :: es) (tMA G ro lm)) (hn : x ≠ "__name__" := by decide) (hdb : (x == ("__debug__" : Str)) = false := by decide)
    (he : starEach (e :: es) X.env = (false, eval e X.env) :: starEach es X.env := by rfl) (hpl : (backTo pos (starEach es X.env)).any (·.1) = false := by rfl) : PE X (.Call (.Name x p) (e :: es) [] pos) (tM G ro (gCM gg lm)) :=
  PE.weak (pe_callB hc hg hm hv ha hn hdb he hpl) fun _ _ _ => ccM
theorem r_callTM (hc : CallR X (.type T) (rC G gg)) (hm : X.mg x = none) (hv : bootBuiltins x = some (.type T)) (hg : Gl X x) (ha : PA X (e :: es) (tMA G ro lm)) (hn : x ≠ "__name__" := by decide) (hdb : (x == ("__debug__" : Str)) = false := by decide)
    (he : starEach (e :: es) X.env = (false, eval e X.env) :: starEach es X.env := by rfl) (hpl : (backTo pos (starEach es X.env)).any (·.1) = false := by rfl) : PE X (.Call (.Name x p) (e :: es) [] pos) (tM G ro (gCM gg lm)) :=
  PE.weak (pe_callTy hc hg hm hv ha hn hdb he hpl) fun _ _ _ => ccM
end
end
end TL
end
section
set_option maxRecDepth 100000
/-! The tree layer, part K: tests that change trees; statements; targets; while. -/
namespace TL
open PySem PySem.Spec PyProof.Rows L2
section
variable {X : Cx} {G : Gen} {ro fx : Nat → Bool} {e a b c : Expr} {pos : Pos} {h h1 h2 : EvM} {q q1 q2 : EvTM}

/-! ### tests that may change the frame's trees -/
def mT (t : EvT) : EvTM := fun e => match t e with
  | some k => some (k, e)
  | none => none
theorem QM {t : EvT} (ht : PT X e (tT G ro t)) : PT X e (tTM G ro (mT t)) := PT.weak ht fun σ H Q ⟨R, w, e, m, k, e', e0, S, hf, kk⟩ => by
  unfold mT at hf
  split at hf
  · rename_i b q
    cases hf
    refine ⟨R, w, e, m, _, e0, S, q, fun w' S' x => kk w' m S' ?_⟩
    have := x.frame (m := m)
    rwa [Fp.add_zero] at this
  · cases hf
def fTM (h : EvM) : EvTM := fun e => match h e with
  | some (.bl k, e') => some (k, e')
  | _ => none
theorem tTM_of {t : TE} {σ : L2.St} {H : Hp} {Q : Bool → Hp → Prop} (ht : ∀ Q', tM G ro h σ H Q' → t σ H Q') (hh : tTM G ro (fTM h) σ H Q) : t σ H fun x H1 => ∃ c, x = .bl c ∧ Q c H1 := by
  obtain ⟨R, w, e, m, b, e', e0, S, hf, k⟩ := hh
  unfold fTM at hf
  split at hf
  · rename_i k' e1 hd
    cases hf
    exact ht _ ⟨R, w, e, m, _, _, e0, S, hd, fun v w' md m' S' r x => ⟨b, r.bl, k w' m' S'.zero (x.less fun b q => by simp; omega)⟩⟩
  · cases hf
theorem qM_val (hh : PE X e (tM G ro h)) (he : ∀ whole, isTrue e X.env whole = (do let v ← whole; standAt e.pos; holding [v] (truthy v)) := by intro _; rfl) : PT X e (tTM G ro (fTM h)) := PT.weak (pt_val hh he) fun σ H Q q => tTM_of (fun _ x => x) q
theorem qM_cmp {op : CmpOp} {g : D → D → Option D} (o : OpR X (compareOp op) (r2 G g)) (ha : PE X a (tM G ro h1)) (hb : PE X b (tM G ro h2)) (hm : behindInMarks op b = false := by first | exact nomark _ | rfl) : PT X (.Compare a [op] [b] pos) (tTM G ro (fTM (m2 g h1 h2))) :=
  PT.weak (pt_cmpR o ha hb hm) fun σ H Q q => tTM_of (fun _ x => mm2 x) q
def mAndF (f1 f2 : EvTM) : EvTM := fun e => match f1 e with
  | some (true, e1) => f2 e1
  | some (false, e1) => some (false, e1)
  | none => none
def mOrF (f1 f2 : EvTM) : EvTM := fun e => match f1 e with
  | some (true, e1) => some (true, e1)
  | some (false, e1) => f2 e1
  | none => none
def mNotF (f : EvTM) : EvTM := fun e => match f e with
  | some (b, e1) => some (!b, e1)
  | none => none
variable {rest : List Expr}
theorem qM_and1 (h : PT X a (tTM G ro q)) : PW X (.BoolOp .And [a] pos) (tTM G ro q) := pw_and1 h
theorem qM_or1 (h : PT X a (tTM G ro q)) : PW X (.BoolOp .Or [a] pos) (tTM G ro q) := pw_or1 h
theorem qM_and (h1 : PT X a (tTM G ro q1)) (h2 : PW X (.BoolOp .And (b :: rest) pos) (tTM G ro q2)) : PW X (.BoolOp .And (a :: b :: rest) pos) (tTM G ro (mAndF q1 q2)) := PW.weak (pw_and h1 h2) fun σ H Q ⟨R, w, e, m, k, e', e0, S, hf, kk⟩ => by
  unfold mAndF at hf
  split at hf
  · rename_i q
    exact ⟨R, w, e, m, true, _, e0, S, q, fun w' m' S' x => iteT (⟨R, w', _, m', k, e', rfl, S', hf, fun w2 m2 S2 x2 => kk w2 m2 S2 (x.trans x2)⟩)⟩
  · rename_i q
    cases hf
    exact ⟨R, w, e, m, false, _, e0, S, q, fun w' m' S' x => iteF (kk w' m' S' x)⟩
  · cases hf
theorem qM_or (h1 : PT X a (tTM G ro q1)) (h2 : PW X (.BoolOp .Or (b :: rest) pos) (tTM G ro q2)) : PW X (.BoolOp .Or (a :: b :: rest) pos) (tTM G ro (mOrF q1 q2)) := PW.weak (pw_or h1 h2) fun σ H Q ⟨R, w, e, m, k, e', e0, S, hf, kk⟩ => by
  unfold mOrF at hf
  split at hf
  · rename_i q
    cases hf
    exact ⟨R, w, e, m, true, _, e0, S, q, fun w' m' S' x => iteT (kk w' m' S' x)⟩
  · rename_i q
    exact ⟨R, w, e, m, false, _, e0, S, q, fun w' m' S' x => iteF (⟨R, w', _, m', k, e', rfl, S', hf, fun w2 m2 S2 x2 => kk w2 m2 S2 (x.trans x2)⟩)⟩
  · cases hf
theorem qM_not (h1 : PT X a (tTM G ro q1)) : PT X (.UnaryOp .Not a pos) (tTM G ro (mNotF q1)) := PT.weak (pt_not h1) fun σ H Q ⟨R, w, e, m, k, e', e0, S, hf, kk⟩ => by
  unfold mNotF at hf
  split at hf
  · rename_i q
    cases hf
    exact ⟨R, w, e, m, _, _, e0, S, q, fun w' m' S' x => kk w' m' S' x⟩
  · cases hf
/-! ### the same as values -/
def mAnd (f1 f2 : EvM) : EvM := fun e => match f1 e with
  | some (.bl true, e1) => f2 e1
  | some (.bl false, e1) => some (.bl false, e1)
  | _ => none
def mOr (f1 f2 : EvM) : EvM := fun e => match f1 e with
  | some (.bl true, e1) => some (.bl true, e1)
  | some (.bl false, e1) => f2 e1
  | _ => none
def mNot (f : EvM) : EvM := fun e => match f e with
  | some (.bl b, e1) => some (.bl (!b), e1)
  | _ => none
def mIf (t : EvTM) (f1 f2 : EvM) : EvM := fun e => match t e with
  | some (true, e1) => f1 e1
  | some (false, e1) => f2 e1
  | none => none
theorem Ext.dropM {w w' : Wd} {m m' md : Fp} (x : Ext m w w' (Fp.add m' md)) : Ext m w w' m' := x.less fun b q => by simp; omega
theorem rM_one {op} (h1 : PE X a (tM G ro h)) : PE X (.BoolOp op [a] pos) (tM G ro h) := pe_one h1
theorem rM_and (p1 : PE X a (tM G ro h1)) (p2 : PE X (.BoolOp .And (b :: rest) pos) (tM G ro h2)) : PE X (.BoolOp .And (a :: b :: rest) pos) (tM G ro (mAnd h1 h2)) := PE.weak (pe_and p1 p2) fun σ H Q ⟨R, w, e, m, d, e', e0, S, hf, k⟩ => by
  unfold mAnd at hf
  split at hf
  · rename_i q
    exact ⟨R, w, e, m, _, _, e0, S, q, fun v w' md m' S' r x => ⟨true, r.bl, iteT (⟨R, w', _, m', d, e', rfl, S'.zero, hf, fun v2 w2 md2 m2 S2 r2 x2 => k v2 w2 md2 m2 S2 r2 (x.dropM.trans x2)⟩)⟩⟩
  · rename_i q
    cases hf
    exact ⟨R, w, e, m, _, _, e0, S, q, fun v w' md m' S' r x => ⟨false, r.bl, iteF (k _ w' Fp.zero m' S'.zero Rep.mkBl (by rw [Fp.add_zero]; exact x.dropM))⟩⟩
  · cases hf
theorem rM_or (p1 : PE X a (tM G ro h1)) (p2 : PE X (.BoolOp .Or (b :: rest) pos) (tM G ro h2)) : PE X (.BoolOp .Or (a :: b :: rest) pos) (tM G ro (mOr h1 h2)) := PE.weak (pe_or p1 p2) fun σ H Q ⟨R, w, e, m, d, e', e0, S, hf, k⟩ => by
  unfold mOr at hf
  split at hf
  · rename_i q
    cases hf
    exact ⟨R, w, e, m, _, _, e0, S, q, fun v w' md m' S' r x => ⟨true, r.bl, iteT (k _ w' Fp.zero m' S'.zero Rep.mkBl (by rw [Fp.add_zero]; exact x.dropM))⟩⟩
  · rename_i q
    exact ⟨R, w, e, m, _, _, e0, S, q, fun v w' md m' S' r x => ⟨false, r.bl, iteF (⟨R, w', _, m', d, e', rfl, S'.zero, hf, fun v2 w2 md2 m2 S2 r2 x2 => k v2 w2 md2 m2 S2 r2 (x.dropM.trans x2)⟩)⟩⟩
  · cases hf
theorem rM_not (p1 : PE X a (tM G ro h)) : PE X (.UnaryOp .Not a pos) (tM G ro (mNot h)) := PE.weak (pe_not p1) fun σ H Q ⟨R, w, e, m, d, e', e0, S, hf, k⟩ => by
  unfold mNot at hf
  split at hf
  · rename_i b' e1 q
    cases hf
    exact ⟨R, w, e, m, _, _, e0, S, q, fun v w' md m' S' r x => ⟨b', r.bl, k _ w' Fp.zero m' S'.zero Rep.mkBl (by rw [Fp.add_zero]; exact x.dropM)⟩⟩
  · cases hf
theorem rM_if (ht : PT X c (tTM G ro q)) (p1 : PE X a (tM G ro h1)) (p2 : PE X b (tM G ro h2)) : PE X (.IfExp c a b pos) (tM G ro (mIf q h1 h2)) := PE.weak (pe_ifExp ht p1 p2) fun σ H Q ⟨R, w, e, m, d, e', e0, S, hf, k⟩ => by
  unfold mIf at hf
  split at hf
  · rename_i q
    exact ⟨R, w, e, m, true, _, e0, S, q, fun w' m' S' x => iteT (⟨R, w', _, m', d, e', rfl, S', hf, fun v2 w2 md2 m2 S2 r2 x2 => k v2 w2 md2 m2 S2 r2 (x.trans x2)⟩)⟩
  · rename_i q
    exact ⟨R, w, e, m, false, _, e0, S, q, fun w' m' S' x => iteF (⟨R, w', _, m', d, e', rfl, S', hf, fun v2 w2 md2 m2 S2 r2 x2 => k v2 w2 md2 m2 S2 r2 (x.trans x2)⟩)⟩
  · cases hf

/-! ### statements -/
variable {st : Stmt} {sts : List Stmt} {f g : EvS}
def sNil : EvS := fun e => some (.nx, e)
def sNever : EvS := fun _ => none
def sSeq (f g : EvS) : EvS := fun e => match f e with
  | some (.nx, e1) => g e1
  | some (.bk, e1) => some (.bk, e1)
  | some (.rt d, e1) => some (.rt d, e1)
  | none => none
def sIf (q : EvTM) (f g : EvS) : EvS := fun e => match q e with
  | some (true, e1) => f e1
  | some (false, e1) => g e1
  | none => none
def sDrop (h : EvM) : EvS := fun e => match h e with
  | some (_, e1) => some (.nx, e1)
  | none => none
def sRet (h : EvM) : EvS := fun e => match h e with
  | some (d, e1) => some (.rt d, e1)
  | none => none
def sRetN : EvS := fun e => some (.rt .non, e)
def sBrk : EvS := fun e => some (.bk, e)
theorem s_nil : PSs X [] (tS G ro fx sNil) := PSs.weak pss_nil fun Dn σ H ⟨R, w, e, m, o, e', e0, S, hf, k⟩ => by
  cases hf; subst e0
  exact k w σ m S (Ext.refl _ _) fun _ _ => rfl
theorem s_pass : PS X (.Pass pos) (tS G ro fx sNil) := PS.weak ps_pass fun Dn σ H ⟨R, w, e, m, o, e', e0, S, hf, k⟩ => by
  cases hf; subst e0
  exact k w σ m S (Ext.refl _ _) fun _ _ => rfl
theorem s_brk : PS X (.Break pos) (tS G ro fx sBrk) := PS.weak ps_break fun Dn σ H ⟨R, w, e, m, o, e', e0, S, hf, k⟩ => by
  cases hf; subst e0
  exact k w σ m S (Ext.refl _ _) fun _ _ => rfl
theorem s_never : PS X st (tS G ro fx sNever) := PS.weak ps_never fun Dn σ H ⟨R, w, e, m, o, e', e0, S, hf, k⟩ => by cases hf
theorem s_doc {x j pos pos'} : PS X (.Expr (.Constant (.str x) j pos) pos') (tS G ro fx sNil) := PS.weak ps_doc fun Dn σ H ⟨R, w, e, m, o, e', e0, S, hf, k⟩ => by
  cases hf; subst e0
  exact k w σ m S (Ext.refl _ _) fun _ _ => rfl
/-- a statement's end seen from an earlier state -/
theorem tS_from {R : List RoE} {w w1 : Wd} {e1 : List D} {σ σ1 : L2.St} {m m1 : Fp} {o : Out} {e' : List D} {Dn : Ends} (x : Ext m w w1 m1) (fk : ∀ i, fx i = true → σ1[i]? = σ[i]?) (S1 : SK G ro R w1 e1 σ1 m1 Fp.zero) (hg : f e1 = some (o, e'))
    (k : EndS G ro fx R w m σ Dn e' o) : tS G ro fx f Dn σ1 w1.h := by
  refine ⟨R, w1, e1, m1, o, e', rfl, S1, hg, ?_⟩
  cases o with
  | nx => exact fun w' σ' m' S' x' fk' => k w' σ' m' S' (x.trans x') fun i hi => (fk' i hi).trans (fk i hi)
  | bk => exact fun w' σ' m' S' x' fk' => k w' σ' m' S' (x.trans x') fun i hi => (fk' i hi).trans (fk i hi)
  | rt d => exact fun v w' σ' m' md S' r x' fk' => k v w' σ' m' md S' r (x.trans x') fun i hi => (fk' i hi).trans (fk i hi)
theorem s_cons (p1 : PS X st (tS G ro fx f)) (p2 : PSs X sts (tS G ro fx g)) : PSs X (st :: sts) (tS G ro fx (sSeq f g)) := PSs.weak (pss_cons p1 p2) fun Dn σ H ⟨R, w, e, m, o, e', e0, S, hf, k⟩ => by
  unfold sSeq at hf
  split at hf
  · rename_i e1 q
    exact ⟨R, w, e, m, .nx, e1, e0, S, q, fun w1 σ1 m1 S1 x1 fk => tS_from x1 fk S1 hf k⟩
  · rename_i e1 q
    cases hf
    exact ⟨R, w, e, m, .bk, _, e0, S, q, k⟩
  · rename_i d e1 q
    cases hf
    exact ⟨R, w, e, m, .rt d, _, e0, S, q, k⟩
  · cases hf
theorem s_one (p1 : PS X st (tS G ro fx f)) : PSs X [st] (tS G ro fx f) := pss_one p1
theorem s_if {sa sb : List Stmt} (hc : PT X c (tTM G ro q)) (pa : PSs X sa (tS G ro fx f)) (pb : PSs X sb (tS G ro fx g)) : PS X (.If c sa sb pos) (tS G ro fx (sIf q f g)) := PS.weak (ps_if hc pa pb) fun Dn σ H ⟨R, w, e, m, o, e', e0, S, hf, k⟩ => by
  unfold sIf at hf
  split at hf
  · rename_i e1 q
    exact ⟨R, w, e, m, true, e1, e0, S, q, fun w1 m1 S1 x1 => iteT (tS_from x1 (fun _ _ => rfl) S1 hf k)⟩
  · rename_i e1 q
    exact ⟨R, w, e, m, false, e1, e0, S, q, fun w1 m1 S1 x1 => iteF (tS_from x1 (fun _ _ => rfl) S1 hf k)⟩
  · cases hf
theorem s_expr (he : PE X e (tM G ro h)) (hs : swapsWith e none pos.line X.env = pure false := by rfl) : PS X (.Expr e pos) (tS G ro fx (sDrop h)) := PS.weak (ps_expr he hs) fun Dn σ H ⟨R, w, e, m, o, e', e0, S, hf, k⟩ => by
  unfold sDrop at hf
  split at hf
  · rename_i d e1 q
    cases hf
    exact ⟨R, w, e, m, d, _, e0, S, q, fun v w1 md m1 S1 r x1 => k w1 σ m1 S1.zero x1.dropM fun _ _ => rfl⟩
  · cases hf
theorem s_ret (he : PE X e (tM G ro h)) : PS X (.Return (some e) pos) (tS G ro fx (sRet h)) := PS.weak (ps_ret he) fun Dn σ H ⟨R, w, e, m, o, e', e0, S, hf, k⟩ => by
  unfold sRet at hf
  split at hf
  · rename_i d e1 q
    cases hf
    exact ⟨R, w, e, m, d, _, e0, S, q, fun v w1 md m1 S1 r x1 => k v w1 σ m1 md S1 r x1 fun _ _ => rfl⟩
  · cases hf
theorem s_retN : PS X (.Return none pos) (tS G ro fx sRetN) := PS.weak ps_retN fun Dn σ H ⟨R, w, e, m, o, e', e0, S, hf, k⟩ => by
  cases hf; subst e0
  exact k .non w σ m Fp.zero S Rep.mkNon (by rw [Fp.add_zero]; exact Ext.refl _ _) fun _ _ => rfl

/-! ### targets -/
/-- a value stored under a name; what else is held stays held -/
theorem SK.put {R : List RoE} {w : Wd} {e : List D} {σ : L2.St} {m md k : Fp} {i : Nat} {d : D} {v : V} (S : SK G ro R w e σ m (Fp.add md k)) (r : Rep G w d v md) (hr : ro i = false) (hi : i < e.length) :
    ∃ m', SK G ro R w (e.set i d) (σ.set i (some v)) m' k ∧ ∀ b, m' b ≤ m b + md b := by
  obtain ⟨m2, f, l⟩ := S.fr.put (i := i) (d := d) (v := v) (by rw [maskN_len]; exact hi) r
  refine ⟨Fp.add md m2, ⟨S.world, S.own.le fun b => by have := l b; simp; omega, by rw [mask_set hr]; exact f, fun q hq => ?_, S.cov⟩, fun b => by have := l b; simp; omega⟩
  have a := S.ros q hq
  have ne : q.i ≠ i := fun z => by
    have z' := S.cov.2 q hq
    rw [z, hr] at z'; cases z'
  refine ⟨by rw [List.getElem?_set_ne (Ne.symm ne)]; exact a.ed, by rw [List.getElem?_set_ne (Ne.symm ne)]; exact a.sv, a.rep, a.own, fun b => ?_⟩
  have h1 := a.apart b
  have h2 := l b
  simp at *; omega
/-- a target: where a value goes -/
abbrev EvG := D → List D → Option (List D)
def tGt (G : Gen) (ro fx : Nat → Bool) (g : EvG) : TG := fun v σ H Q => ∃ R w e m d md e', w.h = H ∧ SK G ro R w e σ m md ∧ Rep G w d v md ∧ g d e = some e' ∧
  ∀ w' σ' m', SK G ro R w' e' σ' m' Fp.zero → Ext (Fp.add m md) w w' m' → (∀ i, fx i = true → σ'[i]? = σ[i]?) → Q σ' w'.h
theorem PG.weak {tg : Expr} {t t' : TG} (h : PG X tg t) (w : ∀ v σ H Q, t' v σ H Q → t v σ H Q) : PG X tg t' := ⟨fun pins s σ H v u Q I r q => h.run pins s σ H v u Q I r (w _ _ _ _ q)⟩
def gNm (i : Nat) : EvG := fun d e => if i < e.length then some (e.set i d) else none
theorem get_set_fx {fx : Nat → Bool} {σ : L2.St} {i : Nat} {s : Option V} (hf : fx i = false) : ∀ j, fx j = true → (σ.set i s)[j]? = σ[j]? := fun j hj => by
  by_cases q : i = j
  · subst q; rw [hf] at hj; cases hj
  · exact List.getElem?_set_ne q
theorem g_name (i : Nat) {x : Str} (hN : X.N.Nodup) (hr : ro i = false := by rfl) (hf : fx i = false := by rfl) (hi : X.N[i]? = some x := by rfl) (hx : Loc X.env.scope x := by first | exact Or.inl rfl | exact Or.inr rfl)
    (hl : X.fn x = true ∨ X.env.scope.names.lookup x = some .local := by first | exact .inl rfl | exact .inr rfl) : PG X (.Name x pos) (tGt G ro fx (gNm i)) := PG.weak (pg_name hN hi hx hl) fun v σ H Q ⟨R, w, e, m, d, md, e', e0, S, r, hg, k⟩ => by
  unfold gNm at hg
  split at hg
  · rename_i hl
    cases hg
    subst e0
    obtain ⟨m', S', l⟩ := SK.put (k := Fp.zero) (by rw [Fp.add_zero]; exact S) r hr hl
    exact k w _ m' S' ((Ext.refl _ _).less fun b q => by have := l b; simp; omega) (get_set_fx hf)
  · cases hg
/-- names, one after another -/
def putsD : List Nat → List D → List D → Option (List D)
  | [], [], e => some e
  | i :: is, d :: ds, e => if i < e.length then putsD is ds (e.set i d) else none
  | _, _, _ => none
def gNs : List Nat → TGs
  | [] => gNil
  | i :: is => gCons (gName i) (gNs is)
def noR (ro : Nat → Bool) : List Nat → Bool
  | [] => true
  | i :: is => !ro i && noR ro is
theorem puts_ok {Q : L2.St → Hp → Prop} {e' : List D} : ∀ (is : List Nat) {R : List RoE} {w : Wd} {ds : List D} {vs : List V} {e : List D} {σ : L2.St} {m md : Fp}, noR ro is = true → noR fx is = true → SK G ro R w e σ m md → RepL G w ds vs md → putsD is ds e = some e' →
    (∀ σ' m', SK G ro R w e' σ' m' Fp.zero → (∀ b, m' b ≤ m b + md b) → (∀ i, fx i = true → σ'[i]? = σ[i]?) → Q σ' w.h) → gNs is vs σ w.h Q
  | [], R, w, ds, vs, e, σ, m, md, h1, h2, S, r, hp, k => by
    cases ds with
    | nil =>
      cases hp
      simp only [RepL] at r
      obtain ⟨rfl, rfl⟩ := r
      exact ⟨rfl, k σ m S (fun b => by simp) fun _ _ => rfl⟩
    | cons d ds => simp [putsD] at hp
  | i :: is, R, w, ds, vs, e, σ, m, md, h1, h2, S, r, hp, k => by
    cases ds with
    | nil => simp [putsD] at hp
    | cons d ds =>
      simp only [putsD] at hp
      split at hp
      · rename_i hl
        simp only [noR, Bool.and_eq_true, Bool.not_eq_true'] at h1 h2
        simp only [RepL] at r
        obtain ⟨v, vs', m1, m2, rfl, r1, r2, rfl⟩ := r
        obtain ⟨m', S', l⟩ := SK.put S r1 h1.1 hl
        refine ⟨v, vs', rfl, puts_ok is h1.2 h2.2 S' r2 hp fun σ' m'' S'' l' fk => k σ' m'' S'' (fun b => ?_) fun j hj => (fk j hj).trans (get_set_fx h2.1 j hj)⟩
        have := l b; have := l' b; simp; omega
      · cases hp
def gTp (is : List Nat) : EvG := fun d e => match d with
  | .tup ds => putsD is ds e
  | _ => none
theorem putsD_len : ∀ {is : List Nat} {ds e e' : List D}, putsD is ds e = some e' → ds.length = is.length
  | [], [], _, _, _ => rfl
  | [], d :: ds, _, _, h => by simp [putsD] at h
  | i :: is, [], _, _, h => by simp [putsD] at h
  | i :: is, d :: ds, e, e', h => by
    simp only [putsD] at h
    split at h
    · simp [putsD_len h]
    · cases h
theorem g_tup {es : List Expr} {k n : Nat} (is : List Nat) (F : Fit X G) (hp : PGs X es (gNs is)) (hn : n = is.length := by rfl) (h1 : noR ro is = true := by rfl) (h2 : noR fx is = true := by rfl)
    (hn' : (assignEach es X.env).length = n := by rfl) (hst : (assignEach es X.env).findIdx? (·.1) = none := by rfl) : PG X (.Tuple es k pos) (tGt G ro fx (gTp is)) := PG.weak (pg_tup F.calm hp hn' hst) fun v σ H Q ⟨R, w, e, m, d, md, e', e0, S, r, hg, kk⟩ => by
  unfold gTp at hg
  split at hg
  · rename_i ds
    subst e0
    simp only [Rep] at r
    obtain ⟨a, vs, rfl, ha, r2⟩ := r
    rw [← F.K] at ha
    refine ⟨a, vs, rfl, ha, by rw [hn, ← r2.len, putsD_len hg], puts_ok is h1 h2 S r2 hg fun σ' m' S' l fk => kk w σ' m' S' ((Ext.refl _ _).less fun b q => by have := l b; simp; omega) fk⟩
  · cases hg
/-- target = value -/
def sAsg (h : EvM) (g : EvG) : EvS := fun e => match h e with
  | some (d, e1) => match g d e1 with
    | some e2 => some (.nx, e2)
    | none => none
  | none => none
theorem asg_ok {te : TE} {tg : TG} {gg : EvG} {Dn : Ends} {σ : L2.St} {H : Hp} (he : ∀ Q, tM G ro h σ H Q → te σ H Q) (hg : ∀ v σ H Q, tGt G ro fx gg v σ H Q → tg v σ H Q) (hs : tS G ro fx (sAsg h gg) Dn σ H) : tAsg te tg Dn σ H := by
  obtain ⟨R, w, e, m, o, e', e0, S, hf, k⟩ := hs
  unfold sAsg at hf
  split at hf
  · rename_i d e1 hd
    split at hf
    · rename_i e2 hg2
      cases hf
      exact he _ ⟨R, w, e, m, d, e1, e0, S, hd, fun v w1 md m1 S1 r1 x1 => hg _ _ _ _ ⟨R, w1, e1, m1, d, md, _, rfl, S1, r1, hg2, fun w' σ' m' S' x' fk => k w' σ' m' S' (x1.trans x') fk⟩⟩
    · cases hf
  · cases hf
theorem s_asg {tg : Expr} {gg : EvG} (he : PE X e (tM G ro h)) (hg : PG X tg (tGt G ro fx gg)) (hs : swapsWithSole [tg] e pos.line X.env = pure false := by rfl) (hw : swappedStores [tg] e X.env = pure none := by rfl)
    (h1 : (assignEach [tg] X.env).map (·.2) = [assign tg X.env] := by rfl) : PS X (.Assign [tg] e pos) (tS G ro fx (sAsg h gg)) := PS.weak (ps_asg he hg hs hw h1) fun Dn σ H q => asg_ok (fun _ z => z) (fun _ _ _ _ z => z) q
/-- name = value -/
theorem s_set (i : Nat) {x : Str} {pos' : Pos} (hN : X.N.Nodup) (he : PE X e (tM G ro h)) (hr : ro i = false := by rfl) (hf : fx i = false := by rfl) (hi : X.N[i]? = some x := by rfl) (hx : Loc X.env.scope x := by first | exact Or.inl rfl | exact Or.inr rfl)
    (hs : swapsWith e (some (.Name x pos')) pos.line X.env = pure false := by rfl) (hl : X.fn x = true ∨ X.env.scope.names.lookup x = some .local := by first | exact .inl rfl | exact .inr rfl) :
    PS X (.Assign [.Name x pos'] e pos) (tS G ro fx (sAsg h (gNm i))) := PS.weak (ps_set hN hi hx he hs hl) fun Dn σ H q => asg_ok (fun _ z => z) (fun v σ H Q ⟨R, w, e, m, d, md, e', e0, S, r, hg, k⟩ => by
      unfold gNm at hg
      split at hg
      · rename_i hl
        cases hg
        subst e0
        obtain ⟨m', S', l⟩ := SK.put (k := Fp.zero) (by rw [Fp.add_zero]; exact S) r hr hl
        exact k w _ m' S' ((Ext.refl _ _).less fun b q => by have := l b; simp; omega) (get_set_fx hf)
      · cases hg) q
/-- a, b = x, y: names -/
def sPar (is : List Nat) (l : EvLM) : EvS := fun e => match l e with
  | some (ds, e1) => match putsD is ds e1 with
    | some e2 => some (.nx, e2)
    | none => none
  | none => none
theorem RepL.two {w : Wd} {ds : List D} {vs : List V} {m : Fp} (h : RepL G w ds vs m) (hl : ds.length = 2) : ∃ v1 v2, vs = [v1, v2] := by
  have := h.len
  match vs, hl.symm.trans this with
  | [a, b], _ => exact ⟨a, b, rfl⟩
theorem RepL.three {w : Wd} {ds : List D} {vs : List V} {m : Fp} (h : RepL G w ds vs m) (hl : ds.length = 3) : ∃ v1 v2 v3, vs = [v1, v2, v3] := by
  have := h.len
  match vs, hl.symm.trans this with
  | [a, b, c], _ => exact ⟨a, b, c, rfl⟩
theorem gNs_two {i j : Nat} {v1 v2 : V} {σ : L2.St} {H : Hp} {Q : L2.St → Hp → Prop} (h : gNs [i, j] [v1, v2] σ H Q) : Q ((σ.set i (some v1)).set j (some v2)) H := by
  obtain ⟨_, _, e1, _, _, e2, e3, h⟩ := h
  cases e1; cases e2
  exact h
theorem gNs_three {i j l : Nat} {v1 v2 v3 : V} {σ : L2.St} {H : Hp} {Q : L2.St → Hp → Prop} (h : gNs [i, j, l] [v1, v2, v3] σ H Q) : Q (((σ.set i (some v1)).set j (some v2)).set l (some v3)) H := by
  obtain ⟨_, _, e1, _, _, e2, _, _, e3, e4, h⟩ := h
  cases e1; cases e2; cases e3
  exact h
theorem s_par {x y : Str} {px py pt : Pos} {kt k2 pt2} {lm : EvLM} (i j : Nat) (F : Fit X G) (hN : X.N.Nodup) (ha : PA X [a, b] (tMA G ro lm)) (h1 : noR ro [i, j] = true := by rfl) (h2 : noR fx [i, j] = true := by rfl) (hi : X.N[i]? = some x := by rfl) (hj : X.N[j]? = some y := by rfl) (hij : i ≠ j := by decide)
    (hx : X.env.scope.names.lookup x = some .local := by rfl) (hy : X.env.scope.names.lookup y = some .local := by rfl)
    (hw : swappedStores [.Tuple [.Name x px, .Name y py] kt pt] (.Tuple [a, b] k2 pt2) X.env = pure (some [x, y]) := by rfl)
    (hs : swapsWithSole [.Tuple [.Name x px, .Name y py] kt pt] (.Tuple [a, b] k2 pt2) pos.line X.env = pure false := by rfl) :
    PS X (.Assign [.Tuple [.Name x px, .Name y py] kt pt] (.Tuple [a, b] k2 pt2) pos) (tS G ro fx (sPar [i, j] lm)) := PS.weak (ps_par F.calm hN hi hj hij hx hy ha hw hs) fun Dn σ H ⟨R, w, e, m, o, e', e0, S, hf, k⟩ => by
  unfold sPar at hf
  split at hf
  · rename_i ds e1 hd
    split at hf
    · rename_i e2 hg2
      cases hf
      refine ⟨R, w, e, m, ds, e1, e0, S, hd, fun vs w1 md m1 S1 r1 x1 => ?_⟩
      obtain ⟨v1, v2, rfl⟩ := r1.two (putsD_len hg2)
      refine ⟨v1, v2, rfl, gNs_two (puts_ok [i, j] h1 h2 S1 r1 hg2 fun σ' m' S' l fk => k w1 σ' m' S' (x1.less fun b q => by have := l b; simp; omega) fk)⟩
    · cases hf
  · cases hf
theorem s_par3 {x y z : Str} {px py pz pt : Pos} {kt k2 pt2} {lm : EvLM} (i j l : Nat) (F : Fit X G) (hN : X.N.Nodup) (ha : PA X [a, b, c] (tMA G ro lm)) (h1 : noR ro [i, j, l] = true := by rfl) (h2 : noR fx [i, j, l] = true := by rfl) (hi : X.N[i]? = some x := by rfl) (hj : X.N[j]? = some y := by rfl) (hl : X.N[l]? = some z := by rfl) (hij : i ≠ j := by decide) (hil : i ≠ l := by decide) (hjl : j ≠ l := by decide)
    (hx : X.env.scope.names.lookup x = some .local := by rfl) (hy : X.env.scope.names.lookup y = some .local := by rfl) (hz : X.env.scope.names.lookup z = some .local := by rfl)
    (hw : swappedStores [.Tuple [.Name x px, .Name y py, .Name z pz] kt pt] (.Tuple [a, b, c] k2 pt2) X.env = pure (some [x, y, z]) := by rfl)
    (hs : swapsWithSole [.Tuple [.Name x px, .Name y py, .Name z pz] kt pt] (.Tuple [a, b, c] k2 pt2) pos.line X.env = pure false := by rfl) :
    PS X (.Assign [.Tuple [.Name x px, .Name y py, .Name z pz] kt pt] (.Tuple [a, b, c] k2 pt2) pos) (tS G ro fx (sPar [i, j, l] lm)) := PS.weak (ps_par3 F.calm hN hi hj hl hij hil hjl hx hy hz ha hw hs) fun Dn σ H ⟨R, w, e, m, o, e', e0, S, hf, k⟩ => by
  unfold sPar at hf
  split at hf
  · rename_i ds e1 hd
    split at hf
    · rename_i e2 hg2
      cases hf
      refine ⟨R, w, e, m, ds, e1, e0, S, hd, fun vs w1 md m1 S1 r1 x1 => ?_⟩
      obtain ⟨v1, v2, v3, rfl⟩ := r1.three (putsD_len hg2)
      refine ⟨v1, v2, v3, rfl, gNs_three (puts_ok [i, j, l] h1 h2 S1 r1 hg2 fun σ' m' S' l fk => k w1 σ' m' S' (x1.less fun b q => by have := l b; simp; omega) fk)⟩
    · cases hf
  · cases hf

/-! ### while -/
def runW (q : EvTM) (f : EvS) : Nat → EvS
  | 0 => fun _ => none
  | n + 1 => fun e => match q e with
    | some (false, e1) => some (.nx, e1)
    | some (true, e1) => match f e1 with
      | some (.nx, e2) => runW q f n e2
      | some (.bk, e2) => some (.nx, e2)
      | some (.rt d, e2) => some (.rt d, e2)
      | none => none
    | none => none
def fuelW : Nat := 1000000
def sWhile (q : EvTM) (f : EvS) : EvS := runW q f fuelW
/-- what is left to do, as a word of the state -/
def KeepS (G : Gen) (ro fx : Nat → Bool) (R : List RoE) (w0 : Wd) (m0 : Fp) (σ0 : L2.St) (P : List D → Prop) (σ : L2.St) (H : Hp) : Prop :=
  ∃ w e m, w.h = H ∧ SK G ro R w e σ m Fp.zero ∧ Ext m0 w0 w m ∧ (∀ i, fx i = true → σ[i]? = σ0[i]?) ∧ P e
theorem s_while {body : List Stmt} (hp : PassesOwn (model X.prog X.w) X.A X.env X.xe) (hc : PT X c (tTM G ro q)) (hb : PSs X body (tS G ro fx f)) : PS X (.While c body [] pos) (tS G ro fx (sWhile q f)) := PS.weak (ps_while hp hc hb) fun Dn σ H ⟨R, w, e, m, o, e', e0, S, hf, k⟩ => by
  subst e0
  refine ⟨fun n => KeepS G ro fx R w m σ fun e1 => runW q f n e1 = some (o, e'), ⟨fuelW, w, e, m, rfl, S, Ext.refl _ _, fun _ _ => rfl, hf⟩, ?_⟩
  rintro n σ1 H1 ⟨w1, e1, m1, rfl, S1, x1, fk1, h1⟩
  cases n with
  | zero => cases h1
  | succ n =>
    simp only [runW] at h1
    split at h1
    · rename_i e2 hq
      cases h1
      exact ⟨R, w1, e1, m1, false, _, rfl, S1, hq, fun w2 m2 S2 x2 => iteF (k w2 σ1 m2 S2 (x1.trans x2) fk1)⟩
    · rename_i e2 hq
      refine ⟨R, w1, e1, m1, true, e2, rfl, S1, hq, fun w2 m2 S2 x2 => iteT ?_⟩
      split at h1
      · rename_i e3 hb3
        refine ⟨KeepS G ro fx R w m σ fun e1 => runW q f n e1 = some (o, e'), fun σ' H' z => ⟨n, Nat.lt_succ_self _, z⟩, ?_⟩
        exact ⟨R, w2, e2, m2, .nx, e3, rfl, S2, hb3, fun w3 σ3 m3 S3 x3 fk3 => ⟨w3, e3, m3, rfl, S3, (x1.trans x2).trans x3, fun i hi => (fk3 i hi).trans (fk1 i hi), h1⟩⟩
      · rename_i e3 hb3
        cases h1
        refine ⟨fun _ _ => False, fun σ' H' z => z.elim, ?_⟩
        exact ⟨R, w2, e2, m2, .bk, _, rfl, S2, hb3, fun w3 σ3 m3 S3 x3 fk3 => k w3 σ3 m3 S3 ((x1.trans x2).trans x3) fun i hi => (fk3 i hi).trans (fk1 i hi)⟩
      · rename_i d e3 hb3
        cases h1
        refine ⟨fun _ _ => False, fun σ' H' z => z.elim, ?_⟩
        exact ⟨R, w2, e2, m2, .rt d, _, rfl, S2, hb3, fun v w3 σ3 m3 md S3 r3 x3 fk3 => k v w3 σ3 m3 md S3 r3 ((x1.trans x2).trans x3) fun i hi => (fk3 i hi).trans (fk1 i hi)⟩
      · cases h1
    · cases h1
end
end TL
end
section
set_option maxRecDepth 100000
/-! The tree layer, part L: stores into owned objects; what a loop walks; for; comprehensions. -/
namespace TL
open PySem PySem.Spec PyProof.Rows L2 RZ

/-! ### an owned object changed -/
def HO.firm : HO → Bool
  | .lst _ => true
  | .dK _ => true
  | .ins _ _ _ => true
  | .ext _ => true
  | _ => false
section
variable {G : Gen} {w : Wd} {a : Addr} {o old : HO}
theorem Ext.set {k : Fp} (h : w.h a = some old) (hf : HO.firm old = true) (hk : k a ≠ 0) : Ext k w (w.new a o) k := by
  refine ⟨fun c u q z _ => ?_, fun c vs q => ?_, fun c u v q => ?_, fun c q => ?_, fun c q => q, fun c q => .inl q, fun c f q => q, fun c q => .inl q, fun c q => .inl q⟩
  · refine (upd_ne fun e => ?_).trans q
    subst e; exact hk z
  · refine (upd_ne fun e => ?_).trans q
    subst e; rw [h] at q; cases q; cases hf
  · refine (upd_ne fun e => ?_).trans q
    subst e; rw [h] at q; cases q; cases hf
  · show upd w.h a o c ≠ none
    by_cases e : c = a
    · rw [e, upd_same]; simp
    · rw [upd_ne e]; exact q
theorem Own.one {w : Wd} (hz : ¬ w.z a) (hy : w.y a = none) : Own w (Fp.one a) := fun b => by
  by_cases e : b = a
  · subst e; exact ⟨by rw [Fp.one_same]; exact Nat.le_refl _, fun _ => ⟨hz, hy⟩⟩
  · rw [Fp.one_ne e]; exact ⟨Nat.zero_le _, fun q => absurd rfl q⟩
theorem World.set (W : World G w) (h : w.h a = some old) (hf : HO.firm old = true) (hz : ¬ w.z a) (hy : w.y a = none) (hl : hoLen o ≤ sizeLine) : World G (w.new a o) := by
  have x : Ext (Fp.one a) w (w.new a o) (Fp.one a) := Ext.set h hf (by rw [Fp.one_same]; decide)
  refine ⟨fun c u q => ?_, fun c q => ⟨x.all c (W.z c q).1, (W.z c q).2⟩, fun c n lots q => ?_⟩
  · by_cases e : c = a
    · subst e
      have q' : upd w.h c o c = some u := q
      rw [upd_same] at q'; cases q'; exact hl
    · have q' : upd w.h a o c = some u := q
      rw [upd_ne e] at q'; exact W.len c u q'
  · obtain ⟨kvs, h1, h2⟩ := W.y c n lots q
    have ne : c ≠ a := fun e => by
      subst e
      have q' : w.y c = some (n, lots) := q
      rw [hy] at q'; cases q'
    refine ⟨kvs, (upd_ne ne).trans h1, fun p hp => ?_⟩
    obtain ⟨s, d, e1, e2, e3⟩ := h2 p hp
    exact ⟨s, d, e1, e2, Rep.ext x W (Own.one hz hy) _ _ _ Apart.zero Own.zero e3⟩
theorem Own.keep {m : Fp} (O : Own w m) : Own (w.new a o) m := fun c => ⟨(O c).1, fun q => (O c).2 q⟩
/-- xs.append(x) by trees -/
theorem Rep.push {xs : List D} {vs : List V} {d : D} {v : V} {m m1 : Fp} (W : World G w) (h : w.h a = some (.lst vs)) (O : Own w (Fp.add (fl true a m) m1)) (r : RepL G w xs vs m) (rd : Rep G w d v m1) (hl : vs.length < sizeLine) :
    World G (w.new a (.lst (vs ++ [v]))) ∧ RepL G (w.new a (.lst (vs ++ [v]))) (xs ++ [d]) (vs ++ [v]) (Fp.add m m1) ∧ Own (w.new a (.lst (vs ++ [v]))) (Fp.add (fl true a m) m1) ∧ ∀ k : Fp, k a ≠ 0 → Ext k w (w.new a (.lst (vs ++ [v]))) k := by
  have oa := (O.left a).2 fl_at
  have x : Ext (Fp.one a) w (w.new a (.lst (vs ++ [v]))) (Fp.one a) := Ext.set h rfl (by rw [Fp.one_same]; decide)
  have O1 : Own w (Fp.one a) := Own.one oa.1 oa.2
  have a1 : Apart m (Fp.one a) := fun b => by
    have := (O.left b).1
    by_cases e : b = a
    · subst e; simp [fl, Fp.one_same] at this; exact .inl (by omega)
    · exact .inr (Fp.one_ne e)
  have a2 : Apart m1 (Fp.one a) := fun b => by
    have := (O b).1
    by_cases e : b = a
    · subst e; simp [fl, Fp.one_same] at this; exact .inl (by omega)
    · exact .inr (Fp.one_ne e)
  have om : Own w m := O.left.le fl_le
  refine ⟨W.set h rfl oa.1 oa.2 (by show (vs ++ [v]).length ≤ sizeLine; simp; omega), ?_, O.keep, fun k hk => Ext.set h rfl hk⟩
  exact RepL.app (RepL.ext x W O1 _ _ _ a1 om r) (RepL.one (Rep.ext x W O1 _ _ _ a2 O.right rd))
end

/-! ### what a loop walks, by trees -/
structure ItOk (G : Gen) (J : It) (mh : Fp) (xs : List D) (Pk : Wd → Prop) : Prop where
  stay : ∀ w1 w2 k k', World G w1 → Own w1 (Fp.add k mh) → Pk w1 → Ext k w1 w2 k' → Pk w2
  there : ∀ w, Pk w → ∀ b, mh b ≠ 0 → w.h b ≠ none
  go : ∀ w i d, Pk w → World G w → xs[i]? = some d → J.go i w.h
  yld : ∀ w i d x H', Pk w → World G w → xs[i]? = some d → J.yld i w.h x H' → ∃ w', w'.h = H' ∧ World G w' ∧ Ext Fp.zero w w' Fp.zero ∧ Rep G w' d x Fp.zero
  stop : ∀ w, Pk w → World G w → J.stop xs.length w.h
/-- the same where only what is new is changed; mh: what it walks of owned things (once or more) -/
structure ItOk0 (G : Gen) (J : It) (mh : Fp) (xs : List D) (Pk : Wd → Prop) : Prop where
  stay : ∀ w1 w2 k k', World G w1 → Apart mh k → Own w1 k → Pk w1 → Ext k w1 w2 k' → World G w2 → Pk w2
  there : ∀ w, Pk w → ∀ b, mh b ≠ 0 → w.h b ≠ none
  go : ∀ w i d, Pk w → World G w → xs[i]? = some d → J.go i w.h
  yld : ∀ w i d x H', Pk w → World G w → xs[i]? = some d → J.yld i w.h x H' → ∃ w', w'.h = H' ∧ World G w' ∧ Ext Fp.zero w w' Fp.zero ∧ Rep G w' d x Fp.zero
  stop : ∀ w, Pk w → World G w → J.stop xs.length w.h
theorem Ext.dropZ' {w w' : Wd} {k k' : Fp} (x : Ext k w w' k') : Ext k w w' Fp.zero := x.less fun b q => absurd rfl q
theorem ItOk.to0 {G : Gen} {J : It} {mh : Fp} {xs : List D} {Pk : Wd → Prop} (I : ItOk G J mh xs Pk) : ItOk0 G J mh xs (fun w => Pk w ∧ Own w mh) :=
  ⟨fun w1 w2 k k' W1 ap ok ⟨p, o⟩ x W2 => ⟨I.stay w1 w2 k k' W1 (Own.add_of ok o ap.symm) p x, (Own.ext (m := mh) x.dropZ' (Own.add_of o ok ap) (I.there w1 p) Own.zero).left⟩, fun w p => I.there w p.1,
    fun w i d p W => I.go w i d p.1 W, fun w i d x H' p W => I.yld w i d x H' p.1 W, fun w p W => I.stop w p.1 W⟩
abbrev EvI := List D → Option (List D)
abbrev EvIM := List D → Option (List D × List D)
/-- a source that is looked at; one with a value of its own -/
def tIB (G : Gen) (ro : Nat → Bool) (f : EvI) : TI := fun σ H Rk => ∃ R w e m xs, w.h = H ∧ SK G ro R w e σ m Fp.zero ∧ f e = some xs ∧
  ∀ J w' mh Pk, SK G ro R w' e σ m Fp.zero → ItOk0 G J mh xs Pk → Pk w' → Ext Fp.zero w w' Fp.zero → Rk J w'.h
def tIM (G : Gen) (ro : Nat → Bool) (f : EvIM) : TI := fun σ H Rk => ∃ R w e m xs e', w.h = H ∧ SK G ro R w e σ m Fp.zero ∧ f e = some (xs, e') ∧
  ∀ J w' mh m' Pk, SK G ro R w' e' σ m' mh → ItOk G J mh xs Pk → Pk w' → Ext m w w' (Fp.add m' mh) → Rk J w'.h
def iSeqB (f : Ev) : EvI := fun e => match f e with
  | some d => match seqOf d with
    | some xs => if immL xs = true then some xs else none
    | none => none
  | none => none
def iSeqM (f : EvM) : EvIM := fun e => match f e with
  | some (d, e1) => match seqOf d with
    | some xs => if immL xs = true then some (xs, e1) else none
    | none => none
  | none => none
section
variable {X : Cx} {G : Gen} {ro : Nat → Bool} {tg l : Expr}
theorem PI.or {iter : Expr} {t t' : TI} (h : PI X tg iter t) (h' : PI X tg iter t') : PI X tg iter (fun σ H R => t σ H R ∨ t' σ H R) := ⟨fun pins s σ H R I q => q.elim (h.run pins s σ H R I) (h'.run pins s σ H R I)⟩
theorem SqL.keep {K : PySem.W.Frag} {H : Hp} {a : Addr} {vs : List V} (h : H a = some (.lst vs)) : SqL K H a vs := SqL.of h
theorem itl_ok (F : X.K = G.K) {w : Wd} {a : Addr} {vs : List V} {xs : List D} {f : Bool} (h : At w f a (.lst vs)) (r : RepL G w xs vs Fp.zero) :
    ItOk G (Itl X.K a) (fl f a Fp.zero) xs (fun w => At w f a (.lst vs) ∧ RepL G w xs vs Fp.zero) := by
  refine ⟨fun w1 w2 k k' W1 O1 ⟨h1, r1⟩ x => ⟨At.ext x W1 O1.left (O1.apart.symm) O1.right h1, RepL.ext x W1 O1.left _ _ _ Apart.zero Own.zero r1⟩, fun w ⟨h1, _⟩ b q => ?_, fun w i d ⟨h1, r1⟩ W hi => ?_, fun w i d x H' ⟨h1, r1⟩ W hi y => ?_, fun w ⟨h1, r1⟩ W => ⟨vs, SqL.of h1.1, by rw [r1.len]; exact Nat.le_refl _⟩⟩
  · rcases fl_cases q with ⟨_, rfl⟩ | q
    · rw [h1.1]; simp
    · exact absurd rfl q
  · obtain ⟨v, md, e1, _, _⟩ := r1.get i d hi
    exact ⟨vs, v, SqL.of h1.1, e1⟩
  · obtain ⟨e1, y⟩ := y
    obtain ⟨v, md, e2, _, _⟩ := r1.get i d hi
    have e3 := y vs (SqL.of h1.1)
    exact ⟨w, e1.symm, W, Ext.refl _ _, r1.zero_iff i d x hi e3⟩
theorem itt_ok (F : X.K = G.K) {w : Wd} {a : Addr} {vs : List V} {xs : List D} (h : SqT G.K w.h a vs) (r : RepL G w xs vs Fp.zero) :
    ItOk G (Itt X.K a) Fp.zero xs (fun w => SqT G.K w.h a vs ∧ RepL G w xs vs Fp.zero) := by
  refine ⟨fun w1 w2 k k' W1 O1 ⟨h1, r1⟩ x => ⟨SqT.ext x h1, RepL.ext x W1 O1.left _ _ _ Apart.zero Own.zero r1⟩, fun w _ b q => absurd rfl q, fun w i d ⟨h1, r1⟩ W hi => ?_, fun w i d x H' ⟨h1, r1⟩ W hi y => ?_, fun w ⟨h1, r1⟩ W => ⟨vs, by rw [F]; exact h1, by rw [r1.len]; exact Nat.le_refl _⟩⟩
  · obtain ⟨v, md, e1, _, _⟩ := r1.get i d hi
    exact ⟨vs, v, by rw [F]; exact h1, e1⟩
  · obtain ⟨e1, y⟩ := y
    have e3 := y vs (by rw [F]; exact h1)
    exact ⟨w, e1.symm, W, Ext.refl _ _, r1.zero_iff i d x hi e3⟩
theorem RepL.immM {w : Wd} {ds : List D} {vs : List V} {m : Fp} (hi : immL ds = true) (h : RepL G w ds vs m) : RepL G w ds vs Fp.zero ∧ m = Fp.zero := ⟨RepL.immZ hi h, RepL.imm0 ds vs m hi h⟩
theorem i_seqB {f : Ev} (F : Fit X G) (h : PE X l (tB G ro f)) : PI X tg l (tIB G ro (iSeqB f)) := PI.weak (PI.or (pi_list h) (pi_tup h)) fun σ H Rk ⟨R, w, e, m, xs, e0, S, hf, k⟩ => by
  unfold iSeqB at hf
  split at hf
  · rename_i d hd
    split at hf
    · rename_i xs' hs
      split at hf
      · rename_i hi
        cases hf
        cases d <;> simp only [seqOf, Option.some.injEq] at hs <;> try cases hs
        · refine .inr ⟨R, w, e, m, _, e0, S, hd, fun v w1 mb S1 r1 o1 x1 => ?_⟩
          simp only [Rep] at r1
          obtain ⟨a, vs, rfl, h1, h2⟩ := r1
          obtain ⟨h3, _⟩ := h2.immM hi
          exact ⟨a, rfl, ⟨vs, by rw [F.K]; exact h1⟩, k _ w1 _ _ S1 (itt_ok F.K h1 h3).to0 ⟨⟨h1, h3⟩, Own.zero⟩ x1⟩
        · refine .inl ⟨R, w, e, m, _, e0, S, hd, fun v w1 mb S1 r1 o1 x1 => ?_⟩
          simp only [Rep] at r1
          obtain ⟨a, vs, m', rfl, h1, h2, rfl⟩ := r1
          obtain ⟨h3, rfl⟩ := h2.immM hi
          exact ⟨a, rfl, ⟨vs, SqL.of h1.1⟩, k _ w1 _ _ S1 (itl_ok F.K h1 h3).to0 ⟨⟨h1, h3⟩, o1⟩ x1⟩
      · cases hf
    · cases hf
  · cases hf
theorem i_seqM {f : EvM} (F : Fit X G) (h : PE X l (tM G ro f)) : PI X tg l (tIM G ro (iSeqM f)) := PI.weak (PI.or (pi_list h) (pi_tup h)) fun σ H Rk ⟨R, w, e, m, xs, e', e0, S, hf, k⟩ => by
  unfold iSeqM at hf
  split at hf
  · rename_i d e1 hd
    split at hf
    · rename_i xs' hs
      split at hf
      · rename_i hi
        cases hf
        cases d <;> simp only [seqOf, Option.some.injEq] at hs <;> try cases hs
        · refine .inr ⟨R, w, e, m, _, _, e0, S, hd, fun v w1 md m1 S1 r1 x1 => ?_⟩
          simp only [Rep] at r1
          obtain ⟨a, vs, rfl, h1, h2⟩ := r1
          obtain ⟨h3, rfl⟩ := h2.immM hi
          exact ⟨a, rfl, ⟨vs, by rw [F.K]; exact h1⟩, k _ w1 Fp.zero m1 _ S1 (itt_ok F.K h1 h3) ⟨h1, h3⟩ x1⟩
        · refine .inl ⟨R, w, e, m, _, _, e0, S, hd, fun v w1 md m1 S1 r1 x1 => ?_⟩
          simp only [Rep] at r1
          obtain ⟨a, vs, m', rfl, h1, h2, rfl⟩ := r1
          obtain ⟨h3, rfl⟩ := h2.immM hi
          exact ⟨a, rfl, ⟨vs, SqL.of h1.1⟩, k _ w1 _ m1 _ S1 (itl_ok F.K h1 h3) ⟨h1, h3⟩ x1⟩
      · cases hf
    · cases hf
  · cases hf
/-! ### ranges, zip -/
def intsN (lo : Int) : Nat → List D
  | 0 => []
  | n + 1 => .int lo :: intsN (lo + 1) n
theorem intsN_len : ∀ (lo : Int) (n : Nat), (intsN lo n).length = n
  | lo, 0 => rfl
  | lo, n + 1 => by simp [intsN, intsN_len]
theorem intsN_get : ∀ (lo : Int) (n i : Nat) (d : D), (intsN lo n)[i]? = some d → i < n ∧ d = .int (lo + i)
  | lo, 0, i, d, h => by simp [intsN] at h
  | lo, n + 1, 0, d, h => by simp [intsN] at h; exact ⟨Nat.succ_pos _, by rw [← h]; simp⟩
  | lo, n + 1, i + 1, d, h => by
    obtain ⟨h1, h2⟩ := intsN_get (lo + 1) n i d (by simpa [intsN] using h)
    refine ⟨by omega, h2.trans ?_⟩
    congr 1; omega
theorem itr_ok (lo : Int) (n : Nat) : ItOk G (Itr lo n) Fp.zero (intsN lo n) (fun _ => True) := by
  refine ⟨fun _ _ _ _ _ _ _ _ => trivial, fun _ _ b q => absurd rfl q, fun w i d _ W hi => (intsN_get lo n i d hi).1, fun w i d x H' _ W hi y => ?_, fun w _ W => by rw [intsN_len]; exact Nat.le_refl _⟩
  obtain ⟨e1, e2⟩ := y
  obtain ⟨_, rfl⟩ := intsN_get lo n i d hi
  subst e2
  exact ⟨w, e1.symm, W, Ext.refl _ _, Rep.mkInt⟩
def rngOk (i : Int) : Bool := decide (-16000000 ≤ i) && decide (i ≤ 16000000)
theorem rngOk_le {i : Int} (h : rngOk i = true) : -16000000 ≤ i ∧ i ≤ 16000000 := by
  unfold rngOk at h
  simpa using h
def iRng1B (f : EvL) : EvI := fun e => match f e with
  | some [.int j] => if rngOk j = true then some (intsN 0 j.toNat) else none
  | _ => none
def iRng2B (f : EvL) : EvI := fun e => match f e with
  | some [.int i, .int j] => if (rngOk i && rngOk j) = true then some (intsN i (j - i).toNat) else none
  | _ => none
def iM (f : EvI) : EvIM := fun e => match f e with
  | some xs => some (xs, e)
  | none => none
theorem i_rng1 {a : Expr} {f : EvL} {p pos : Pos} (hg : Gl X "range") (hm : X.mg "range" = none) (ha : PA X [a] (tPA G ro f)) (hs : starEach [a] X.env = [(false, eval a X.env)] := by rfl) : PI X tg (.Call (.Name "range" p) [a] [] pos) (tIB G ro (iRng1B f)) := PI.weak (pi_range1 hg hm ha hs) fun σ H Rk ⟨R, w, e, m, xs, e0, S, hf, k⟩ => by
  unfold iRng1B at hf
  split at hf
  · rename_i j hd
    split at hf
    · rename_i hj
      cases hf
      have hb := rngOk_le hj
      refine ⟨R, w, e, m, _, e0, S, hd, fun vs w1 md S1 r1 x1 => ?_⟩
      simp only [RepL] at r1
      obtain ⟨v, vs', m1, m2, rfl, r1, ⟨rfl, _⟩, _⟩ := r1
      have ev := r1.int
      subst ev
      exact ⟨j, rfl, by omega, by omega, k _ w1 _ _ S1.zero (itr_ok 0 j.toNat).to0 ⟨trivial, Own.zero⟩ x1.dropZ⟩
    · cases hf
  · cases hf
theorem i_rng2 {a b : Expr} {f : EvL} {p pos : Pos} (hg : Gl X "range") (hm : X.mg "range" = none) (ha : PA X [a, b] (tPA G ro f)) (hs : starEach [a, b] X.env = [(false, eval a X.env), (false, eval b X.env)] := by rfl) (hs2 : starEach [b] X.env = [(false, eval b X.env)] := by rfl) : PI X tg (.Call (.Name "range" p) [a, b] [] pos) (tIB G ro (iRng2B f)) := PI.weak (pi_range2 hg hm ha hs hs2) fun σ H Rk ⟨R, w, e, m, xs, e0, S, hf, k⟩ => by
  unfold iRng2B at hf
  split at hf
  · rename_i i j hd
    split at hf
    · rename_i hj
      cases hf
      rw [Bool.and_eq_true] at hj
      have hb := rngOk_le hj.1
      have hb2 := rngOk_le hj.2
      refine ⟨R, w, e, m, _, e0, S, hd, fun vs w1 md S1 r1 x1 => ?_⟩
      simp only [RepL] at r1
      obtain ⟨v, vs', m1, m2, rfl, r1, ⟨v2, vs2, m3, m4, rfl, r2, ⟨rfl, _⟩, _⟩, _⟩ := r1
      have ev := r1.int
      have ev2 := r2.int
      subst ev; subst ev2
      exact ⟨i, j, rfl, ⟨by omega, by omega, by omega, by omega⟩, k _ w1 _ _ S1.zero (itr_ok i (j - i).toNat).to0 ⟨trivial, Own.zero⟩ x1.dropZ⟩
    · cases hf
  · cases hf
/-- ranges whose ends change trees -/
def iRng1M (f : EvLM) : EvIM := fun e => match f e with
  | some ([.int j], e1) => if rngOk j = true then some (intsN 0 j.toNat, e1) else none
  | _ => none
def iRng2M (f : EvLM) : EvIM := fun e => match f e with
  | some ([.int i, .int j], e1) => if (rngOk i && rngOk j) = true then some (intsN i (j - i).toNat, e1) else none
  | _ => none
theorem i_rng1M {a : Expr} {f : EvLM} {p pos : Pos} (hg : Gl X "range") (hm : X.mg "range" = none) (ha : PA X [a] (tMA G ro f)) (hs : starEach [a] X.env = [(false, eval a X.env)] := by rfl) : PI X tg (.Call (.Name "range" p) [a] [] pos) (tIM G ro (iRng1M f)) := PI.weak (pi_range1 hg hm ha hs) fun σ H Rk ⟨R, w, e, m, xs, e', e0, S, hf, k⟩ => by
  unfold iRng1M at hf
  split at hf
  · rename_i j e1 hd
    split at hf
    · rename_i hj
      cases hf
      have hb := rngOk_le hj
      refine ⟨R, w, e, m, _, _, e0, S, hd, fun vs w1 md m1 S1 r1 x1 => ?_⟩
      simp only [RepL] at r1
      obtain ⟨v, vs', m1, m2, rfl, r1, ⟨rfl, _⟩, _⟩ := r1
      have ev := r1.int
      subst ev
      exact ⟨j, rfl, by omega, by omega, k _ w1 Fp.zero _ _ S1.zero (itr_ok 0 j.toNat) trivial (by rw [Fp.add_zero]; exact x1.dropM)⟩
    · cases hf
  · cases hf
theorem i_rng2M {a b : Expr} {f : EvLM} {p pos : Pos} (hg : Gl X "range") (hm : X.mg "range" = none) (ha : PA X [a, b] (tMA G ro f)) (hs : starEach [a, b] X.env = [(false, eval a X.env), (false, eval b X.env)] := by rfl) (hs2 : starEach [b] X.env = [(false, eval b X.env)] := by rfl) : PI X tg (.Call (.Name "range" p) [a, b] [] pos) (tIM G ro (iRng2M f)) := PI.weak (pi_range2 hg hm ha hs hs2) fun σ H Rk ⟨R, w, e, m, xs, e', e0, S, hf, k⟩ => by
  unfold iRng2M at hf
  split at hf
  · rename_i i j e1 hd
    split at hf
    · rename_i hj
      cases hf
      rw [Bool.and_eq_true] at hj
      have hb := rngOk_le hj.1
      have hb2 := rngOk_le hj.2
      refine ⟨R, w, e, m, _, _, e0, S, hd, fun vs w1 md m1 S1 r1 x1 => ?_⟩
      simp only [RepL] at r1
      obtain ⟨v, vs', m1, m2, rfl, r1, ⟨v2, vs2, m3, m4, rfl, r2, ⟨rfl, _⟩, _⟩, _⟩ := r1
      have ev := r1.int
      have ev2 := r2.int
      subst ev; subst ev2
      exact ⟨i, j, rfl, ⟨by omega, by omega, by omega, by omega⟩, k _ w1 Fp.zero _ _ S1.zero (itr_ok i (j - i).toNat) trivial (by rw [Fp.add_zero]; exact x1.dropM)⟩
    · cases hf
  · cases hf
/-! zip -/
def zipD : List D → List D → List D
  | x :: xs, y :: ys => .tup [x, y] :: zipD xs ys
  | _, _ => []
theorem zipD_get : ∀ {xs ys : List D} {i : Nat} {d : D}, (zipD xs ys)[i]? = some d → ∃ x y, xs[i]? = some x ∧ ys[i]? = some y ∧ d = .tup [x, y]
  | [], ys, i, d, h => by cases ys <;> simp [zipD] at h
  | x :: xs, [], i, d, h => by simp [zipD] at h
  | x :: xs, y :: ys, 0, d, h => by simp [zipD] at h; exact ⟨x, y, rfl, rfl, h.symm⟩
  | x :: xs, y :: ys, i + 1, d, h => by
    obtain ⟨a, b, h1, h2, h3⟩ := zipD_get (xs := xs) (ys := ys) (i := i) (by simpa [zipD] using h)
    exact ⟨a, b, by simpa using h1, by simpa using h2, h3⟩
theorem zipD_len : ∀ {xs ys : List D}, (zipD xs ys).length = min xs.length ys.length
  | [], ys => by cases ys <;> simp [zipD]
  | x :: xs, [] => by simp [zipD]
  | x :: xs, y :: ys => by simp [zipD, zipD_len, Nat.succ_min_succ]
theorem pair_new {w : Wd} {p : Addr} {x y : D} {v u : V} (W : World G w) (hp : w.h p = none) (rx : Rep G w x v Fp.zero) (ry : Rep G w y u Fp.zero) :
    World G (w.new p (.tup [v, u])) ∧ Ext Fp.zero w (w.new p (.tup [v, u])) Fp.zero ∧ Rep G (w.new p (.tup [v, u])) (.tup [x, y]) (.ref p) Fp.zero := by
  have ex : Ext Fp.zero w (w.new p (.tup [v, u])) Fp.zero := Ext.new hp fun b q => absurd rfl q
  refine ⟨W.new hp (by show 2 ≤ sizeLine; decide), ex, ?_⟩
  simp only [Rep]
  refine ⟨p, [v, u], rfl, .inl (.inl upd_same), RepL.ext ex W Own.zero _ _ _ Apart.zero Own.zero ?_⟩
  have := RepL.app (RepL.one rx) (RepL.one ry)
  simpa using this
def iZipB (f : EvL) : EvI := fun e => match f e with
  | some [.lst _ xs, .lst _ ys] => if (immL xs && immL ys) = true then some (zipD xs ys) else none
  | some [.tup xs, .tup ys] => if (immL xs && immL ys) = true then some (zipD xs ys) else none
  | _ => none
theorem at_ext0 {w1 w2 : Wd} {k k' : Fp} {f : Bool} {a : Addr} {o : HO} (x : Ext k w1 w2 k') (W : World G w1) (ap : Apart (fl f a Fp.zero) k) (ok : Own w1 k) (O : Own w1 (fl f a Fp.zero)) (h : At w1 f a o) : At w2 f a o ∧ Own w2 (fl f a Fp.zero) := by
  refine ⟨At.ext (m := Fp.zero) x W ok ap O h, (Own.ext (m := fl f a Fp.zero) x.dropZ' (Own.add_of O ok ap) (fun b q => ?_) Own.zero).left⟩
  rcases fl_cases q with ⟨_, rfl⟩ | q
  · rw [h.1]; simp
  · exact absurd rfl q
theorem itz_ok {K : PySem.W.Frag} {a b : Addr} {vs us : List V} {xs ys : List D} {f g : Bool} : ItOk0 G (Itz K a b) (Fp.add (fl f a Fp.zero) (fl g b Fp.zero)) (zipD xs ys) (fun w => (At w f a (.lst vs) ∧ Own w (fl f a Fp.zero)) ∧ (At w g b (.lst us) ∧ Own w (fl g b Fp.zero)) ∧ RepL G w xs vs Fp.zero ∧ RepL G w ys us Fp.zero) := by
  refine ⟨fun w1 w2 k k' W1 ap ok ⟨h1, h2, r1, r2⟩ x W2 => ⟨at_ext0 x W1 (Apart.add.mp ap).1 ok h1.2 h1.1, at_ext0 x W1 (Apart.add.mp ap).2 ok h2.2 h2.1, RepL.ext x W1 ok _ _ _ Apart.zero Own.zero r1, RepL.ext x W1 ok _ _ _ Apart.zero Own.zero r2⟩, fun w ⟨h1, h2, _⟩ b0 q => ?_, fun w i d ⟨h1, h2, r1, r2⟩ W hi => ?_, fun w i d v H' ⟨h1, h2, r1, r2⟩ W hi y => ?_, fun w ⟨h1, h2, r1, r2⟩ W => ?_⟩
  · have q' : fl f a Fp.zero b0 ≠ 0 ∨ fl g b Fp.zero b0 ≠ 0 := by
      by_cases z : fl f a Fp.zero b0 = 0
      · exact .inr fun z' => q (by rw [Fp.add_at, z, z'])
      · exact .inl z
    rcases q' with q | q
    · rcases fl_cases q with ⟨_, rfl⟩ | q
      · rw [h1.1.1]; simp
      · exact absurd rfl q
    · rcases fl_cases q with ⟨_, rfl⟩ | q
      · rw [h2.1.1]; simp
      · exact absurd rfl q
  · obtain ⟨x, y, e1, e2, _⟩ := zipD_get hi
    obtain ⟨v, _, q1, _, _⟩ := r1.get i x e1
    obtain ⟨u, _, q2, _, _⟩ := r2.get i y e2
    exact ⟨vs, us, v, u, SqL.of h1.1.1, SqL.of h2.1.1, q1, q2⟩
  · obtain ⟨x, x2, e1, e2, rfl⟩ := zipD_get hi
    obtain ⟨T, v1, v2, rfl, hT, rfl, q1, q2⟩ := y
    have z1 := r1.zero_iff i x v1 e1 (q1 vs (SqL.of h1.1.1))
    have z2 := r2.zero_iff i _ v2 e2 (q2 us (SqL.of h2.1.1))
    obtain ⟨p1, p2, p3⟩ := pair_new W hT z1 z2
    exact ⟨_, rfl, p1, p2, p3⟩
  · refine ⟨vs, us, SqL.of h1.1.1, SqL.of h2.1.1, ?_⟩
    rw [zipD_len, ← r1.len, ← r2.len]
    omega
theorem itzT_ok {K : PySem.W.Frag} (F : K = G.K) {a b : Addr} {vs us : List V} {xs ys : List D} : ItOk0 G (ItzT K a b) Fp.zero (zipD xs ys) (fun w => SqT G.K w.h a vs ∧ SqT G.K w.h b us ∧ RepL G w xs vs Fp.zero ∧ RepL G w ys us Fp.zero) := by
  subst F
  refine ⟨fun w1 w2 k k' W1 ap ok ⟨h1, h2, r1, r2⟩ x W2 => ⟨SqT.ext x h1, SqT.ext x h2, RepL.ext x W1 ok _ _ _ Apart.zero Own.zero r1, RepL.ext x W1 ok _ _ _ Apart.zero Own.zero r2⟩, fun w _ b q => absurd rfl q, fun w i d ⟨h1, h2, r1, r2⟩ W hi => ?_, fun w i d v H' ⟨h1, h2, r1, r2⟩ W hi y => ?_, fun w ⟨h1, h2, r1, r2⟩ W => ?_⟩
  · obtain ⟨x, y, e1, e2, _⟩ := zipD_get hi
    obtain ⟨v, _, q1, _, _⟩ := r1.get i x e1
    obtain ⟨u, _, q2, _, _⟩ := r2.get i y e2
    exact ⟨vs, us, v, u, h1, h2, q1, q2⟩
  · obtain ⟨x, x2, e1, e2, rfl⟩ := zipD_get hi
    obtain ⟨T, v1, v2, rfl, hT, rfl, q1, q2⟩ := y
    have z1 := r1.zero_iff i x v1 e1 (q1 vs h1)
    have z2 := r2.zero_iff i _ v2 e2 (q2 us h2)
    obtain ⟨p1, p2, p3⟩ := pair_new W hT z1 z2
    exact ⟨_, rfl, p1, p2, p3⟩
  · refine ⟨vs, us, h1, h2, ?_⟩
    rw [zipD_len, ← r1.len, ← r2.len]
    omega
theorem i_zip {e1 e2 : Expr} {f : EvL} {p pos tpos : Pos} {elts : List Expr} {kk : Nat} (F : Fit X G) (hg : Gl X "zip") (hm : X.mg "zip" = none) (ha : PA X [e1, e2] (tBA G ro f))
    (hs : starEach [e1, e2] X.env = (false, eval e1 X.env) :: starEach [e2] X.env := by rfl) (hpl : (backTo pos (starEach [e2] X.env)).any (·.1) = false := by rfl) :
    PI X (.Tuple elts kk tpos) (.Call (.Name "zip" p) [e1, e2] [] pos) (tIB G ro (iZipB f)) := PI.weak (pi_zipA hg hm ha hs hpl) fun σ H Rk ⟨R, w, e, m, xs, e0, S, hf, k⟩ => by
  unfold iZipB at hf
  split at hf
  · rename_i f1 xs f2 ys hd
    split at hf
    · rename_i hi
      cases hf
      rw [Bool.and_eq_true] at hi
      refine ⟨R, w, e, m, _, e0, S, hd, fun vs w1 S1 r1 x1 => ?_⟩
      obtain ⟨v, vs', m1, rfl, r1, o1, v2, vs2, m3, rfl, r2, o2, rfl⟩ := r1
      simp only [Rep] at r1 r2
      obtain ⟨a, us1, m', rfl, h1, l1, rfl⟩ := r1
      obtain ⟨b, us2, m'', rfl, h2, l2, rfl⟩ := r2
      obtain ⟨l1, rfl⟩ := l1.immM hi.1
      obtain ⟨l2, rfl⟩ := l2.immM hi.2
      exact ⟨a, b, us1, us2, rfl, .inl ⟨SqL.of h1.1, SqL.of h2.1, k _ w1 _ _ S1 itz_ok ⟨⟨h1, o1⟩, ⟨h2, o2⟩, l1, l2⟩ x1⟩⟩
    · cases hf
  · rename_i xs ys hd
    split at hf
    · rename_i hi
      cases hf
      rw [Bool.and_eq_true] at hi
      refine ⟨R, w, e, m, _, e0, S, hd, fun vs w1 S1 r1 x1 => ?_⟩
      obtain ⟨v, vs', m1, rfl, r1, o1, v2, vs2, m3, rfl, r2, o2, rfl⟩ := r1
      simp only [Rep] at r1 r2
      obtain ⟨a, us1, rfl, h1, l1⟩ := r1
      obtain ⟨b, us2, rfl, h2, l2⟩ := r2
      obtain ⟨l1, rfl⟩ := l1.immM hi.1
      obtain ⟨l2, rfl⟩ := l2.immM hi.2
      exact ⟨a, b, us1, us2, rfl, .inr ⟨by rw [F.K]; exact h1, by rw [F.K]; exact h2, k _ w1 _ _ S1 (itzT_ok F.K) ⟨h1, h2, l1, l2⟩ x1⟩⟩
    · cases hf
  · cases hf
end
end TL
end
section
set_option maxRecDepth 100000
/-! The tree layer, part M: for; comprehensions. -/
namespace TL
open PySem PySem.Spec PyProof.Rows L2

inductive Tg where
  | nm (i : Nat)
  | tp (is : List Nat)
def Tg.ix : Tg → List Nat
  | .nm i => [i]
  | .tp is => is
def bindN : Tg → EvG
  | .nm i => gNm i
  | .tp is => gTp is
def tgR (K : PySem.W.Frag) : Tg → TG
  | .nm i => gName i
  | .tp is => gTup K is.length (gNs is)
section
variable {X : Cx} {G : Gen} {ro fx : Nat → Bool} {e a b c : Expr} {pos : Pos}
theorem SK.len {R : List RoE} {w : Wd} {e : List D} {σ : L2.St} {m k : Fp} (S : SK G ro R w e σ m k) : e.length = σ.length := by
  have := S.fr.len
  rwa [maskN_len] at this
theorem SK.put0 {R : List RoE} {w : Wd} {e : List D} {σ : L2.St} {m k : Fp} {i : Nat} {d : D} {v : V} (S : SK G ro R w e σ m k) (r : Rep G w d v Fp.zero) (hr : ro i = false) (hi : i < e.length) :
    ∃ m', SK G ro R w (e.set i d) (σ.set i (some v)) m' k ∧ ∀ b, m' b ≤ m b := by
  obtain ⟨m', S', l⟩ := SK.put (k := k) (md := Fp.zero) (by rw [Fp.zero_add]; exact S) r hr hi
  exact ⟨m', S', fun b => by simpa using l b⟩
theorem puts0 {Q : L2.St → Hp → Prop} {e' : List D} {k : Fp} : ∀ (is : List Nat) {R : List RoE} {w : Wd} {ds : List D} {vs : List V} {e : List D} {σ : L2.St} {m : Fp}, noR ro is = true → SK G ro R w e σ m k → RepL G w ds vs Fp.zero → putsD is ds e = some e' →
    (∀ σ' m', SK G ro R w e' σ' m' k → (∀ b, m' b ≤ m b) → (∀ j, j ∉ is → σ'[j]? = σ[j]?) → σ'.length = σ.length → Q σ' w.h) → gNs is vs σ w.h Q
  | [], R, w, ds, vs, e, σ, m, h1, S, r, hp, kk => by
    cases ds with
    | nil =>
      cases hp
      simp only [RepL] at r
      obtain ⟨rfl, _⟩ := r
      exact ⟨rfl, kk σ m S (fun b => Nat.le_refl _) (fun _ _ => rfl) rfl⟩
    | cons d ds => simp [putsD] at hp
  | i :: is, R, w, ds, vs, e, σ, m, h1, S, r, hp, kk => by
    cases ds with
    | nil => simp [putsD] at hp
    | cons d ds =>
      simp only [putsD] at hp
      split at hp
      · rename_i hl
        simp only [noR, Bool.and_eq_true, Bool.not_eq_true'] at h1
        simp only [RepL] at r
        obtain ⟨v, vs', m1, m2, rfl, r1, r2, ez⟩ := r
        obtain ⟨rfl, rfl⟩ := Fp.eq_zero_of_add ez.symm
        obtain ⟨m', S', l⟩ := SK.put0 S r1 h1.1 hl
        refine ⟨v, vs', rfl, puts0 is h1.2 S' r2 hp fun σ' m'' S'' l' fk hl' => kk σ' m'' S'' (fun b => Nat.le_trans (l' b) (l b)) (fun j hj => ?_) (by rw [hl', List.length_set])⟩
        rw [List.mem_cons, not_or] at hj
        rw [fk j hj.2, List.getElem?_set_ne (Ne.symm hj.1)]
      · cases hp
theorem tgR_ok {Q : L2.St → Hp → Prop} {T : Tg} {e e' : List D} {R : List RoE} {w : Wd} {d : D} {v : V} {σ : L2.St} {m k : Fp} (h1 : noR ro T.ix = true) (S : SK G ro R w e σ m k) (r : Rep G w d v Fp.zero) (hb : bindN T d e = some e')
    (kk : ∀ σ' m', SK G ro R w e' σ' m' k → (∀ b, m' b ≤ m b) → (∀ j, j ∉ T.ix → σ'[j]? = σ[j]?) → σ'.length = σ.length → Q σ' w.h) : tgR G.K T v σ w.h Q := by
  cases T with
  | nm i =>
    simp only [bindN, gNm] at hb
    split at hb
    · rename_i hl
      cases hb
      simp only [Tg.ix, noR, Bool.and_eq_true, Bool.not_eq_true'] at h1
      obtain ⟨m', S', l⟩ := SK.put0 S r h1.1 hl
      refine kk _ m' S' l (fun j hj => ?_) (by rw [List.length_set])
      simp only [Tg.ix, List.mem_singleton] at hj
      rw [List.getElem?_set_ne (Ne.symm hj)]
    · cases hb
  | tp is =>
    simp only [bindN, gTp] at hb
    split at hb
    · rename_i ds
      simp only [Rep] at r
      obtain ⟨a, vs, rfl, ha, r2⟩ := r
      exact ⟨a, vs, rfl, ha, by rw [← r2.len, putsD_len hb], puts0 is h1 S r2 hb kk⟩
    · cases hb
/-- the target's rules -/
structure TgOk (X : Cx) (G : Gen) (tg : Expr) (T : Tg) : Prop where
  ok : PG X tg (tgR G.K T)
theorem tg_nm (i : Nat) {x : Str} (hN : X.N.Nodup) (hi : X.N[i]? = some x := by rfl) (hx : Loc X.env.scope x := by first | exact Or.inl rfl | exact Or.inr rfl) (hl : X.fn x = true ∨ X.env.scope.names.lookup x = some .local := by first | exact .inl rfl | exact .inr rfl) : TgOk X G (.Name x pos) (.nm i) := ⟨pg_name hN hi hx hl⟩
theorem tg_tp {es : List Expr} {k : Nat} (is : List Nat) (F : Fit X G) (hp : PGs X es (gNs is)) (hn' : (assignEach es X.env).length = is.length := by rfl) (hst : (assignEach es X.env).findIdx? (·.1) = none := by rfl) : TgOk X G (.Tuple es k pos) (.tp is) := ⟨by
  have := pg_tup (k := k) (pos := pos) F.calm hp hn' hst
  rwa [F.K] at this⟩
theorem tgs_nil : PGs X [] (gNs []) := pgs_nil
theorem tgs_cons {es : List Expr} {is : List Nat} {x : Str} (i : Nat) (hN : X.N.Nodup) (h2 : PGs X es (gNs is)) (hi : X.N[i]? = some x := by rfl) (hx : Loc X.env.scope x := by first | exact Or.inl rfl | exact Or.inr rfl) (hl : X.fn x = true ∨ X.env.scope.names.lookup x = some .local := by first | exact .inl rfl | exact .inr rfl)
    (hs : (assignEach (.Name x pos :: es) X.env).map (·.2) = assign (.Name x pos) X.env :: (assignEach es X.env).map (·.2) := by rfl) : PGs X (.Name x pos :: es) (gNs (i :: is)) := pgs_cons (pg_name hN hi hx hl) h2 hs

/-! ### for -/
def runFor (T : Tg) (f : EvS) : List D → EvS
  | [] => fun e => some (.nx, e)
  | x :: xs => fun e => match bindN T x e with
    | some e1 => match f e1 with
      | some (.nx, e2) => runFor T f xs e2
      | some (.bk, e2) => some (.nx, e2)
      | some (.rt d, e2) => some (.rt d, e2)
      | none => none
    | none => none
def sFor (s : EvIM) (T : Tg) (f : EvS) : EvS := fun e => match s e with
  | some (xs, e1) => runFor T f xs e1
  | none => none
theorem noR_mem {p : Nat → Bool} : ∀ {is : List Nat}, noR p is = true → ∀ j, p j = true → j ∉ is
  | [], _, j, _ => by simp
  | i :: is, h, j, hj => by
    simp only [noR, Bool.and_eq_true, Bool.not_eq_true'] at h
    rw [List.mem_cons, not_or]
    exact ⟨fun z => (by rw [z, h.1] at hj; cases hj), noR_mem h.2 j hj⟩
theorem drop_cons {α : Type} {xs : List α} {i : Nat} {x : α} {ys : List α} (h : xs.drop i = x :: ys) : xs[i]? = some x ∧ xs.drop (i + 1) = ys := by
  have h1 : xs[i]? = some x := by
    have : (xs.drop i)[0]? = some x := by rw [h]; rfl
    rwa [List.getElem?_drop, Nat.add_zero] at this
  refine ⟨h1, ?_⟩
  have : (xs.drop i).drop 1 = ys := by rw [h]; rfl
  rwa [List.drop_drop] at this
theorem drop_nil {α : Type} {xs : List α} {i : Nat} (h : xs.drop i = []) : xs.length ≤ i := List.drop_eq_nil_iff.mp h
theorem SK.grow {R : List RoE} {w w' : Wd} {e : List D} {σ : L2.St} {m h : Fp} (S : SK G ro R w e σ m h) (t : ∀ b, h b ≠ 0 → w.h b ≠ none) (x : Ext Fp.zero w w' Fp.zero) (W' : World G w') : SK G ro R w' e σ m h := by
  have := S.holdP t x W' Own.zero
  rwa [Fp.add_zero] at this
theorem s_for {tg iter : Expr} {body : List Stmt} {s : EvIM} {T : Tg} {f : EvS} (hp : PassesOwn (model X.prog X.w) X.A X.env X.xe) (F : Fit X G) (hi : PI X tg iter (tIM G ro s)) (hg : TgOk X G tg T) (hb : PSs X body (tS G ro fx f)) (h1 : noR ro T.ix = true := by rfl) (h2 : noR fx T.ix = true := by rfl)
    (hs : ∀ x, foldedSetIterable iter X.env x = pure x := by intro _; rfl) : PS X (.For tg iter body [] pos) (tS G ro fx (sFor s T f)) := PS.weak (ps_for hp F.calm hi hg.ok hb hs) fun Dn σ H ⟨R, w, e, m, o, e', e0, S, hf, k⟩ => by
  unfold sFor at hf
  split at hf
  · rename_i xs e1 hs1
    refine ⟨R, w, e, m, xs, e1, e0, S, hs1, fun J w1 mh m1 Pk S1 I p1 x1 => ?_⟩
    let W : Nat → Nat → L2.St → Hp → Prop := fun i n σ' H' => n = xs.length - i ∧ i ≤ xs.length ∧ ∃ w2 e2 m2, w2.h = H' ∧ SK G ro R w2 e2 σ' m2 mh ∧ Pk w2 ∧ Ext m w w2 (Fp.add m2 mh) ∧ (∀ j, fx j = true → σ'[j]? = σ[j]?) ∧ runFor T f (xs.drop i) e2 = some (o, e')
    refine ⟨W, ⟨xs.length, rfl, Nat.zero_le _, w1, e1, m1, rfl, S1, p1, x1, fun _ _ => rfl, hf⟩, ?_⟩
    rintro i n σ2 H2 ⟨rfl, hil, w2, e2, m2, rfl, S2, p2, x2, fk2, hr⟩
    cases hd : xs.drop i with
    | nil =>
      have hl := drop_nil hd
      have ei : i = xs.length := by omega
      subst ei
      rw [hd] at hr
      cases hr
      exact .inl ⟨I.stop w2 p2 S2.world, k w2 σ2 m2 S2.zero x2.dropM fk2⟩
    | cons x ys =>
      obtain ⟨hx, hy⟩ := drop_cons hd
      have hlt : i < xs.length := (List.getElem?_eq_some_iff.mp hx).1
      rw [hd] at hr
      simp only [runFor] at hr
      split at hr
      · rename_i e3 hb3
        refine .inr ⟨I.go w2 i x p2 S2.world hx, ?_⟩
        -- what each turn does
        have turn : ∀ v H', J.yld i w2.h v H' → ∀ (Q : L2.St → Hp → Prop), (∀ w4 σ4 m4, SK G ro R w4 e3 σ4 m4 mh → Pk w4 → Ext m w w4 (Fp.add m4 mh) → (∀ j, fx j = true → σ4[j]? = σ[j]?) → Q σ4 w4.h) → tgR G.K T v σ2 H' Q := fun v H' y Q kq => by
          obtain ⟨w3, rfl, W3, x3, r3⟩ := I.yld w2 i x v H' p2 S2.world hx y
          have S3 := S2.grow (I.there w2 p2) x3 W3
          have p3 := I.stay w2 w3 Fp.zero Fp.zero S2.world (by rw [Fp.zero_add]; exact S2.own.right) p2 x3
          have y3 := x3.frame (m := Fp.add m2 mh)
          rw [Fp.add_zero] at y3
          refine tgR_ok h1 S3 r3 hb3 fun σ4 m4 S4 l4 fk4 _ => kq w3 σ4 m4 S4 p3 ((x2.trans y3).less fun b q => ?_) fun j hj => (fk4 j (noR_mem h2 j hj)).trans (fk2 j hj)
          have := l4 b; simp at *; omega
        have after : ∀ {w4 w5 : Wd} {m4 m5 : Fp} {σ4 σ5 : L2.St} {e5 : List D}, SK G ro R w4 e3 σ4 m4 mh → Pk w4 → Ext m w w4 (Fp.add m4 mh) → Ext m4 w4 w5 m5 → SK G ro R w5 e5 σ5 m5 Fp.zero → SK G ro R w5 e5 σ5 m5 mh ∧ Pk w5 ∧ Ext m w w5 (Fp.add m5 mh) := fun {w4 w5 m4 m5 σ4 σ5 e5} S4 p4 x4 x5 S5 => by
          have S5' := S4.hold (I.there w4 p4) (k' := Fp.zero) (by rw [Fp.add_zero]; exact x5) S5
          rw [Fp.zero_add] at S5'
          exact ⟨S5', I.stay w4 w5 m4 m5 S4.world S4.own p4 x5, x4.trans x5.frameR⟩
        split at hr
        · rename_i e4 hf4
          refine ⟨W (i + 1) (xs.length - (i + 1)), fun σ' H' z => ⟨_, by omega, z⟩, fun v H' y => turn v H' y _ fun w4 σ4 m4 S4 p4 x4 fk4 => ?_⟩
          refine ⟨R, w4, e3, m4, .nx, e4, rfl, S4.zero, hf4, fun w5 σ5 m5 S5 x5 fk5 => ?_⟩
          obtain ⟨S5', p5, x5'⟩ := after S4 p4 x4 x5 S5
          exact ⟨rfl, hlt, w5, e4, m5, rfl, S5', p5, x5', fun j hj => (fk5 j hj).trans (fk4 j hj), by rw [hy]; exact hr⟩
        · rename_i e4 hf4
          cases hr
          refine ⟨fun _ _ => False, fun σ' H' z => z.elim, fun v H' y => turn v H' y _ fun w4 σ4 m4 S4 p4 x4 fk4 => ?_⟩
          refine ⟨R, w4, e3, m4, .bk, _, rfl, S4.zero, hf4, fun w5 σ5 m5 S5 x5 fk5 => ?_⟩
          obtain ⟨S5', p5, x5'⟩ := after S4 p4 x4 x5 S5
          exact k w5 σ5 m5 S5'.zero x5'.dropM fun j hj => (fk5 j hj).trans (fk4 j hj)
        · rename_i d e4 hf4
          cases hr
          refine ⟨fun _ _ => False, fun σ' H' z => z.elim, fun v H' y => turn v H' y _ fun w4 σ4 m4 S4 p4 x4 fk4 => ?_⟩
          refine ⟨R, w4, e3, m4, .rt d, _, rfl, S4.zero, hf4, fun v5 w5 σ5 m5 md5 S5 r5 x5 fk5 => ?_⟩
          exact k v5 w5 σ5 m5 md5 S5 r5 ((x4.dropM.trans x5)) fun j hj => (fk5 j hj).trans (fk4 j hj)
        · cases hr
      · cases hr
  · cases hf
end
end TL
end
section
set_option maxRecDepth 100000
/-! The tree layer, part N: list comprehensions. -/
namespace TL
open PySem PySem.Spec PyProof.Rows L2

def undefs : List Nat → List D → List D
  | [], e => e
  | v :: vs, e => (undefs vs e).set v .undef
theorem undefs_len (e : List D) : ∀ vs : List Nat, (undefs vs e).length = e.length
  | [] => rfl
  | v :: vs => by simp [undefs, undefs_len e vs]
theorem undefs_in {e : List D} {j : Nat} : ∀ {vs : List Nat}, j ∈ vs → j < e.length → (undefs vs e)[j]? = some .undef
  | [], h, _ => by simp at h
  | v :: vs, h, hl => by
    simp only [undefs]
    by_cases q : v = j
    · subst q; rw [List.getElem?_set_self (by rw [undefs_len]; exact hl)]
    · rw [List.getElem?_set_ne q]
      exact undefs_in ((List.mem_cons.mp h).resolve_left (Ne.symm q)) hl
theorem wipe_in {σ : L2.St} {j : Nat} : ∀ {vs : List Nat}, j ∈ vs → j < σ.length → (wipe σ vs)[j]? = some none
  | [], h, _ => by simp at h
  | v :: vs, h, hl => by
    simp only [wipe]
    by_cases q : v = j
    · subst q; rw [List.getElem?_set_self (by rw [wipe_length]; exact hl)]
    · rw [List.getElem?_set_ne q]
      exact wipe_in ((List.mem_cons.mp h).resolve_left (Ne.symm q)) hl
theorem wipe_same {σ σ' : L2.St} {vs : List Nat} (hl : σ'.length = σ.length) (h : ∀ j, j ∉ vs → σ'[j]? = σ[j]?) : wipe σ' vs = wipe σ vs := by
  apply List.ext_getElem?
  intro j
  by_cases q : j ∈ vs
  · by_cases q2 : j < σ.length
    · rw [wipe_in q q2, wipe_in q (by omega)]
    · rw [List.getElem?_eq_none (by rw [wipe_length]; omega), List.getElem?_eq_none (by rw [wipe_length]; omega)]
  · rw [wipe_out q, wipe_out q, h j q]
section
variable {X : Cx} {G : Gen} {ro fx : Nat → Bool} {e a b c : Expr} {pos : Pos}
theorem FrR.re {w : Wd} : ∀ {e : List D} {σ σ' : L2.St} {m : Fp}, FrR G w e σ m → σ'.length = σ.length → (∀ j : Nat, e[j]? ≠ some D.undef → σ'[j]? = σ[j]?) → FrR G w e σ' m
  | [], σ, σ', m, h, hl, hj => by
    obtain ⟨rfl, rfl⟩ := h
    exact ⟨List.length_eq_zero_iff.mp hl, rfl⟩
  | d :: e, σ, σ', m, h, hl, hj => by
    obtain ⟨s, σ1, m1, m2, rfl, h1, h2, rfl⟩ := h
    cases σ' with
    | nil => simp at hl
    | cons s' σ2 =>
      refine ⟨s', σ2, m1, m2, rfl, ?_, FrR.re h2 (by simpa using hl) (fun j q => by have := hj (j + 1) (by simpa using q); simpa using this), rfl⟩
      rcases h1 with h1 | ⟨v, e1, r⟩
      · exact .inl h1
      · refine .inr ⟨v, ?_, r⟩
        have := hj 0 (by
          intro z
          simp only [List.getElem?_cons_zero, Option.some.injEq] at z
          subst z
          simp only [Rep] at r)
        simp only [List.getElem?_cons_zero, Option.some.injEq] at this
        rw [this, e1]
theorem SK.wipe1 {R : List RoE} {w : Wd} {e : List D} {σ : L2.St} {m k : Fp} {i : Nat} (S : SK G ro R w e σ m k) (hr : ro i = false) : ∃ m', SK G ro R w (e.set i .undef) (σ.set i none) m' k ∧ ∀ b, m' b ≤ m b := by
  obtain ⟨m2, f, l⟩ := S.fr.drop i none
  refine ⟨m2, ⟨S.world, S.own.le fun b => by have := l b; simp; omega, by rw [mask_set hr]; exact f, fun q hq => ?_, S.cov⟩, l⟩
  have a := S.ros q hq
  have ne : q.i ≠ i := fun z => by
    have z' := S.cov.2 q hq
    rw [z, hr] at z'; cases z'
  refine ⟨by rw [List.getElem?_set_ne (Ne.symm ne)]; exact a.ed, by rw [List.getElem?_set_ne (Ne.symm ne)]; exact a.sv, a.rep, a.own, fun b => ?_⟩
  have h1 := a.apart b
  have h2 := l b
  simp at *; omega
theorem SK.wipe {R : List RoE} {w : Wd} {e : List D} {σ : L2.St} {m k : Fp} : ∀ {vs : List Nat}, noR ro vs = true → SK G ro R w e σ m k → ∃ m', SK G ro R w (undefs vs e) (L2.wipe σ vs) m' k ∧ ∀ b, m' b ≤ m b
  | [], _, S => ⟨m, S, fun _ => Nat.le_refl _⟩
  | v :: vs, h, S => by
    simp only [noR, Bool.and_eq_true, Bool.not_eq_true'] at h
    obtain ⟨m1, S1, l1⟩ := SK.wipe h.2 S
    obtain ⟨m2, S2, l2⟩ := S1.wipe1 h.1
    exact ⟨m2, S2, fun b => Nat.le_trans (l2 b) (l1 b)⟩
theorem SK.unwipe {R : List RoE} {w : Wd} {e : List D} {σ : L2.St} {m k : Fp} {vs : List Nat} (h : noR ro vs = true) (S : SK G ro R w (undefs vs e) (L2.wipe σ vs) m k) : SK G ro R w (undefs vs e) σ m k := by
  have hl : σ.length = (L2.wipe σ vs).length := (wipe_length σ vs).symm
  have hl2 : e.length = σ.length := by
    have := S.len
    rwa [undefs_len, wipe_length] at this
  refine ⟨S.world, S.own, S.fr.re hl fun j hj => ?_, fun q hq => ?_, S.cov⟩
  · by_cases q : j ∈ vs
    · by_cases q2 : j < e.length
      · have nr : ro j = false := by
          cases z : ro j with
          | false => rfl
          | true => exact absurd q (noR_mem h j z)
        rw [mask_get nr, undefs_in q q2] at hj
        exact absurd rfl hj
      · rw [List.getElem?_eq_none (by omega), List.getElem?_eq_none (by rw [wipe_length]; omega)]
    · rw [wipe_out q]
  · have a := S.ros q hq
    refine ⟨a.ed, ?_, a.rep, a.own, a.apart⟩
    have := a.sv
    rwa [wipe_out (noR_mem h _ (S.cov.2 q hq))] at this

/-- one more at the end of an owned list -/
theorem Rep.pushL {w : Wd} {a : Addr} {xs : List D} {d : D} {v : V} {m m1 : Fp} (W : World G w) (r : Rep G w (.lst true xs) (.ref a) m) (O : Own w (Fp.add m m1)) (rd : Rep G w d v m1) (hl : xs.length < sizeLine) :
    ∃ vs, w.h a = some (.lst vs) ∧ vs.length = xs.length ∧ m a ≠ 0 ∧ World G (w.new a (.lst (vs ++ [v]))) ∧ Rep G (w.new a (.lst (vs ++ [v]))) (.lst true (xs ++ [d])) (.ref a) (Fp.add m m1) ∧ Own (w.new a (.lst (vs ++ [v]))) (Fp.add m m1) ∧ ∀ k : Fp, k a ≠ 0 → Ext k w (w.new a (.lst (vs ++ [v]))) k := by
  simp only [Rep] at r
  obtain ⟨a', vs, m', ea, h1, h2, rfl⟩ := r
  cases ea
  obtain ⟨p1, p2, p3, p4⟩ := Rep.push W h1.1 O h2 rd (by rw [← h2.len]; exact hl)
  refine ⟨vs, h1.1, h2.len.symm, fl_at, p1, ?_, p3, p4⟩
  simp only [Rep]
  exact ⟨a, vs ++ [v], Fp.add m' m1, rfl, ⟨upd_same, fun q => nomatch q⟩, p2, by simp [fl, Fp.add_assoc]⟩

/-! ### comprehensions that change nothing -/
def compP (T : Tg) (t : EvT) (f : Ev) (e0 : List D) : List D → Option (List D)
  | [] => some []
  | x :: xs => match bindN T x e0 with
    | some e1 => match t e1 with
      | some true => match f e1 with
        | some y => match compP T t f e0 xs with
          | some ys => some (y :: ys)
          | none => none
        | none => none
      | some false => compP T t f e0 xs
      | none => none
    | none => none
def pLc (s : EvI) (T : Tg) (own : List Nat) (t : EvT) (f : Ev) : Ev := fun e => match s e with
  | some xs => if lim xs.length = true then match compP T t f (undefs own e) xs with
      | some ys => some (.lst true ys)
      | none => none
    else none
  | none => none
def tYesT : EvT := fun _ => some true
theorem ts_nil : PTs X [] (tT G ro tYesT) := ⟨fun pins s σ H Q I ⟨R, w, e, m, b, e0, S, hf, k⟩ => by
  cases hf; subst e0
  exact pts_nil.run pins s σ _ Q I (k w S (Ext.refl _ _))⟩
theorem ts_one {t : EvT} (h : PT X c (tT G ro t)) : PTs X [c] (tT G ro t) := pts_one h
theorem tsM_nil : PTs X [] (tTM G ro (mT tYesT)) := ⟨fun pins s σ H Q I ⟨R, w, e, m, b, e', e0, S, hf, k⟩ => by
  cases hf; subst e0
  exact pts_nil.run pins s σ _ Q I (k w m S (Ext.refl _ _))⟩
theorem tsM_one {t : EvTM} (h : PT X c (tTM G ro t)) : PTs X [c] (tTM G ro t) := pts_one h
theorem Rep.grow {w w' : Wd} {d : D} {v : V} {m k' : Fp} (x : Ext Fp.zero w w' k') (W : World G w) (O : Own w m) (r : Rep G w d v m) : Rep G w' d v m := Rep.ext x W Own.zero d v m (fun _ => .inr rfl) O r
theorem lc_ok {s : EvI} {T : Tg} {own : List Nat} {t : EvT} {f : Ev} (h1 : noR ro own = true) (hT : ∀ j ∈ T.ix, j ∈ own) (h2 : noR ro T.ix = true) {σ : L2.St} {H : Hp} {Q : VK} (hh : tP G ro (pLc s T own t f) σ H Q) : tLc (tIB G ro s) (tgR G.K T) (tT G ro t) (tP G ro f) own σ H Q := by
  obtain ⟨R, w, e, m, d, rfl, S, hf, k⟩ := hh
  unfold pLc at hf
  split at hf
  · rename_i xs hs
    split at hf
    · rename_i hlim
      split at hf
      · rename_i ys hys
        cases hf
        refine ⟨R, w, e, m, xs, rfl, S, hs, fun J w1 mh Pk S1 I p1 x1 D hD => ?_⟩
        let W : Nat → Nat → Hp → Prop := fun i n H' => n = xs.length - i ∧ i ≤ xs.length ∧ ∃ w2 acc ma ysR, w2.h = H' ∧ SK G ro R w2 e σ m ma ∧ Rep G w2 (.lst true acc) (.ref D) ma ∧ Pk w2 ∧ Ext Fp.zero w w2 ma ∧ w1.h D = none ∧ (∀ b, mh b ≠ 0 → w1.h b ≠ none) ∧ compP T t f (undefs own e) (xs.drop i) = some ysR ∧ ys = acc ++ ysR ∧ acc.length ≤ i
        have th0 := I.there w1 p1
        have apD : Apart mh (Fp.one D) := fun b => by
          by_cases q : b = D
          · subst q; exact .inl (Classical.byContradiction fun z => th0 b z hD)
          · exact .inr (Fp.one_ne q)
        refine ⟨W, ⟨xs.length, rfl, Nat.zero_le _, ?_⟩, ?_⟩
        · obtain ⟨n1, n2, _, _⟩ := S1.newO (o := .lst []) (fun b q => absurd rfl q) hD (Nat.zero_le _)
          rw [Fp.zero_add] at n1 n2
          refine ⟨w1.new D (.lst []), [], Fp.one D, ys, rfl, n1, ?_, I.stay w1 _ Fp.zero _ S1.world (fun _ => .inr rfl) Own.zero p1 n2 n1.world, x1.trans n2, hD, th0, hys, rfl, Nat.le_refl _⟩
          simp only [Rep]
          exact ⟨D, [], Fp.zero, rfl, ⟨upd_same, fun q => nomatch q⟩, RepL.nil, by simp [fl]⟩
        · rintro i n H2 ⟨rfl, hil, w2, acc, ma, ysR, rfl, S2, r2, p2, x2, _, _, hr, hys2, hal⟩
          cases hd : xs.drop i with
          | nil =>
            have hl := drop_nil hd
            have ei : i = xs.length := by omega
            subst ei
            rw [hd] at hr
            cases hr
            rw [List.append_nil] at hys2
            subst hys2
            exact .inl ⟨I.stop w2 p2 S2.world, k (.ref D) w2 ma S2 r2 x2⟩
          | cons x xs' =>
            obtain ⟨hx, hy⟩ := drop_cons hd
            have hlt : i < xs.length := (List.getElem?_eq_some_iff.mp hx).1
            rw [hd] at hr
            simp only [compP] at hr
            split at hr
            · rename_i e1 hb1
              refine .inr ⟨I.go w2 i x p2 S2.world hx, W (i + 1) (xs.length - (i + 1)), fun H' z => ⟨_, by omega, z⟩, fun v H' y => ?_⟩
              obtain ⟨w3, rfl, W3, x3, r3⟩ := I.yld w2 i x v H' p2 S2.world hx y
              have S3 := S2.grow (Rep.there _ _ _ r2) x3 W3
              have p3 := I.stay w2 w3 Fp.zero Fp.zero S2.world (fun _ => .inr rfl) Own.zero p2 x3 W3
              have rc3 := Rep.grow x3 S2.world S2.own.right r2
              have y3 : Ext Fp.zero w w3 ma := x2.trans (by have := x3.frame (m := ma); rwa [Fp.add_zero] at this)
              obtain ⟨m3, S3w, l3⟩ := SK.wipe h1 S3
              refine tgR_ok h2 S3w r3 hb1 fun σ4 m4 S4 l4 fk4 hl4 => ?_
              have hw : wipe σ4 own = wipe σ own := by
                have : wipe σ4 own = wipe (wipe σ own) own := wipe_same hl4 fun j hj => fk4 j fun z => hj (hT j z)
                rw [this]
                exact wipe_same (wipe_length σ own) fun j hj => wipe_out hj
              have hww : wipe σ4 own = wipe (wipe σ own) own ∨ True := .inr trivial
              refine ⟨hw, ?_⟩
              split at hr
              · rename_i ht
                split at hr
                · rename_i yv hfy
                  split at hr
                  · rename_i ys' hys'
                    cases hr
                    refine ⟨R, w3, e1, m4, true, rfl, S4.zero, ht, fun w5 S5 x5 => ?_⟩
                    refine iteT ?_
                    have T5 := S3.grow (Rep.there _ _ _ rc3) x5 S5.world
                    have p5 := I.stay w3 w5 Fp.zero Fp.zero S3.world (fun _ => .inr rfl) Own.zero p3 x5 S5.world
                    have rc5 := Rep.grow x5 S3.world S3.own.right rc3
                    have y5 : Ext Fp.zero w w5 ma := y3.trans (by have := x5.frame (m := ma); rwa [Fp.add_zero] at this)
                    refine ⟨R, w5, e1, m4, yv, rfl, S5, hfy, fun v6 w6 md S6 r6 x6 => ?_⟩
                    have T6 := T5.holdP (Rep.there _ _ _ rc5) x6 S6.world S6.own.right
                    have p6 := I.stay w5 w6 Fp.zero md S5.world (fun _ => .inr rfl) Own.zero p5 x6 S6.world
                    have rc6 := Rep.grow x6 S5.world T5.own.right rc5
                    have y6 : Ext Fp.zero w w6 (Fp.add ma md) := y5.trans (by have := x6.frame (m := ma); rwa [Fp.add_zero] at this)
                    have accl : acc.length < sizeLine := by have := lim_size hlim; omega
                    obtain ⟨vs, hv1, hv2, hv3, W7, rc7, O7, X7⟩ := Rep.pushL T6.world rc6 T6.own.right r6 accl
                    refine ⟨vs, hv1, by omega, rfl, hlt, w6.new D (.lst (vs ++ [v6])), acc ++ [yv], Fp.add ma md, ys', rfl, T6.step (X7 _ (by simp; omega)) W7 O7, rc7, ?_, y6.trans (X7 _ (by simp; omega)), hD, th0, by rw [hy]; exact hys', by rw [hys2]; simp, by simp; omega⟩
                    refine I.stay w6 _ (Fp.one D) (Fp.one D) T6.world apD ?_ p6 (X7 _ (by rw [Fp.one_same]; decide)) W7
                    have oo := (T6.own.right.left D).2 hv3
                    exact Own.one oo.1 oo.2
                  · cases hr
                · cases hr
              · rename_i ht
                refine ⟨R, w3, e1, m4, false, rfl, S4.zero, ht, fun w5 S5 x5 => ?_⟩
                refine iteF ?_
                have T5 := S3.grow (Rep.there _ _ _ rc3) x5 S5.world
                have p5 := I.stay w3 w5 Fp.zero Fp.zero S3.world (fun _ => .inr rfl) Own.zero p3 x5 S5.world
                have rc5 := Rep.grow x5 S3.world S3.own.right rc3
                have y5 : Ext Fp.zero w w5 ma := y3.trans (by have := x5.frame (m := ma); rwa [Fp.add_zero] at this)
                exact ⟨rfl, hlt, w5, acc, ma, ysR, rfl, T5, rc5, p5, y5, hD, th0, by rw [hy]; exact hr, hys2, by omega⟩
              · cases hr
            · cases hr
      · cases hf
    · cases hf
  · cases hf
end
end TL
end
section
set_option maxRecDepth 100000
/-! The tree layer, part O: list comprehensions that may change trees; the rules. -/
namespace TL
open PySem PySem.Spec PyProof.Rows L2
section
variable {X : Cx} {G : Gen} {ro fx : Nat → Bool} {e a b c : Expr} {pos : Pos}
def compM (T : Tg) (own : List Nat) (t : EvTM) (f : EvM) : List D → EvLM
  | [] => fun e => some ([], undefs own e)
  | x :: xs => fun e => match bindN T x (undefs own e) with
    | some e1 => match t e1 with
      | some (true, e2) => match f e2 with
        | some (y, e3) => match compM T own t f xs e3 with
          | some (ys, e4) => some (y :: ys, e4)
          | none => none
        | none => none
      | some (false, e2) => compM T own t f xs e2
      | none => none
    | none => none
def mLc (s : EvIM) (T : Tg) (own : List Nat) (t : EvTM) (f : EvM) : EvM := fun e => match s e with
  | some (xs, e1) => if lim xs.length = true then match compM T own t f xs e1 with
      | some (ys, e2) => some (.lst true ys, e2)
      | none => none
    else none
  | none => none
theorem Rep.growM {w w' : Wd} {d : D} {v : V} {m k k' : Fp} (x : Ext k w w' k') (W : World G w) (O : Own w (Fp.add k m)) (r : Rep G w d v m) : Rep G w' d v m := Rep.ext x W O.left d v m O.apart.symm O.right r
theorem lcM_ok {s : EvIM} {T : Tg} {own : List Nat} {t : EvTM} {f : EvM} (h1 : noR ro own = true) (hT : ∀ j ∈ T.ix, j ∈ own) (h2 : noR ro T.ix = true) {σ : L2.St} {H : Hp} {Q : VK} (hh : tM G ro (mLc s T own t f) σ H Q) : tLc (tIM G ro s) (tgR G.K T) (tTM G ro t) (tM G ro f) own σ H Q := by
  obtain ⟨R, w, e, m, d, e', rfl, S, hf, k⟩ := hh
  unfold mLc at hf
  split at hf
  · rename_i xs e1 hs
    split at hf
    · rename_i hlim
      split at hf
      · rename_i ys e2 hys
        cases hf
        refine ⟨R, w, e, m, xs, e1, rfl, S, hs, fun J w1 mh m1 Pk S1 I p1 x1 D hD => ?_⟩
        let W : Nat → Nat → Hp → Prop := fun i n H' => n = xs.length - i ∧ i ≤ xs.length ∧ ∃ w2 e3 m2 acc ma ysR, w2.h = H' ∧ SK G ro R w2 (undefs own e3) (wipe σ own) m2 (Fp.add ma mh) ∧ Rep G w2 (.lst true acc) (.ref D) ma ∧ Pk w2 ∧ Ext m w w2 (Fp.add m2 (Fp.add ma mh)) ∧ compM T own t f (xs.drop i) e3 = some (ysR, e') ∧ ys = acc ++ ysR ∧ acc.length ≤ i
        have t1 := I.there w1 p1
        refine ⟨W, ⟨xs.length, rfl, Nat.zero_le _, ?_⟩, ?_⟩
        · obtain ⟨n1, n2, _, _⟩ := S1.newO (o := .lst []) t1 hD (Nat.zero_le _)
          rw [Fp.add_comm mh] at n1 n2
          obtain ⟨m2, n3, l3⟩ := SK.wipe h1 n1
          have px : Pk (w1.new D (.lst [])) := I.stay w1 _ Fp.zero (Fp.one D) S1.world (by rw [Fp.zero_add]; exact S1.own.right) p1 (Ext.new hD fun b q => Classical.byContradiction fun n => q (Fp.one_ne n))
          refine ⟨w1.new D (.lst []), e1, m2, [], Fp.one D, ys, rfl, n3, ?_, px, ?_, hys, rfl, Nat.le_refl _⟩
          · simp only [Rep]
            exact ⟨D, [], Fp.zero, rfl, ⟨upd_same, fun q => nomatch q⟩, RepL.nil, by simp [fl]⟩
          · refine (x1.trans (n2.frame (m := m1))).less fun b q => ?_
            have := l3 b; simp at *; omega
        · rintro i n H2 ⟨rfl, hil, w2, e3, m2, acc, ma, ysR, rfl, S2, r2, p2, x2, hr, hys2, hal⟩
          cases hd : xs.drop i with
          | nil =>
            have hl := drop_nil hd
            have ei : i = xs.length := by omega
            subst ei
            rw [hd] at hr
            cases hr
            rw [List.append_nil] at hys2
            subst hys2
            refine .inl ⟨I.stop w2 p2 S2.world, k (.ref D) w2 ma m2 ((SK.unwipe h1 S2).less fun b => by simp) r2 (x2.less fun b q => by simp at *; omega)⟩
          | cons x xs' =>
            obtain ⟨hx, hy⟩ := drop_cons hd
            have hlt : i < xs.length := (List.getElem?_eq_some_iff.mp hx).1
            rw [hd] at hr
            simp only [compM] at hr
            split at hr
            · rename_i e4 hb1
              refine .inr ⟨I.go w2 i x p2 S2.world hx, W (i + 1) (xs.length - (i + 1)), fun H' z => ⟨_, by omega, z⟩, fun v H' y => ?_⟩
              have t2 : ∀ b, Fp.add ma mh b ≠ 0 → w2.h b ≠ none := fun b q => by
                by_cases z : ma b = 0
                · exact I.there w2 p2 b (by simpa [z] using q)
                · exact Rep.there _ _ _ r2 b z
              obtain ⟨w3, rfl, W3, x3, r3⟩ := I.yld w2 i x v H' p2 S2.world hx y
              have S3 := S2.grow t2 x3 W3
              have p3 := I.stay w2 w3 Fp.zero Fp.zero S2.world (by rw [Fp.zero_add]; exact S2.own.right.right) p2 x3
              have rc3 := Rep.grow x3 S2.world S2.own.right.left r2
              have t3 : ∀ b, Fp.add ma mh b ≠ 0 → w3.h b ≠ none := fun b q => x3.all b (t2 b q)
              have y3 : Ext m w w3 (Fp.add m2 (Fp.add ma mh)) := x2.trans (by have := x3.frame (m := Fp.add m2 (Fp.add ma mh)); rwa [Fp.add_zero] at this)
              refine tgR_ok h2 S3 r3 hb1 fun σ4 m4 S4 l4 fk4 hl4 => ?_
              have y4 : Ext m w w3 (Fp.add m4 (Fp.add ma mh)) := y3.less fun b q => by have := l4 b; simp at *; omega
              have hw : wipe σ4 own = wipe σ own := by
                have : wipe σ4 own = wipe (wipe σ own) own := wipe_same hl4 fun j hj => fk4 j fun z => hj (hT j z)
                rw [this]
                exact wipe_same (wipe_length σ own) fun j hj => wipe_out hj
              refine ⟨hw, ?_⟩
              split at hr
              · rename_i e5 ht
                split at hr
                · rename_i yv e6 hfy
                  split at hr
                  · rename_i ys' e7 hys'
                    cases hr
                    refine ⟨R, w3, e4, m4, true, e5, rfl, S4.zero, ht, fun w5 m5 S5 x5 => ?_⟩
                    refine iteT ?_
                    have T5 := S4.hold t3 (k' := Fp.zero) (by rw [Fp.add_zero]; exact x5) S5
                    rw [Fp.zero_add] at T5
                    have t5 : ∀ b, Fp.add ma mh b ≠ 0 → w5.h b ≠ none := fun b q => x5.all b (t3 b q)
                    have o4 : Own w3 (Fp.add m4 mh) := S4.own.le fun b => by simp
                    have p5 := I.stay w3 w5 m4 m5 S3.world o4 p3 x5
                    have rc5 := Rep.growM (m := ma) x5 S4.world (S4.own.le fun b => by simp) rc3
                    have y5 : Ext m w w5 (Fp.add m5 (Fp.add ma mh)) := y4.trans x5.frameR
                    refine ⟨R, w5, e5, m5, yv, e6, rfl, S5, hfy, fun v6 w6 md m6 S6 r6 x6 => ?_⟩
                    have T6 := T5.hold t5 x6 S6
                    have p6 := I.stay w5 w6 m5 _ S5.world (T5.own.le fun b => by simp) p5 x6
                    have rc6 := Rep.growM (m := ma) x6 S5.world (T5.own.le fun b => by simp) rc5
                    have y6 : Ext m w w6 (Fp.add (Fp.add m6 md) (Fp.add ma mh)) := y5.trans x6.frameR
                    have accl : acc.length < sizeLine := by have := lim_size hlim; omega
                    have o6 : Own w6 (Fp.add ma md) := T6.own.le fun b => by simp; omega
                    obtain ⟨vs, hv1, hv2, hv3, W7, rc7, O7, X7⟩ := Rep.pushL T6.world rc6 o6 r6 accl
                    have x7 : Ext (Fp.add md (Fp.add ma mh)) w6 (w6.new D (.lst (vs ++ [v6]))) (Fp.add md (Fp.add ma mh)) := X7 _ (by simp; omega)
                    have T7 := T6.step x7 W7 T6.own.right.keep
                    have p7 : Pk (w6.new D (.lst (vs ++ [v6]))) := by
                      refine I.stay w6 _ (Fp.one D) (Fp.one D) T6.world ?_ p6 (X7 _ (by rw [Fp.one_same]; decide))
                      refine T6.own.le fun b => ?_
                      by_cases q : b = D
                      · subst q; rw [Fp.add_at, Fp.one_same]; simp; omega
                      · rw [Fp.add_at, Fp.one_ne q]; simp; omega
                    have e7' : Fp.add md (Fp.add ma mh) = Fp.add (Fp.add ma md) mh := by rw [Fp.add_left_comm, Fp.add_assoc]
                    rw [e7'] at T7
                    obtain ⟨m8, T8, l8⟩ := SK.wipe h1 T7
                    rw [hw] at T8
                    refine ⟨vs, hv1, by omega, rfl, hlt, w6.new D (.lst (vs ++ [v6])), e6, m8, acc ++ [yv], Fp.add ma md, ys', rfl, T8, rc7, p7, ?_, by rw [hy]; exact hys', by rw [hys2]; simp, by simp; omega⟩
                    refine (y6.trans (X7 _ (by simp; omega))).less fun b q => ?_
                    have := l8 b; simp at *; omega
                  · cases hr
                · cases hr
              · rename_i e5 ht
                refine ⟨R, w3, e4, m4, false, e5, rfl, S4.zero, ht, fun w5 m5 S5 x5 => ?_⟩
                refine iteF ?_
                have T5 := S4.hold t3 (k' := Fp.zero) (by rw [Fp.add_zero]; exact x5) S5
                rw [Fp.zero_add] at T5
                have o4 : Own w3 (Fp.add m4 mh) := S4.own.le fun b => by simp
                have p5 := I.stay w3 w5 m4 m5 S3.world o4 p3 x5
                have rc5 := Rep.growM (m := ma) x5 S4.world (S4.own.le fun b => by simp) rc3
                have y5 : Ext m w w5 (Fp.add m5 (Fp.add ma mh)) := y4.trans x5.frameR
                obtain ⟨m8, T8, l8⟩ := SK.wipe h1 T5
                rw [hw] at T8
                exact ⟨rfl, hlt, w5, e5, m8, acc, ma, ysR, rfl, T8, rc5, p5, y5.less fun b q => by have := l8 b; simp at *; omega, by rw [hy]; exact hr, hys2, by omega⟩
              · cases hr
            · cases hr
      · cases hf
    · cases hf
  · cases hf

/-! ### the rules -/
abbrev BlkF (X : Cx) (scope : Scope) (P : Cx → Prop) : Prop := ∀ (s : Shared) (H : Hp) (C : Addr) (cl : List (Str × Addr)) (fp : List Addr), P (X.blk s H scope (compEnvC scope cl C X.env) fp)
theorem Fit.blk (F : Fit X G) (s : Shared) (H : Hp) (scope : Scope) (cenv : Env) (fp : List Addr) : Fit (X.blk s H scope cenv fp) G := ⟨F.K, F.P, F.W, F.calm, F.units⟩
def ixOk (ro : Nat → Bool) (T : Tg) (own : List Nat) : Bool := noR ro own && noR ro T.ix && T.ix.all fun j => own.contains j
theorem ixOk_all {T : Tg} {own : List Nat} (h : ixOk ro T own = true) : noR ro own = true ∧ noR ro T.ix = true ∧ ∀ j ∈ T.ix, j ∈ own := by
  unfold ixOk at h
  simp only [Bool.and_eq_true, List.all_eq_true, List.contains_iff_mem] at h
  exact ⟨h.1.1, h.1.2, h.2⟩
section
variable {elt tg iter : Expr} {ifs : List Expr} {scope : Scope} {own : List (Str × Nat)} {s : EvI} {sM : EvIM} {T : Tg} {t : EvT} {tM' : EvTM} {f : Ev} {h : EvM}
theorem r_lc (F : Fit X G) (hN : X.N.Nodup) (ok : BlkOk X.N X.env.scope scope own) (hi : PI X tg iter (tIB G ro s)) (hg : BlkF X scope fun Y => Fit Y G → TgOk Y G tg T) (ht : BlkF X scope fun Y => Fit Y G → PTs Y ifs (tT G ro t)) (he : BlkF X scope fun Y => Fit Y G → PE Y elt (tP G ro f))
    (hix : ixOk ro T (own.map (·.2)) = true := by rfl) (hs : ∀ x, foldedSetIterable iter X.env x = pure x := by intro _; rfl) : PE X (.ListComp elt [⟨tg, iter, ifs, 0⟩] scope pos) (tP G ro (pLc s T (own.map (·.2)) t f)) := by
  obtain ⟨i1, i2, i3⟩ := ixOk_all hix
  exact PE.weak (pe_lc F.calm hN hi ok (fun s H C cl fp => (hg s H C cl fp (F.blk _ _ _ _ _)).ok) (fun s H C cl fp => ht s H C cl fp (F.blk _ _ _ _ _)) (fun s H C cl fp => he s H C cl fp (F.blk _ _ _ _ _)) hs) fun σ H Q q => lc_ok i1 i3 i2 q
theorem rM_lc (F : Fit X G) (hN : X.N.Nodup) (ok : BlkOk X.N X.env.scope scope own) (hi : PI X tg iter (tIM G ro sM)) (hg : BlkF X scope fun Y => Fit Y G → TgOk Y G tg T) (ht : BlkF X scope fun Y => Fit Y G → PTs Y ifs (tTM G ro tM')) (he : BlkF X scope fun Y => Fit Y G → PE Y elt (tM G ro h))
    (hix : ixOk ro T (own.map (·.2)) = true := by rfl) (hs : ∀ x, foldedSetIterable iter X.env x = pure x := by intro _; rfl) : PE X (.ListComp elt [⟨tg, iter, ifs, 0⟩] scope pos) (tM G ro (mLc sM T (own.map (·.2)) tM' h)) := by
  obtain ⟨i1, i2, i3⟩ := ixOk_all hix
  exact PE.weak (pe_lc F.calm hN hi ok (fun s H C cl fp => (hg s H C cl fp (F.blk _ _ _ _ _)).ok) (fun s H C cl fp => ht s H C cl fp (F.blk _ _ _ _ _)) (fun s H C cl fp => he s H C cl fp (F.blk _ _ _ _ _)) hs) fun σ H Q q => lcM_ok i1 i3 i2 q
theorem gName_ok {i : Nat} (hr : ro i = false) (hf : fx i = false) {v : V} {σ : L2.St} {H : Hp} {Q : L2.St → Hp → Prop} (q : tGt G ro fx (gNm i) v σ H Q) : gName i v σ H Q := by
  obtain ⟨R, w, e, m, d, md, e', e0, S, r, hg, k⟩ := q
  unfold gNm at hg
  split at hg
  · rename_i hl
    cases hg
    subst e0
    obtain ⟨m', S', l⟩ := SK.put (k := Fp.zero) (by rw [Fp.add_zero]; exact S) r hr hl
    exact k w _ m' S' ((Ext.refl _ _).less fun b q => by have := l b; simp; omega) (get_set_fx hf)
  · cases hg
/-- name = [..] -/
theorem s_setLc {y : Str} {py spos : Pos} (i : Nat) (F : Fit X G) (hN : X.N.Nodup) (ok : BlkOk X.N X.env.scope scope own) (hi : PI X tg iter (tIM G ro sM)) (hg : BlkF X scope fun Y => Fit Y G → TgOk Y G tg T) (ht : BlkF X scope fun Y => Fit Y G → PTs Y ifs (tTM G ro tM')) (he : BlkF X scope fun Y => Fit Y G → PE Y elt (tM G ro h))
    (hr : ro i = false := by rfl) (hf : fx i = false := by rfl) (hix : ixOk ro T (own.map (·.2)) = true := by rfl) (hy : X.N[i]? = some y := by rfl) (hyl : X.env.scope.names.lookup y = some .local := by rfl)
    (hsw : swapsWith (.ListComp elt [⟨tg, iter, ifs, 0⟩] scope pos) (some (.Name y py)) spos.line X.env = pure true := by rfl) (hs : ∀ x, foldedSetIterable iter X.env x = pure x := by intro _; rfl) :
    PS X (.Assign [.Name y py] (.ListComp elt [⟨tg, iter, ifs, 0⟩] scope pos) spos) (tS G ro fx (sAsg (mLc sM T (own.map (·.2)) tM' h) (gNm i))) := by
  obtain ⟨i1, i2, i3⟩ := ixOk_all hix
  exact PS.weak (ps_setLc F.calm hN hy hyl hsw hi ok (fun s H C cl fp => (hg s H C cl fp (F.blk _ _ _ _ _)).ok) (fun s H C cl fp => ht s H C cl fp (F.blk _ _ _ _ _)) (fun s H C cl fp => he s H C cl fp (F.blk _ _ _ _ _)) hs) fun Dn σ H q => asg_ok (fun _ q => lcM_ok i1 i3 i2 q) (fun v σ H Q q => gName_ok hr hf q) q
theorem s_setLcP {y : Str} {py spos : Pos} (i : Nat) (F : Fit X G) (hN : X.N.Nodup) (ok : BlkOk X.N X.env.scope scope own) (hi : PI X tg iter (tIB G ro s)) (hg : BlkF X scope fun Y => Fit Y G → TgOk Y G tg T) (ht : BlkF X scope fun Y => Fit Y G → PTs Y ifs (tT G ro t)) (he : BlkF X scope fun Y => Fit Y G → PE Y elt (tP G ro f))
    (hr : ro i = false := by rfl) (hf : fx i = false := by rfl) (hix : ixOk ro T (own.map (·.2)) = true := by rfl) (hy : X.N[i]? = some y := by rfl) (hyl : X.env.scope.names.lookup y = some .local := by rfl)
    (hsw : swapsWith (.ListComp elt [⟨tg, iter, ifs, 0⟩] scope pos) (some (.Name y py)) spos.line X.env = pure true := by rfl) (hs : ∀ x, foldedSetIterable iter X.env x = pure x := by intro _; rfl) :
    PS X (.Assign [.Name y py] (.ListComp elt [⟨tg, iter, ifs, 0⟩] scope pos) spos) (tS G ro fx (sAsg (mP (pLc s T (own.map (·.2)) t f)) (gNm i))) := by
  obtain ⟨i1, i2, i3⟩ := ixOk_all hix
  exact PS.weak (ps_setLc F.calm hN hy hyl hsw hi ok (fun s H C cl fp => (hg s H C cl fp (F.blk _ _ _ _ _)).ok) (fun s H C cl fp => ht s H C cl fp (F.blk _ _ _ _ _)) (fun s H C cl fp => he s H C cl fp (F.blk _ _ _ _ _)) hs) fun Dn σ H q => asg_ok (fun Q ⟨R, w, e, m, d, e', e0, S, hf, k⟩ => by
    unfold mP at hf
    split at hf
    · rename_i d' hd
      cases hf
      exact lc_ok i1 i3 i2 ⟨R, w, e, m, d, e0, S, hd, fun v w' md S' r x => k v w' md m S' r (by have := x.frame (m := m); rwa [Fp.add_zero] at this)⟩
    · cases hf) (fun v σ H Q q => gName_ok hr hf q) q
end
end
end TL
end
section
set_option maxRecDepth 100000
/-! The tree layer, part P: defs and calls. -/
namespace TL
open PySem PySem.Spec PyProof.Rows L2

/-- how a parameter is handed: looked at, lent (and given back), given away -/
inductive Md where
  | ro
  | io
  | mv
section
variable {G : Gen} {w : Wd}
/-- arguments: m owned by those lent or given -/
def ArgR (G : Gen) (w : Wd) (T : Fp) : List Md → List D → List V → Fp → Prop
  | [], ds, vs, m => ds = [] ∧ vs = [] ∧ m = Fp.zero
  | .ro :: ms, ds, vs, m => ∃ d ds' v vs' mr, ds = d :: ds' ∧ vs = v :: vs' ∧ Rep G w d v mr ∧ Own w mr ∧ Apart mr T ∧ ArgR G w T ms ds' vs' m
  | .io :: ms, ds, vs, m => ∃ d ds' v vs' m1 m2, ds = d :: ds' ∧ vs = v :: vs' ∧ Rep G w d v m1 ∧ ArgR G w T ms ds' vs' m2 ∧ m = Fp.add m1 m2
  | .mv :: ms, ds, vs, m => ∃ d ds' v vs' m1 m2, ds = d :: ds' ∧ vs = v :: vs' ∧ Rep G w d v m1 ∧ ArgR G w T ms ds' vs' m2 ∧ m = Fp.add m1 m2
/-- what is given back -/
def BackR (G : Gen) (w : Wd) : List Md → List D → List V → Fp → Prop
  | [], _, _, m => m = Fp.zero
  | .io :: ms, ds, vs, m => ∃ d ds' v vs' m1 m2, ds = d :: ds' ∧ vs = v :: vs' ∧ SlotR G w d (some v) m1 ∧ BackR G w ms ds' vs' m2 ∧ m = Fp.add m1 m2
  | .ro :: ms, ds, vs, m => ∃ d ds' v vs', ds = d :: ds' ∧ vs = v :: vs' ∧ BackR G w ms ds' vs' m
  | .mv :: ms, ds, vs, m => ∃ d ds' v vs', ds = d :: ds' ∧ vs = v :: vs' ∧ BackR G w ms ds' vs' m
abbrev Fn := List D → Option (D × List D)
/-- a def's promise by trees -/
def spF (G : Gen) (md : List Md) (f : Fn) : Sp := fun vs H Q _ => ∃ w ds m d ds', w.h = H ∧ World G w ∧ Own w m ∧ ArgR G w m md ds vs m ∧ f ds = some (d, ds') ∧
  ∀ v w' mv mb, World G w' → Rep G w' d v mv → BackR G w' md ds' vs mb → Own w' (Fp.add mb mv) → Ext m w w' (Fp.add mb mv) → Q v w'.h
theorem ArgR.len {T : Fp} : ∀ {md : List Md} {ds : List D} {vs : List V} {m : Fp}, ArgR G w T md ds vs m → vs.length = md.length ∧ ds.length = md.length
  | [], ds, vs, m, h => by obtain ⟨rfl, rfl, _⟩ := h; exact ⟨rfl, rfl⟩
  | .ro :: ms, ds, vs, m, h => by
    obtain ⟨d, ds', v, vs', mr, rfl, rfl, _, _, _, h⟩ := h
    simp [h.len.1, h.len.2]
  | .io :: ms, ds, vs, m, h => by
    obtain ⟨d, ds', v, vs', m1, m2, rfl, rfl, _, h, _⟩ := h
    simp [h.len.1, h.len.2]
  | .mv :: ms, ds, vs, m, h => by
    obtain ⟨d, ds', v, vs', m1, m2, rfl, rfl, _, h, _⟩ := h
    simp [h.len.1, h.len.2]
theorem spF_len {md : List Md} {f : Fn} : ∀ vs H Q E, spF G md f vs H Q E → vs.length = md.length := fun vs H Q E ⟨w, ds, m, d, ds', _, _, _, h, _⟩ => h.len.1
def roOf (md : List Md) : Nat → Bool := fun i => match md[i]? with
  | some .ro => true
  | _ => false
def fxOf (md : List Md) : Nat → Bool := fun i => match md[i]? with
  | some .ro => true
  | some .io => true
  | _ => false
/-- what a def does: loc locals behind its parameters -/
def runF (md : List Md) (loc : Nat) (b : EvS) : Fn := fun ds => match b (ds ++ List.replicate loc .undef) with
  | some (.rt d, e') => if md.length ≤ e'.length then some (d, e'.take md.length) else none
  | some (.nx, e') => if md.length ≤ e'.length then some (.non, e'.take md.length) else none
  | _ => none

theorem frU : ∀ (ro : Nat → Bool) (n k : Nat), FrR G w (maskN ro n (List.replicate k .undef)) (List.replicate k none) Fp.zero
  | ro, n, 0 => ⟨rfl, rfl⟩
  | ro, n, k + 1 => by
    simp only [List.replicate_succ, maskN]
    exact ⟨none, List.replicate k none, Fp.zero, Fp.zero, rfl, .inl ⟨by split <;> rfl, rfl⟩, frU ro (n + 1) k, by simp⟩
theorem frA {T : Fp} {ro : Nat → Bool} {k : Nat} : ∀ {md : List Md} {ds : List D} {vs : List V} {m : Fp} (n : Nat), (∀ i, i < md.length → ro (n + i) = roOf md i) → ArgR G w T md ds vs m →
    FrR G w (maskN ro n (ds ++ List.replicate k .undef)) (vs.map some ++ List.replicate k none) m
  | [], ds, vs, m, n, hr, h => by
    obtain ⟨rfl, rfl, rfl⟩ := h
    exact frU ro n k
  | .ro :: ms, ds, vs, m, n, hr, h => by
    obtain ⟨d, ds', v, vs', mr, rfl, rfl, _, _, _, h⟩ := h
    have r0 : ro n = true := hr 0 (by simp)
    simp only [List.cons_append, maskN, List.map_cons, r0, if_pos]
    exact ⟨some v, _, Fp.zero, m, rfl, .inl ⟨rfl, rfl⟩, frA (n + 1) (fun i hi => by have := hr (i + 1) (by simp; omega); rw [← Nat.add_assoc, Nat.add_right_comm] at this; exact this) h, by simp⟩
  | .io :: ms, ds, vs, m, n, hr, h => by
    obtain ⟨d, ds', v, vs', m1, m2, rfl, rfl, r, h, rfl⟩ := h
    have r0 : ro n = false := hr 0 (by simp)
    simp only [List.cons_append, maskN, List.map_cons, r0]
    exact ⟨some v, _, m1, m2, rfl, .inr ⟨v, rfl, r⟩, frA (n + 1) (fun i hi => by have := hr (i + 1) (by simp; omega); rw [← Nat.add_assoc, Nat.add_right_comm] at this; exact this) h, rfl⟩
  | .mv :: ms, ds, vs, m, n, hr, h => by
    obtain ⟨d, ds', v, vs', m1, m2, rfl, rfl, r, h, rfl⟩ := h
    have r0 : ro n = false := hr 0 (by simp)
    simp only [List.cons_append, maskN, List.map_cons, r0]
    exact ⟨some v, _, m1, m2, rfl, .inr ⟨v, rfl, r⟩, frA (n + 1) (fun i hi => by have := hr (i + 1) (by simp; omega); rw [← Nat.add_assoc, Nat.add_right_comm] at this; exact this) h, rfl⟩
/-- the slots that are looked at alone -/
theorem rosA {T : Fp} : ∀ {md : List Md} {ds : List D} {vs : List V} {m : Fp} (n : Nat), ArgR G w T md ds vs m →
    ∃ R : List RoE, (∀ r ∈ R, ∃ i, r.i = n + i ∧ md[i]? = some .ro ∧ ds[i]? = some r.d ∧ vs[i]? = some r.v ∧ Rep G w r.d r.v r.mr ∧ Own w r.mr ∧ Apart r.mr T) ∧ ∀ i, md[i]? = some .ro → ∃ r ∈ R, r.i = n + i
  | [], ds, vs, m, n, h => ⟨[], fun r hr => by simp at hr, fun i hi => by simp at hi⟩
  | .ro :: ms, ds, vs, m, n, h => by
    obtain ⟨d, ds', v, vs', mr, rfl, rfl, r, o, ap, h⟩ := h
    obtain ⟨R, h1, h2⟩ := rosA (n + 1) h
    refine ⟨⟨n, d, v, mr⟩ :: R, fun q hq => ?_, fun i hi => ?_⟩
    · rcases List.mem_cons.mp hq with e | hq
      · subst e; exact ⟨0, rfl, rfl, rfl, rfl, r, o, ap⟩
      · obtain ⟨i, e1, e2, e3, e4, e5⟩ := h1 q hq
        exact ⟨i + 1, by omega, by simpa using e2, by simpa using e3, by simpa using e4, e5⟩
    · cases i with
      | zero => exact ⟨_, List.mem_cons_self, rfl⟩
      | succ i =>
        obtain ⟨q, hq, e⟩ := h2 i (by simpa using hi)
        exact ⟨q, List.mem_cons_of_mem _ hq, by omega⟩
  | .io :: ms, ds, vs, m, n, h => by
    obtain ⟨d, ds', v, vs', m1, m2, rfl, rfl, r, h, rfl⟩ := h
    obtain ⟨R, h1, h2⟩ := rosA (n + 1) h
    refine ⟨R, fun q hq => ?_, fun i hi => ?_⟩
    · obtain ⟨i, e1, e2, e3, e4, e5⟩ := h1 q hq
      exact ⟨i + 1, by omega, by simpa using e2, by simpa using e3, by simpa using e4, e5⟩
    · cases i with
      | zero => simp at hi
      | succ i =>
        obtain ⟨q, hq, e⟩ := h2 i (by simpa using hi)
        exact ⟨q, hq, by omega⟩
  | .mv :: ms, ds, vs, m, n, h => by
    obtain ⟨d, ds', v, vs', m1, m2, rfl, rfl, r, h, rfl⟩ := h
    obtain ⟨R, h1, h2⟩ := rosA (n + 1) h
    refine ⟨R, fun q hq => ?_, fun i hi => ?_⟩
    · obtain ⟨i, e1, e2, e3, e4, e5⟩ := h1 q hq
      exact ⟨i + 1, by omega, by simpa using e2, by simpa using e3, by simpa using e4, e5⟩
    · cases i with
      | zero => simp at hi
      | succ i =>
        obtain ⟨q, hq, e⟩ := h2 i (by simpa using hi)
        exact ⟨q, hq, by omega⟩
theorem roOf_true {md : List Md} {i : Nat} : roOf md i = true ↔ md[i]? = some .ro := by
  unfold roOf
  split
  · rename_i h; simp [h]
  · rename_i h; exact ⟨fun z => (by cases z), fun z => absurd z h⟩
/-- what is given back, out of the frame -/
theorem backA {ro : Nat → Bool} : ∀ {md : List Md} {vs : List V} {e : List D} {σ : L2.St} {m : Fp} (n : Nat), (∀ i, i < md.length → ro (n + i) = roOf md i) → vs.length = md.length → md.length ≤ e.length → (∀ (i : Nat) v, md[i]? = some Md.io → vs[i]? = some v → σ[i]? = some (some v)) → FrR G w (maskN ro n e) σ m →
    ∃ mb, BackR G w md (e.take md.length) vs mb ∧ ∀ b, mb b ≤ m b
  | [], vs, e, σ, m, n, hr, hv, he, hs, f => ⟨Fp.zero, rfl, fun b => Nat.zero_le _⟩
  | x :: ms, vs, e, σ, m, n, hr, hv, he, hs, f => by
    cases vs with
    | nil => simp at hv
    | cons v vs =>
      cases e with
      | nil => simp at he
      | cons d e =>
        simp only [maskN] at f
        obtain ⟨s, σ', m1, m2, rfl, h1, h2, rfl⟩ := f
        obtain ⟨mb, hb, hl⟩ := backA (md := ms) (vs := vs) (n + 1) (fun i hi => by
          have := hr (i + 1) (by simp; omega)
          rw [← Nat.add_assoc, Nat.add_right_comm] at this
          rw [this]; rfl) (by simpa using hv) (by simpa using he) (fun i u q1 q2 => by have := hs (i + 1) u (by simpa using q1) (by simpa using q2); simpa using this) h2
        cases x with
        | ro => exact ⟨mb, ⟨d, _, v, vs, rfl, rfl, hb⟩, fun b => by have := hl b; simp; omega⟩
        | mv => exact ⟨mb, ⟨d, _, v, vs, rfl, rfl, hb⟩, fun b => by have := hl b; simp; omega⟩
        | io =>
          have r0 : ro n = false := hr 0 (by simp)
          have hs0 := hs 0 v rfl rfl
          simp only [List.getElem?_cons_zero, Option.some.injEq] at hs0
          subst hs0
          rw [if_neg (by rw [r0]; decide)] at h1
          exact ⟨Fp.add m1 mb, ⟨d, _, v, vs, m1, mb, rfl, rfl, h1, hb, rfl⟩, fun b => by have := hl b; simp; omega⟩
theorem spF_body {md : List Md} {loc : Nat} {b : EvS} {N : List Str} {vs : List V} {H : Hp} {Q : VK} {E : XK} (hN : N.length = md.length + loc) (h : spF G md (runF md loc b) vs H Q E) :
    tS G (roOf md) (fxOf md) b { nx := fun _ H' => Q .non H', rt := Q } (L2.start N vs) H := by
  obtain ⟨w, ds, m, d, ds', e0, W, O, ha, hf, k⟩ := h
  obtain ⟨l1, l2⟩ := ha.len
  obtain ⟨R, hR1, hR2⟩ := rosA 0 ha
  have hst : L2.start N vs = vs.map some ++ List.replicate loc none := by
    unfold L2.start
    rw [hN, l1, Nat.add_sub_cancel_left]
  have get1 : ∀ i v, vs[i]? = some v → (L2.start N vs)[i]? = some (some v) := fun i v q => by
    have hlt : i < vs.length := (List.getElem?_eq_some_iff.mp q).1
    rw [hst, List.getElem?_append_left (by simpa using hlt), List.getElem?_map, q]
    rfl
  have S : SK G (roOf md) R w (ds ++ List.replicate loc .undef) (L2.start N vs) m Fp.zero := by
    refine ⟨W, by rw [Fp.add_zero]; exact O, ?_, fun r hr => ?_, fun i hi => ?_, fun r hr => ?_⟩
    · rw [hst]
      exact frA (md := md) 0 (fun i _ => by rw [Nat.zero_add]) ha
    · obtain ⟨i, e1, e2, e3, e4, e5, e6, e7⟩ := hR1 r hr
      rw [Nat.zero_add] at e1
      rw [← e1] at e3 e4
      have hlt : r.i < ds.length := (List.getElem?_eq_some_iff.mp e3).1
      exact ⟨by rw [List.getElem?_append_left hlt]; exact e3, get1 _ _ e4, e5, e6, by rw [Fp.add_zero]; exact e7⟩
    · obtain ⟨r, hr, e⟩ := hR2 i (roOf_true.mp hi)
      exact ⟨r, hr, by rw [e, Nat.zero_add]⟩
    · obtain ⟨i, e1, e2, _⟩ := hR1 r hr
      rw [Nat.zero_add] at e1
      rw [e1]
      exact roOf_true.mpr e2
  have fin : ∀ {d : D} {e' : List D} {v : V} {w' : Wd} {σ' : L2.St} {m' mv : Fp}, md.length ≤ e'.length → SK G (roOf md) R w' e' σ' m' mv → Rep G w' d v mv → Ext m w w' (Fp.add m' mv) → (∀ i, fxOf md i = true → σ'[i]? = (L2.start N vs)[i]?) →
      (∀ v w' mv mb, World G w' → Rep G w' d v mv → BackR G w' md (e'.take md.length) vs mb → Own w' (Fp.add mb mv) → Ext m w w' (Fp.add mb mv) → Q v w'.h) → Q v w'.h := fun {d e' v w' σ' m' mv} hle S' r x fk kk => by
    obtain ⟨mb, hb, hl⟩ := backA (ro := roOf md) (md := md) (vs := vs) (e := e') (σ := σ') (m := m') 0 (fun i _ => by rw [Nat.zero_add]) l1 hle (fun i u q1 q2 => by
      rw [fk i (by unfold fxOf; rw [q1])]
      exact get1 i u q2) S'.fr
    exact kk v w' mv mb S'.world r hb (S'.own.le fun b => by have := hl b; simp; omega) (x.less fun b q => by have := hl b; simp at *; omega)
  unfold runF at hf
  split at hf
  · rename_i d1 e1 hb
    split at hf
    · rename_i hl
      cases hf
      exact ⟨R, w, _, m, .rt _, e1, e0, S, hb, fun v w' σ' m' md' S' r x fk => fin hl S' r x fk k⟩
    · cases hf
  · rename_i e1 hb
    split at hf
    · rename_i hl
      cases hf
      exact ⟨R, w, _, m, .nx, e1, e0, S, hb, fun w' σ' m' S' x fk => fin (v := .non) (mv := Fp.zero) hl S' Rep.mkNon (by rw [Fp.add_zero]; exact x) fk k⟩
    · cases hf
  · cases hf
end
end TL
end
section
set_option maxRecDepth 100000
/-! The tree layer, part Q: calls of defs, of methods; classes made. -/
namespace TL
open PySem PySem.Spec PyProof.Rows L2
section
variable {X : Cx} {G : Gen} {ro fx : Nat → Bool} {e o : Expr} {es : List Expr} {pos p apos : Pos} {w : Wd}

/-! ### calls that look at their arguments -/
def pureAt : List Md → List D → Bool
  | [], [] => true
  | .ro :: ms, _ :: ds => pureAt ms ds
  | .mv :: ms, d :: ds => imm d && pureAt ms ds
  | _, _ => false
def gPure (md : List Md) (f : Fn) (ds : List D) : Option D := if pureAt md ds = true then match f ds with
    | some (d, _) => some d
    | none => none
  else none
theorem argP : ∀ {md : List Md} {ds : List D} {vs : List V}, RepA G w ds vs → pureAt md ds = true → ArgR G w Fp.zero md ds vs Fp.zero
  | [], [], vs, h, q => ⟨rfl, h, rfl⟩
  | [], d :: ds, vs, h, q => by simp [pureAt] at q
  | .ro :: ms, [], vs, h, q => by simp [pureAt] at q
  | .io :: ms, ds, vs, h, q => by cases ds <;> simp [pureAt] at q
  | .mv :: ms, [], vs, h, q => by simp [pureAt] at q
  | .ro :: ms, d :: ds, vs, h, q => by
    simp only [pureAt] at q
    obtain ⟨v, vs', m, rfl, r, o, t⟩ := h
    exact ⟨d, ds, v, vs', m, rfl, rfl, r, o, fun _ => .inr rfl, argP t q⟩
  | .mv :: ms, d :: ds, vs, h, q => by
    simp only [pureAt, Bool.and_eq_true] at q
    obtain ⟨v, vs', m, rfl, r, o, t⟩ := h
    have z := Rep.imm0 d v m q.1 r
    subst z
    exact ⟨d, ds, v, vs', Fp.zero, Fp.zero, rfl, rfl, r, argP t q.2, by simp⟩
theorem backP : ∀ {md : List Md} {ds ds' : List D} {vs : List V} {m : Fp}, pureAt md ds = true → BackR G w md ds' vs m → m = Fp.zero
  | [], ds, ds', vs, m, q, h => h
  | .io :: ms, ds, ds', vs, m, q, h => by cases ds <;> simp [pureAt] at q
  | .ro :: ms, [], ds', vs, m, q, h => by simp [pureAt] at q
  | .mv :: ms, [], ds', vs, m, q, h => by simp [pureAt] at q
  | .ro :: ms, d :: ds, ds', vs, m, q, h => by
    obtain ⟨_, _, _, _, rfl, rfl, h⟩ := h
    exact backP (ds := ds) (by simpa [pureAt] using q) h
  | .mv :: ms, d :: ds, ds', vs, m, q, h => by
    simp only [pureAt, Bool.and_eq_true] at q
    obtain ⟨_, _, _, _, rfl, rfl, h⟩ := h
    exact backP q.2 h
/-- the promise, asked where arguments are looked at -/
theorem sp_pure {md : List Md} {f : Fn} {ds : List D} {vs : List V} {d : D} {Q : VK} {E : XK} (W : World G w) (r : RepA G w ds vs) (hg : gPure md f ds = some d) (k : Done G w d Q) : spF G md f vs w.h Q E := by
  unfold gPure at hg
  split at hg
  · rename_i hp
    split at hg
    · rename_i d' ds' hf
      cases hg
      refine ⟨w, ds, Fp.zero, _, ds', rfl, W, Own.zero, argP r hp, hf, fun v w' mv mb W' rv hb o x => ?_⟩
      have z := backP hp hb
      subst z
      rw [Fp.zero_add] at o x
      exact k v w' mv W' rv o x
    · cases hg
  · cases hg
def gCall (md : List Md) (f : Fn) (l : EvL) : Ev := fun e => match l e with
  | some ds => gPure md f ds
  | none => none
variable {k j : Nat} {x m : Str} {md : List Md} {f : Fn} {l : EvL}
theorem r_call (c : C8.Cal X.prog X.w X.K X.mg X.base k x (spF G md f) []) (hr : Room j X.A) (hk : k ≤ j) (hg : Gl X x) (ha : PA X (e :: es) (tBA G ro l))
    (hdb : (x == ("__debug__" : Str)) = false := by decide) (he : starEach (e :: es) X.env = (false, eval e X.env) :: starEach es X.env := by rfl) (hpl : (backTo pos (starEach es X.env)).any (·.1) = false := by rfl) :
    PE X (.Call (.Name x p) (e :: es) [] pos) (tP G ro (gCall md f l)) := PE.weak (C8.pe_c c hr hk hg ha hdb he hpl) fun σ H Q ⟨R, w, e, m, d, e0, S, hf, kk⟩ => by
  unfold gCall at hf
  split at hf
  · rename_i ds hd
    refine ⟨R, w, e, m, ds, e0, S, hd, fun vs w1 S1 r1 x1 => ?_⟩
    simp only [List.append_nil]
    exact sp_pure S1.world r1 hf fun v w' md' W' rv o x => kk v w' md' (S1.step x W' o) rv (x1.trans x)
  · cases hf
/-- a def without arguments -/
theorem pe_c0 {sp : Sp} (c : C8.Cal X.prog X.w X.K X.mg X.base k x sp []) (hr : Room j X.A) (hk : k ≤ j) (hg : Gl X x) (hdb : (x == ("__debug__" : Str)) = false := by decide) : PE X (.Call (.Name x p) [] [] pos) (tCall sp [] E0 tNil) := by
  obtain ⟨f, fd, ps, ds, F, hm, kp, b, d⟩ := c.ex
  exact pe_call0 F (hr.mono hk) hg hm kp b d pass0 hdb
/-! methods -/
def isIns (c : Nat) : D → Bool
  | .ins _ c' _ => c' == c
  | _ => false
theorem Rep.isIns {c : Nat} {d : D} {v : V} {m : Fp} {mth : Str} (h : TL.isIns c d = true) (r : Rep G w d v m) (hm : (G.flds c).contains mth = false) : ∃ a dx fs, v = .ref a ∧ w.h a = some (.ins (G.cls c) dx fs) ∧ fs.lookup mth = none := by
  cases d <;> simp only [TL.isIns] at h <;> try cases h
  rename_i f c' ds
  have e := of_decide_eq_true (show decide (c' = c) = true by simpa using h)
  subst e
  simp only [Rep] at r
  obtain ⟨a, dx, vs, m', rfl, h1, h2, _⟩ := r
  refine ⟨a, dx, _, rfl, h1.1, ?_⟩
  have gen : ∀ (ns : List Str) (us : List V), mth ∉ ns → (ns.zip us).lookup mth = none := by
    intro ns
    induction ns with
    | nil => intro us _; rfl
    | cons n ns ih =>
      intro us hn
      cases us with
      | nil => rfl
      | cons u us =>
        rw [List.mem_cons, not_or] at hn
        simp only [List.zip_cons_cons, List.lookup]
        rw [show (mth == n) = false by simpa using hn.1]
        exact ih us hn.2
  exact gen _ _ (by simpa using hm)
def gMeth (c : Nat) (md : List Md) (f : Fn) (f0 : Ev) (l : EvL) : Ev := fun e => match f0 e with
  | some d => if isIns c d = true then match l e with
      | some ds => gPure md f (d :: ds)
      | none => none
    else none
  | none => none
variable {c : Nat} {f0 : Ev}
theorem r_meth {pl : Sem Bool} (cc : C8.Met X.prog X.w X.K X.mg X.base k (G.cls c) m (spF G md f) []) (hr : Room j X.A) (hk : k ≤ j) (ho : PE X o (tB G ro f0)) (ha : PA X (e :: es) (tBA G ro l)) (hm : (G.flds c).contains m = false)
    (hst : starEach (e :: es) X.env = (false, eval e X.env) :: starEach es X.env := by rfl) (hpl : (backTo pos (starEach es X.env)).any (·.1) = false := by rfl)
    (ht : eval (.Call (.Attribute o m apos) (e :: es) [] pos) X.env = (do
      let ov ← eval o X.env
      standAt apos.atName
      let (f, first) ← holding [ov] (getMethod ov m pl)
      callWith pos f first (backTo pos (starEach (e :: es) X.env)) (backToKw pos (keywordEach [] X.env))) := by rfl) :
    PE X (.Call (.Attribute o m apos) (e :: es) [] pos) (tP G ro (gMeth c md f f0 l)) := PE.weak (C8.pe_mt (pl := pl) cc hr hk ho ha hst hpl ht) fun σ H Q ⟨R, w, e, m, d, e0, S, hf, kk⟩ => by
  unfold gMeth at hf
  split at hf
  · rename_i d0 hd0
    split at hf
    · rename_i hi
      split at hf
      · rename_i ds hd
        refine ⟨R, w, e, m, d0, e0, S, hd0, fun v w1 mb S1 r1 o1 x1 => ?_⟩
        obtain ⟨a, dx, fs, rfl, h1, h2⟩ := Rep.isIns hi r1 hm
        refine ⟨a, dx, fs, rfl, h1, h2, R, w1, e, m, ds, rfl, S1, hd, fun vs w2 S2 r2 x2 => ?_⟩
        simp only [List.append_nil]
        have r1' := Rep.grow x2 S1.world o1 r1
        have o1' := (Own.ext (m := mb) x2 (by rw [Fp.add_zero]; exact o1) (Rep.there _ _ _ r1) Own.zero).left
        exact sp_pure (ds := d0 :: ds) S2.world ⟨_, _, mb, rfl, r1', o1', r2⟩ hf fun v w' md' W' rv o x => kk v w' md' (S2.step x W' o) rv ((x1.trans x2).trans x)
      · cases hf
    · cases hf
  · cases hf
theorem r_meth0 {pl : Sem Bool} (cc : C8.Met X.prog X.w X.K X.mg X.base k (G.cls c) m (spF G md f) []) (hr : Room j X.A) (hk : k ≤ j) (ho : PE X o (tB G ro f0)) (hm : (G.flds c).contains m = false)
    (ht : eval (.Call (.Attribute o m apos) [] [] pos) X.env = (do
      let ov ← eval o X.env
      standAt apos.atName
      let (f, first) ← holding [ov] (getMethod ov m pl)
      callWith pos f first (backTo pos (starEach [] X.env)) (backToKw pos (keywordEach [] X.env))) := by rfl) :
    PE X (.Call (.Attribute o m apos) [] [] pos) (tP G ro (gMeth c md f f0 lNil)) := PE.weak (C8.pe_mt0 (pl := pl) cc hr hk ho ht) fun σ H Q ⟨R, w, e, m, d, e0, S, hf, kk⟩ => by
  unfold gMeth lNil at hf
  split at hf
  · rename_i d0 hd0
    split at hf
    · rename_i hi
      refine ⟨R, w, e, m, d0, e0, S, hd0, fun v w1 mb S1 r1 o1 x1 => ?_⟩
      obtain ⟨a, dx, fs, rfl, h1, h2⟩ := Rep.isIns hi r1 hm
      refine ⟨a, dx, fs, rfl, h1, h2, ?_⟩
      exact sp_pure (E := E0) (ds := [d0]) (vs := [.ref a]) S1.world ⟨_, _, mb, rfl, r1, o1, rfl⟩ hf fun v w' md' W' rv o x => kk v w' md' (S1.step x W' o) rv (x1.trans x)
    · cases hf
  · cases hf

/-! ### a class made -/
def gMake (c : Nat) (md : List Md) (f : Fn) (l : EvL) : Ev := fun e => match l e with
  | some ds => if pureAt md ds = true then match f (.ins true c [] :: ds) with
      | some (.non, d :: _) => match d with
        | .undef => none
        | d => some d
      | _ => none
    else none
  | none => none
theorem argP0 {T : Fp} (hT : Own w T) : ∀ {md : List Md} {ds : List D} {vs : List V}, (∀ b, T b ≠ 0 → ∀ d v m, Rep G w d v m → m b = 0) → RepA G w ds vs → pureAt md ds = true → ArgR G w T md ds vs Fp.zero
  | [], [], vs, hz, h, q => ⟨rfl, h, rfl⟩
  | [], d :: ds, vs, hz, h, q => by simp [pureAt] at q
  | .ro :: ms, [], vs, hz, h, q => by simp [pureAt] at q
  | .io :: ms, ds, vs, hz, h, q => by cases ds <;> simp [pureAt] at q
  | .mv :: ms, [], vs, hz, h, q => by simp [pureAt] at q
  | .ro :: ms, d :: ds, vs, hz, h, q => by
    simp only [pureAt] at q
    obtain ⟨v, vs', m, rfl, r, o, t⟩ := h
    refine ⟨d, ds, v, vs', m, rfl, rfl, r, o, fun b => ?_, argP0 hT hz t q⟩
    by_cases z : T b = 0
    · exact .inr z
    · exact .inl (hz b z d v m r)
  | .mv :: ms, d :: ds, vs, hz, h, q => by
    simp only [pureAt, Bool.and_eq_true] at q
    obtain ⟨v, vs', m, rfl, r, o, t⟩ := h
    have z := Rep.imm0 d v m q.1 r
    subst z
    exact ⟨d, ds, v, vs', Fp.zero, Fp.zero, rfl, rfl, r, argP0 hT hz t q.2, by simp⟩
/-- arguments looked at that were there before a new object -/
theorem argNew {w1 : Wd} {xa : Addr} : ∀ {md : List Md} {ds : List D} {vs : List V}, (∀ d v m, Rep G w d v m → Own w m → Rep G w1 d v m ∧ Own w1 m ∧ m xa = 0) → RepA G w ds vs → pureAt md ds = true → ArgR G w1 (Fp.one xa) md ds vs Fp.zero
  | [], [], vs, hz, h, q => ⟨rfl, h, rfl⟩
  | [], d :: ds, vs, hz, h, q => by simp [pureAt] at q
  | .ro :: ms, [], vs, hz, h, q => by simp [pureAt] at q
  | .io :: ms, ds, vs, hz, h, q => by cases ds <;> simp [pureAt] at q
  | .mv :: ms, [], vs, hz, h, q => by simp [pureAt] at q
  | .ro :: ms, d :: ds, vs, hz, h, q => by
    simp only [pureAt] at q
    obtain ⟨v, vs', m, rfl, r, o, t⟩ := h
    obtain ⟨h1, h2, h3⟩ := hz d v m r o
    refine ⟨d, ds, v, vs', m, rfl, rfl, h1, h2, fun b => ?_, argNew hz t q⟩
    by_cases z : b = xa
    · subst z; exact .inl h3
    · exact .inr (Fp.one_ne z)
  | .mv :: ms, d :: ds, vs, hz, h, q => by
    simp only [pureAt, Bool.and_eq_true] at q
    obtain ⟨v, vs', m, rfl, r, o, t⟩ := h
    have z := Rep.imm0 d v m q.1 r
    subst z
    exact ⟨d, ds, v, vs', Fp.zero, Fp.zero, rfl, rfl, (hz d v _ r o).1, argNew hz t q.2, by simp⟩
theorem make_ok {ds : List D} {vs : List V} {d : D} {Q : VK} {E : XK} {xa dx : Addr} (W : World G w) (r : RepA G w ds vs) (hp : pureAt md ds = true) {rest : List D} (hf : f (.ins true c [] :: ds) = some (.non, d :: rest)) (hu : d ≠ .undef) (h1 : w.h xa = none) (h2 : w.h dx = none) (h3 : dx ≠ xa)
    (k : Done G w d Q) : spF G (.io :: md) f (.ref xa :: vs) (upd (upd w.h dx (.own xa)) xa (.ins (G.cls c) dx [])) (fun v H2 => v = .non ∧ Q (.ref xa) H2) E := by
  let w1 := w.new dx (.own xa)
  have x1 : Ext Fp.zero w w1 Fp.zero := Ext.new h2 fun b q => absurd rfl q
  have W1 : World G w1 := W.new h2 (Nat.zero_le _)
  have h1' : w1.h xa = none := (upd_ne h3.symm).trans h1
  let w2 := w1.new xa (.ins (G.cls c) dx [])
  have x2 : Ext Fp.zero w1 w2 (Fp.one xa) := Ext.new h1' fun b q => Classical.byContradiction fun n => q (Fp.one_ne n)
  have W2 : World G w2 := W1.new h1' (Nat.zero_le _)
  have O2 : Own w2 (Fp.one xa) := Own.new W1 h1'
  have x12 := x1.trans x2
  have ra : ArgR G w2 (Fp.one xa) md ds vs Fp.zero := argNew (fun d v m r o => ⟨Rep.grow x12 W o r, (Own.ext (m := m) x12.dropZ (by rw [Fp.add_zero]; exact o) (Rep.there _ _ _ r) Own.zero).left, Classical.byContradiction fun z => Rep.there _ _ _ r xa z h1⟩) r hp
  refine ⟨w2, _, Fp.one xa, .non, d :: rest, rfl, W2, O2, ⟨_, ds, _, vs, Fp.one xa, Fp.zero, rfl, rfl, ?_, ra, by simp⟩, hf, fun v w' mv mb W' rv hb o x => ?_⟩
  · simp only [Rep]
    exact ⟨xa, dx, [], Fp.zero, rfl, ⟨by rw [List.zip_nil_right]; exact upd_same, fun q => nomatch q⟩, Nat.zero_le _, RepL.nil, by simp [fl]⟩
  · simp only [Rep] at rv
    obtain ⟨rfl, rfl⟩ := rv
    obtain ⟨d', ds', v', vs', m1, m2, e1, e2, sl, hb, rfl⟩ := hb
    cases e1; cases e2
    have z := backP hp hb
    subst z
    rcases sl with ⟨q, _⟩ | ⟨v, e3, rd⟩
    · exact absurd q hu
    · cases e3
      simp only [Fp.add_zero] at o x
      exact ⟨rfl, k _ w' m1 W' rd o (x12.trans x)⟩
variable {C : Addr}
theorem gMake_some {e : List D} {d : D} (h : gMake c md f l e = some d) : ∃ ds rest, l e = some ds ∧ pureAt md ds = true ∧ f (.ins true c [] :: ds) = some (.non, d :: rest) ∧ d ≠ .undef := by
  unfold gMake at h
  split at h
  · rename_i ds hd
    split at h
    · rename_i hp
      split at h
      · rename_i d' rest hf
        split at h
        · cases h
        · rename_i q
          cases h
          exact ⟨ds, rest, hd, hp, hf, fun z => q z⟩
      · cases h
    · cases h
  · cases h
theorem r_make (cc : C8.Mak X.prog X.w X.K X.mg X.base k x (G.cls c) (spF G (.io :: md) f) []) (hr : Room j X.A) (hk : k + 1 ≤ j) (hg : Gl X x) (ha : PA X (e :: es) (tBA G ro l))
    (hdb : (x == ("__debug__" : Str)) = false := by decide) (he : starEach (e :: es) X.env = (false, eval e X.env) :: starEach es X.env := by rfl) (hpl : (backTo pos (starEach es X.env)).any (·.1) = false := by rfl) :
    PE X (.Call (.Name x p) (e :: es) [] pos) (tP G ro (gMake c md f l)) := PE.weak (C8.pe_mk cc hr hk hg ha hdb he hpl) fun σ H Q ⟨R, w, e, m, d, e0, S, hf, kk⟩ => by
  obtain ⟨ds, rest, hd, hp, hf, hu⟩ := gMake_some hf
  refine ⟨R, w, e, m, ds, e0, S, hd, fun vs w1 S1 r1 x1 xa dx q1 q2 q3 => ?_⟩
  simp only [List.append_nil]
  exact make_ok S1.world r1 hp hf hu q1 q2 q3 fun v w' md' W' rv o x => kk v w' md' (S1.step x W' o) rv (x1.trans x)
theorem r_make0 (cc : C8.Mak X.prog X.w X.K X.mg X.base k x (G.cls c) (spF G [.io] f) []) (hr : Room j X.A) (hk : k + 1 ≤ j) (hg : Gl X x) (hdb : (x == ("__debug__" : Str)) = false := by decide) :
    PE X (.Call (.Name x p) [] [] pos) (tP G ro (gMake c [] f lNil)) := by
  obtain ⟨ff, fd, ps, ds, M, F, hm, b, d⟩ := cc.ex
  refine PE.weak (pe_make0 M F (hr.mono hk) hg hm b d (C8.pass0 (E := E0)) hdb) fun σ H Q ⟨R, w, e, m, d, e0, S, hf, kk⟩ => ?_
  obtain ⟨ds, rest, hd, hp, hf, hu⟩ := gMake_some hf
  cases hd
  subst e0
  intro xa dx q1 q2 q3
  exact make_ok (vs := []) (ds := []) S.world rfl hp hf hu q1 q2 q3 fun v w' md' W' rv o x => kk v w' md' (S.step x W' o) rv x
end
end TL
end
section
set_option maxRecDepth 100000
/-! The tree layer, part R: calls that lend. -/
namespace TL
open PySem PySem.Spec PyProof.Rows L2

/-- an argument: a value of its own, or a name's value lent -/
inductive AD where
  | m (h : EvM)
  | s (i : Nat)
def evA : List AD → EvLM
  | [] => fun e => some ([], e)
  | .m h :: as => fun e => match h e with
    | some (d, e1) => match evA as e1 with
      | some (ds, e2) => some (d :: ds, e2)
      | none => none
    | none => none
  | .s i :: as => fun e => match slot e i with
    | some d => match evA as e with
      | some (ds, e2) => some (d :: ds, e2)
      | none => none
    | none => none
/-- the names' values taken out, as they are after all arguments -/
def lend : List AD → List D → List D → Option (List D × List D)
  | [], _, e => some ([], e)
  | .m _ :: as, d :: ds, e => match lend as ds e with
    | some (xs, e') => some (d :: xs, e')
    | none => none
  | .s i :: as, _ :: ds, e => match slot e i with
    | some d => match lend as ds (e.set i .undef) with
      | some (xs, e') => some (d :: xs, e')
      | none => none
    | none => none
  | _, _, _ => none
def giveB : List AD → List D → List D → List D
  | .s i :: as, d :: ds, e => giveB as ds (e.set i d)
  | .m _ :: as, _ :: ds, e => giveB as ds e
  | _, _, e => e
def mFin (as : List AD) (f : Fn) (ds e1 : List D) : Option (D × List D) := match lend as ds e1 with
  | some (xs, e2) => match f xs with
    | some (d, xs') => some (d, giveB as xs' e2)
    | none => none
  | none => none
def mCall (as : List AD) (f : Fn) : EvM := fun e => match evA as e with
  | some (ds, e1) => mFin as f ds e1
  | none => none
/-- names lent are parameters given back -/
def adOk (ro : Nat → Bool) : List Md → List AD → Bool
  | [], [] => true
  | _ :: ms, .m _ :: as => adOk ro ms as
  | .io :: ms, .s i :: as => !ro i && adOk ro ms as
  | _, _ => false
section
variable {X : Cx} {G : Gen} {ro fx : Nat → Bool} {e o : Expr} {es : List Expr} {pos p apos : Pos}
def tA1 (G : Gen) (ro : Nat → Bool) : AD → TE
  | .m h => tM G ro h
  | .s i => tVar i
def RepD (G : Gen) (w : Wd) (σ : L2.St) : List AD → List D → List V → Fp → Prop
  | [], ds, vs, m => ds = [] ∧ vs = [] ∧ m = Fp.zero
  | .m _ :: as, ds, vs, m => ∃ d ds' v vs' m1 m2, ds = d :: ds' ∧ vs = v :: vs' ∧ Rep G w d v m1 ∧ RepD G w σ as ds' vs' m2 ∧ m = Fp.add m1 m2
  | .s i :: as, ds, vs, m => ∃ d ds' v vs', ds = d :: ds' ∧ vs = v :: vs' ∧ σ[i]? = some (some v) ∧ RepD G w σ as ds' vs' m
def tAD (G : Gen) (ro : Nat → Bool) (as : List AD) : TA := fun σ H Q => ∃ R w e m ds e', w.h = H ∧ SK G ro R w e σ m Fp.zero ∧ evA as e = some (ds, e') ∧
  ∀ vs w' md m', SK G ro R w' e' σ m' md → RepD G w' σ as ds vs md → Ext m w w' (Fp.add m' md) → Q vs w'.h
theorem RepD.there {w : Wd} {σ : L2.St} : ∀ {as : List AD} {ds : List D} {vs : List V} {m : Fp}, RepD G w σ as ds vs m → ∀ b, m b ≠ 0 → w.h b ≠ none
  | [], ds, vs, m, h, b, q => by obtain ⟨_, _, rfl⟩ := h; exact absurd rfl q
  | .m _ :: as, ds, vs, m, h, b, q => by
    obtain ⟨d, ds', v, vs', m1, m2, rfl, rfl, r, h, rfl⟩ := h
    by_cases z : m1 b = 0
    · exact h.there b (by simpa [z] using q)
    · exact Rep.there _ _ _ r b z
  | .s i :: as, ds, vs, m, h, b, q => by
    obtain ⟨d, ds', v, vs', rfl, rfl, _, h⟩ := h
    exact h.there b q
theorem RepD.growM {w w' : Wd} {σ : L2.St} {k k' : Fp} (x : Ext k w w' k') (W : World G w) : ∀ {as : List AD} {ds : List D} {vs : List V} {m : Fp}, Own w (Fp.add k m) → RepD G w σ as ds vs m → RepD G w' σ as ds vs m
  | [], ds, vs, m, O, h => h
  | .m _ :: as, ds, vs, m, O, h => by
    obtain ⟨d, ds', v, vs', m1, m2, rfl, rfl, r, h, rfl⟩ := h
    exact ⟨d, ds', v, vs', m1, m2, rfl, rfl, Rep.growM x W (O.le fun b => by simp) r, RepD.growM x W (O.le fun b => by simp) h, rfl⟩
  | .s i :: as, ds, vs, m, O, h => by
    obtain ⟨d, ds', v, vs', rfl, rfl, q, h⟩ := h
    exact ⟨d, ds', v, vs', rfl, rfl, q, RepD.growM x W O h⟩
theorem ad_nil : PA X [] (tAD G ro []) := PA.weak pa_nil fun σ H Q ⟨R, w, e, m, ds, e', e0, S, hf, k⟩ => by
  cases hf; subst e0
  exact k [] w Fp.zero m S ⟨rfl, rfl, rfl⟩ (by rw [Fp.add_zero]; exact Ext.refl _ _)
theorem ad_one {a : AD} {as : List AD} {ds : List D} {σ : L2.St} {R : List RoE} {w : Wd} {e e' : List D} {m : Fp} {Q : V → Hp → Prop} (S : SK G ro R w e σ m Fp.zero) (hf : evA (a :: as) e = some (ds, e'))
    (k : ∀ v w1 m1 md1 e1 d ds', ds = d :: ds' → SK G ro R w1 e1 σ m1 md1 → evA as e1 = some (ds', e') → Ext m w w1 (Fp.add m1 md1) → (match a with
      | .m _ => Rep G w1 d v md1
      | .s i => md1 = Fp.zero ∧ σ[i]? = some (some v) ∧ w1 = w ∧ ∃ mb, Rep G w d v mb) → Q v w1.h) : tA1 G ro a σ w.h Q := by
  cases a with
  | m h =>
    simp only [evA] at hf
    split at hf
    · rename_i d e1 hd
      split at hf
      · rename_i ds' e2 hds
        cases hf
        exact ⟨R, w, e, m, d, e1, rfl, S, hd, fun v w1 md1 m1 S1 r1 x1 => k v w1 m1 md1 e1 d ds' rfl S1 hds x1 r1⟩
      · cases hf
    · cases hf
  | s i =>
    simp only [evA] at hf
    split at hf
    · rename_i d hd
      split at hf
      · rename_i ds' e2 hds
        cases hf
        obtain ⟨v, mb, e1, r, o⟩ := S.slot hd
        exact ⟨v, e1, k v w m Fp.zero e d ds' rfl S hds (by rw [Fp.add_zero]; exact Ext.refl _ _) ⟨rfl, e1, rfl, mb, r⟩⟩
      · cases hf
    · cases hf
theorem ad_rest {a : AD} {as : List AD} {d : D} {ds : List D} {v : V} {vs : List V} {σ : L2.St} {R : List RoE} {w w1 w2 : Wd} {e1 e' : List D} {m m1 m2 md1 md2 : Fp} (S1 : SK G ro R w1 e1 σ m1 md1) (x1 : Ext m w w1 (Fp.add m1 md1))
    (hm : match a with
      | .m _ => Rep G w1 d v md1
      | .s i => md1 = Fp.zero ∧ σ[i]? = some (some v) ∧ w1 = w ∧ ∃ mb, Rep G w d v mb)
    (S2 : SK G ro R w2 e' σ m2 md2) (r2 : RepD G w2 σ as ds vs md2) (x2 : Ext m1 w1 w2 (Fp.add m2 md2)) :
    ∃ md, SK G ro R w2 e' σ m2 md ∧ RepD G w2 σ (a :: as) (d :: ds) (v :: vs) md ∧ Ext m w w2 (Fp.add m2 md) := by
  cases a with
  | m h =>
    have S2' := S1.hold (Rep.there _ _ _ hm) x2 S2
    have r1' := S1.rep hm x2
    refine ⟨Fp.add md1 md2, by rw [Fp.add_comm md1]; exact S2', ⟨d, ds, v, vs, md1, md2, rfl, rfl, r1', r2, rfl⟩, ?_⟩
    have y1 : Ext (Fp.add m1 md1) w1 w2 (Fp.add (Fp.add m2 md2) md1) := x2.frameR
    exact (x1.trans y1).less fun b q => by simp at *; omega
  | s i =>
    obtain ⟨rfl, h1, rfl, mb, h2⟩ := hm
    rw [Fp.add_zero] at x1
    exact ⟨md2, S2, ⟨d, ds, v, vs, rfl, rfl, h1, r2⟩, x1.trans x2⟩
theorem ad_cons {a : AD} {as : List AD} (h : PE X e (tA1 G ro a)) (hl : PA X es (tAD G ro as)) (hs : starEach (e :: es) X.env = (false, eval e X.env) :: starEach es X.env := by rfl) : PA X (e :: es) (tAD G ro (a :: as)) := PA.weak (pa_cons h hl hs) fun σ H Q ⟨R, w, e, m, ds, e', e0, S, hf, k⟩ => by
  subst e0
  refine ad_one S hf fun v w1 m1 md1 e1 d ds' ed S1 hds x1 hm => ?_
  subst ed
  refine ⟨R, w1, e1, m1, ds', e', rfl, S1.zero, hds, fun vs w2 md2 m2 S2 r2 x2 => ?_⟩
  obtain ⟨md, q1, q2, q3⟩ := ad_rest S1 x1 hm S2 r2 x2
  exact k (v :: vs) w2 md m2 q1 q2 q3

/-! ### lending -/
/-- arguments: mo of those lent or given, mr of those looked at -/
def ArgX (G : Gen) (w : Wd) : List Md → List D → List V → Fp → Fp → Prop
  | [], ds, vs, mo, mr => ds = [] ∧ vs = [] ∧ mo = Fp.zero ∧ mr = Fp.zero
  | .ro :: ms, ds, vs, mo, mr => ∃ d ds' v vs' m1 m2, ds = d :: ds' ∧ vs = v :: vs' ∧ Rep G w d v m1 ∧ ArgX G w ms ds' vs' mo m2 ∧ mr = Fp.add m1 m2
  | .io :: ms, ds, vs, mo, mr => ∃ d ds' v vs' m1 m2, ds = d :: ds' ∧ vs = v :: vs' ∧ Rep G w d v m1 ∧ ArgX G w ms ds' vs' m2 mr ∧ mo = Fp.add m1 m2
  | .mv :: ms, ds, vs, mo, mr => ∃ d ds' v vs' m1 m2, ds = d :: ds' ∧ vs = v :: vs' ∧ Rep G w d v m1 ∧ ArgX G w ms ds' vs' m2 mr ∧ mo = Fp.add m1 m2
theorem ArgX.toR {w : Wd} {T : Fp} : ∀ {md : List Md} {ds : List D} {vs : List V} {mo mr : Fp}, Own w (Fp.add T mr) → ArgX G w md ds vs mo mr → ArgR G w T md ds vs mo
  | [], ds, vs, mo, mr, O, h => by obtain ⟨rfl, rfl, rfl, _⟩ := h; exact ⟨rfl, rfl, rfl⟩
  | .ro :: ms, ds, vs, mo, mr, O, h => by
    obtain ⟨d, ds', v, vs', m1, m2, rfl, rfl, r, h, rfl⟩ := h
    have O1 : Own w (Fp.add T m1) := O.le fun b => by simp
    exact ⟨d, ds', v, vs', m1, rfl, rfl, r, O1.right, O1.apart.symm, ArgX.toR (O.le fun b => by simp) h⟩
  | .io :: ms, ds, vs, mo, mr, O, h => by
    obtain ⟨d, ds', v, vs', m1, m2, rfl, rfl, r, h, rfl⟩ := h
    exact ⟨d, ds', v, vs', m1, m2, rfl, rfl, r, ArgX.toR O h, rfl⟩
  | .mv :: ms, ds, vs, mo, mr, O, h => by
    obtain ⟨d, ds', v, vs', m1, m2, rfl, rfl, r, h, rfl⟩ := h
    exact ⟨d, ds', v, vs', m1, m2, rfl, rfl, r, ArgX.toR O h, rfl⟩
theorem ArgX.there {w : Wd} : ∀ {md : List Md} {ds : List D} {vs : List V} {mo mr : Fp}, ArgX G w md ds vs mo mr → ∀ b, mr b ≠ 0 → w.h b ≠ none
  | [], ds, vs, mo, mr, h, b, q => by obtain ⟨_, _, _, rfl⟩ := h; exact absurd rfl q
  | .ro :: ms, ds, vs, mo, mr, h, b, q => by
    obtain ⟨d, ds', v, vs', m1, m2, rfl, rfl, r, h, rfl⟩ := h
    by_cases z : m1 b = 0
    · exact h.there b (by simpa [z] using q)
    · exact Rep.there _ _ _ r b z
  | .io :: ms, ds, vs, mo, mr, h, b, q => by
    obtain ⟨d, ds', v, vs', m1, m2, rfl, rfl, r, h, rfl⟩ := h
    exact h.there b q
  | .mv :: ms, ds, vs, mo, mr, h, b, q => by
    obtain ⟨d, ds', v, vs', m1, m2, rfl, rfl, r, h, rfl⟩ := h
    exact h.there b q
theorem SK.takeS {R : List RoE} {w : Wd} {e : List D} {σ : L2.St} {m k : Fp} {i : Nat} {d : D} (S : SK G ro R w e σ m k) (hr : ro i = false) (h : TL.slot e i = some d) :
    ∃ v md m', σ[i]? = some (some v) ∧ Rep G w d v md ∧ m = Fp.add md m' ∧ SK G ro R w (e.set i .undef) σ m' (Fp.add md k) := by
  obtain ⟨h1, h2⟩ := slot_some h
  obtain ⟨v, m1, m2, e1, r, f, rfl⟩ := S.fr.take (i := i) (d := d) (by rw [mask_get hr]; exact h1) h2
  refine ⟨v, m1, m2, e1, r, rfl, S.world, ?_, by rw [mask_set hr]; exact f, fun q hq => ?_, S.cov⟩
  · rw [Fp.add_left_comm, ← Fp.add_assoc]; exact S.own
  · have a := S.ros q hq
    have ne : q.i ≠ i := fun z => by
      have z' := S.cov.2 q hq
      rw [z, hr] at z'; cases z'
    exact ⟨by rw [List.getElem?_set_ne (Ne.symm ne)]; exact a.ed, a.sv, a.rep, a.own, by rw [Fp.add_left_comm, ← Fp.add_assoc]; exact a.apart⟩
theorem lend_ok {R : List RoE} {w : Wd} {σ : L2.St} : ∀ {as : List AD} {md : List Md} {ds : List D} {vs : List V} {e e2 xs : List D} {m k mk : Fp}, adOk ro md as = true → SK G ro R w e σ m k → RepD G w σ as ds vs mk → lend as ds e = some (xs, e2) →
    ∃ mo mr ml m2, ArgX G w md xs vs mo mr ∧ SK G ro R w e2 σ m2 (Fp.add ml k) ∧ m = Fp.add ml m2 ∧ Fp.add mo mr = Fp.add ml mk
  | [], [], ds, vs, e, e2, xs, m, k, mk, ha, S, r, hl => by
    obtain ⟨rfl, rfl, rfl⟩ := r
    cases hl
    exact ⟨Fp.zero, Fp.zero, Fp.zero, m, ⟨rfl, rfl, rfl, rfl⟩, by rw [Fp.zero_add]; exact S, by simp, rfl⟩
  | [], x :: ms, ds, vs, e, e2, xs, m, k, mk, ha, S, r, hl => by cases x <;> simp [adOk] at ha
  | .s i :: as, [], ds, vs, e, e2, xs, m, k, mk, ha, S, r, hl => by simp [adOk] at ha
  | .m h :: as, [], ds, vs, e, e2, xs, m, k, mk, ha, S, r, hl => by simp [adOk] at ha
  | .s i :: as, .ro :: ms, ds, vs, e, e2, xs, m, k, mk, ha, S, r, hl => by simp [adOk] at ha
  | .s i :: as, .mv :: ms, ds, vs, e, e2, xs, m, k, mk, ha, S, r, hl => by simp [adOk] at ha
  | .s i :: as, .io :: ms, ds, vs, e, e2, xs, m, k, mk, ha, S, r, hl => by
    obtain ⟨d, ds', v, vs', rfl, rfl, q, r⟩ := r
    simp only [adOk, Bool.and_eq_true, Bool.not_eq_true'] at ha
    simp only [lend] at hl
    split at hl
    · rename_i d1 hd
      split at hl
      · rename_i xs' e' hl'
        cases hl
        obtain ⟨v1, m1, m', q1, r1, rfl, S1⟩ := S.takeS ha.1 hd
        rw [q] at q1
        cases q1
        obtain ⟨mo, mr, ml, m2, h1, h2, rfl, h4⟩ := lend_ok ha.2 S1 r hl'
        refine ⟨Fp.add m1 mo, mr, Fp.add m1 ml, m2, ⟨d1, xs', v, vs', m1, mo, rfl, rfl, r1, h1, rfl⟩, ?_, by rw [Fp.add_assoc], by rw [Fp.add_assoc, Fp.add_assoc, h4]⟩
        rwa [Fp.add_left_comm, ← Fp.add_assoc] at h2
      · cases hl
    · cases hl
  | .m h :: as, x :: ms, ds, vs, e, e2, xs, m, k, mk, ha, S, r, hl => by
    obtain ⟨d, ds', v, vs', m1, m2, rfl, rfl, r1, r, rfl⟩ := r
    have ha' : adOk ro ms as = true := by cases x <;> simpa [adOk] using ha
    simp only [lend] at hl
    split at hl
    · rename_i xs' e' hl'
      cases hl
      obtain ⟨mo, mr, ml, m3, h1, h2, rfl, h4⟩ := lend_ok ha' S r hl'
      cases x with
      | ro => exact ⟨mo, Fp.add m1 mr, ml, m3, ⟨d, xs', v, vs', m1, mr, rfl, rfl, r1, h1, rfl⟩, h2, rfl, by rw [Fp.add_left_comm, h4, Fp.add_left_comm]⟩
      | io => exact ⟨Fp.add m1 mo, mr, ml, m3, ⟨d, xs', v, vs', m1, mo, rfl, rfl, r1, h1, rfl⟩, h2, rfl, by rw [Fp.add_assoc, h4, Fp.add_left_comm]⟩
      | mv => exact ⟨Fp.add m1 mo, mr, ml, m3, ⟨d, xs', v, vs', m1, mo, rfl, rfl, r1, h1, rfl⟩, h2, rfl, by rw [Fp.add_assoc, h4, Fp.add_left_comm]⟩
    · cases hl
theorem set_same {σ : L2.St} {i : Nat} {s : Option V} (h : σ[i]? = some s) : σ.set i s = σ := by
  apply List.ext_getElem?
  intro j
  by_cases q : i = j
  · subst q
    rw [List.getElem?_set_self (List.getElem?_eq_some_iff.mp h).1, h]
  · rw [List.getElem?_set_ne q]
theorem SK.dropS {R : List RoE} {w : Wd} {e : List D} {σ : L2.St} {m k : Fp} {i : Nat} {s : Option V} (S : SK G ro R w e σ m k) (hr : ro i = false) (hs : σ[i]? = some s) : ∃ m', SK G ro R w (e.set i .undef) σ m' k ∧ ∀ b, m' b ≤ m b := by
  obtain ⟨m2, f, l⟩ := S.fr.drop i s
  rw [set_same hs] at f
  refine ⟨m2, ⟨S.world, S.own.le fun b => by have := l b; simp; omega, by rw [mask_set hr]; exact f, fun q hq => ?_, S.cov⟩, l⟩
  have a := S.ros q hq
  have ne : q.i ≠ i := fun z => by
    have z' := S.cov.2 q hq
    rw [z, hr] at z'; cases z'
  refine ⟨by rw [List.getElem?_set_ne (Ne.symm ne)]; exact a.ed, a.sv, a.rep, a.own, fun b => ?_⟩
  have h1 := a.apart b
  have h2 := l b
  simp at *; omega
theorem give_ok {R : List RoE} {w w0 : Wd} {σ : L2.St} : ∀ {as : List AD} {md : List Md} {ds ds0 : List D} {vs : List V} {e : List D} {m k mb mk : Fp}, adOk ro md as = true → RepD G w0 σ as ds0 vs mk → BackR G w md ds vs mb → SK G ro R w e σ m (Fp.add mb k) →
    ∃ m', SK G ro R w (giveB as ds e) σ m' k ∧ ∀ b, m' b ≤ m b + mb b
  | [], [], ds, ds0, vs, e, m, k, mb, mk, ha, r0, hb, S => by
    cases hb
    rw [Fp.zero_add] at S
    have : giveB [] ds e = e := by cases ds <;> rfl
    rw [this]
    exact ⟨m, S, fun b => by simp⟩
  | [], x :: ms, ds, ds0, vs, e, m, k, mb, mk, ha, r0, hb, S => by cases x <;> simp [adOk] at ha
  | .s i :: as, [], ds, ds0, vs, e, m, k, mb, mk, ha, r0, hb, S => by simp [adOk] at ha
  | .m h :: as, [], ds, ds0, vs, e, m, k, mb, mk, ha, r0, hb, S => by simp [adOk] at ha
  | .s i :: as, .ro :: ms, ds, ds0, vs, e, m, k, mb, mk, ha, r0, hb, S => by simp [adOk] at ha
  | .s i :: as, .mv :: ms, ds, ds0, vs, e, m, k, mb, mk, ha, r0, hb, S => by simp [adOk] at ha
  | .s i :: as, .io :: ms, ds, ds0, vs, e, m, k, mb, mk, ha, r0, hb, S => by
    simp only [adOk, Bool.and_eq_true, Bool.not_eq_true'] at ha
    obtain ⟨d, ds', v, vs', m1, m2, rfl, rfl, sl, hb, rfl⟩ := hb
    obtain ⟨_, _, _, _, rfl, e2, q, r0⟩ := r0
    cases e2
    simp only [giveB]
    rcases sl with ⟨rfl, rfl⟩ | ⟨v', ev, rd⟩
    · obtain ⟨m', S', l⟩ := S.dropS ha.1 q
      rw [Fp.zero_add] at S'
      obtain ⟨m'', S'', l'⟩ := give_ok ha.2 r0 hb S'
      exact ⟨m'', S'', fun b => by have := l b; have := l' b; simp; omega⟩
    · cases ev
      have il : i < e.length := by rw [S.len]; exact (List.getElem?_eq_some_iff.mp q).1
      obtain ⟨m', S', l⟩ := SK.put (md := m1) (k := Fp.add m2 k) (by rw [← Fp.add_assoc]; exact S) rd ha.1 il
      rw [set_same q] at S'
      obtain ⟨m'', S'', l'⟩ := give_ok ha.2 r0 hb S'
      exact ⟨m'', S'', fun b => by have := l b; have := l' b; simp; omega⟩
  | .m h :: as, x :: ms, ds, ds0, vs, e, m, k, mb, mk, ha, r0, hb, S => by
    have ha' : adOk ro ms as = true := by cases x <;> simpa [adOk] using ha
    obtain ⟨_, _, _, _, _, _, rfl, e2, _, r0, _⟩ := r0
    cases x with
    | ro =>
      obtain ⟨d, ds', v, vs', rfl, rfl, hb⟩ := hb
      cases e2
      simp only [giveB]
      exact give_ok ha' r0 hb S
    | mv =>
      obtain ⟨d, ds', v, vs', rfl, rfl, hb⟩ := hb
      cases e2
      simp only [giveB]
      exact give_ok ha' r0 hb S
    | io =>
      obtain ⟨d, ds', v, vs', m1, m2, rfl, rfl, sl, hb, rfl⟩ := hb
      cases e2
      simp only [giveB]
      obtain ⟨m', S', l'⟩ := give_ok ha' r0 hb (S.less (k2 := Fp.add m2 k) fun b => by simp)
      exact ⟨m', S', fun b => by have := l' b; simp; omega⟩

/-- the call itself, behind its arguments -/
theorem fin_ok {as : List AD} {md : List Md} {f : Fn} {R : List RoE} {w w1 : Wd} {σ : L2.St} {ds e1 e' : List D} {d : D} {vs : List V} {m m1 md1 : Fp} {Q : VK} {E : XK} (ha : adOk ro md as = true) (S1 : SK G ro R w1 e1 σ m1 md1) (r1 : RepD G w1 σ as ds vs md1) (x1 : Ext m w w1 (Fp.add m1 md1))
    (hf : mFin as f ds e1 = some (d, e')) (k : ∀ v w' mv m', SK G ro R w' e' σ m' mv → Rep G w' d v mv → Ext m w w' (Fp.add m' mv) → Q v w'.h) : spF G md f vs w1.h Q E := by
  unfold mFin at hf
  split at hf
  · rename_i xs e2 hl
    split at hf
    · rename_i d' xs' hx
      cases hf
      obtain ⟨mo, mr, ml, m2, A, S2, rfl, hs⟩ := lend_ok ha S1 r1 hl
      rw [← hs] at S2
      have O2 := S2.own.right
      refine ⟨w1, xs, mo, d, xs', rfl, S2.world, O2.left, ArgX.toR O2 A, hx, fun v w' mv mb W' rv hb o x => ?_⟩
      have xr : Ext (Fp.add mo mr) w1 w' (Fp.add (Fp.add mb mv) mr) := x.frameR
      have O' : Own w' (Fp.add (Fp.add mb mv) mr) := (Own.ext x O2.comm A.there o).comm
      have S3 := (S2.step xr W' O').less (k2 := Fp.add mb mv) fun b => by simp
      obtain ⟨m', S4, l⟩ := give_ok ha r1 hb S3
      refine k v w' mv m' S4 rv ?_
      have y : Ext (Fp.add (Fp.add m2 mr) mo) w1 w' (Fp.add (Fp.add m2 mr) (Fp.add mb mv)) := x.frame
      have hs' : ∀ b, Fp.add mo mr b = Fp.add ml md1 b := fun b => by rw [hs]
      refine (x1.trans (y.more (k0 := Fp.add (Fp.add ml m2) md1) fun b q => ?_)).less fun b q => ?_
      · have := hs' b; simp at *; omega
      · have := l b; simp at *; omega
    · cases hf
  · cases hf
variable {k j : Nat} {x mth : Str} {md : List Md} {f : Fn} {as : List AD}
theorem rM_call (c : C8.Cal X.prog X.w X.K X.mg X.base k x (spF G md f) []) (hr : Room j X.A) (hk : k ≤ j) (hg : Gl X x) (ha : PA X (e :: es) (tAD G ro as)) (ho : adOk ro md as = true := by rfl)
    (hdb : (x == ("__debug__" : Str)) = false := by decide) (he : starEach (e :: es) X.env = (false, eval e X.env) :: starEach es X.env := by rfl) (hpl : (backTo pos (starEach es X.env)).any (·.1) = false := by rfl) :
    PE X (.Call (.Name x p) (e :: es) [] pos) (tM G ro (mCall as f)) := PE.weak (C8.pe_c c hr hk hg ha hdb he hpl) fun σ H Q ⟨R, w, e, m, d, e', e0, S, hf, kk⟩ => by
  unfold mCall at hf
  split at hf
  · rename_i ds e1 hd
    refine ⟨R, w, e, m, ds, e1, e0, S, hd, fun vs w1 md1 m1 S1 r1 x1 => ?_⟩
    simp only [List.append_nil]
    exact fin_ok ho S1 r1 x1 hf kk
  · cases hf
/-! methods -/
def mMeth (c : Nat) (as : List AD) (f : Fn) : EvM := fun e => match evA as e with
  | some (d :: ds, e1) => if isIns c d = true then mFin as f (d :: ds) e1 else none
  | _ => none
variable {c : Nat} {a : AD}
theorem meth_ok {as : List AD} {Q : VK} {σ : L2.St} {H : Hp} {t : TA} {E : XK} (ho : adOk ro md (a :: as) = true) (hm : (G.flds c).contains mth = false) (ht : ∀ Q, tAD G ro as σ H Q → True) (hq : tM G ro (mMeth c (a :: as) f) σ H Q) :
    tA1 G ro a σ H fun x H1 => ∃ aa dx fs, x = .ref aa ∧ H1 aa = some (.ins (G.cls c) dx fs) ∧ fs.lookup mth = none ∧ tAD G ro as σ H1 fun vs H2 => spF G md f (x :: (vs ++ [])) H2 Q E := by
  obtain ⟨R, w, e, m, d, e', rfl, S, hf, kk⟩ := hq
  unfold mMeth at hf
  split at hf
  · rename_i d0 ds e1 hd
    split at hf
    · rename_i hi
      refine ad_one S hd fun v w1 m1 md1 e2 d1 ds' ed S1 hds x1 hm1 => ?_
      cases ed
      have rr : ∃ mb, Rep G w1 d0 v mb := by
        cases a with
        | m h => exact ⟨_, hm1⟩
        | s i => obtain ⟨_, _, rfl, mb, q⟩ := hm1; exact ⟨mb, q⟩
      obtain ⟨mb, rr⟩ := rr
      obtain ⟨aa, dx, fs, rfl, h1, h2⟩ := Rep.isIns hi rr hm
      refine ⟨aa, dx, fs, rfl, h1, h2, R, w1, e2, m1, ds, e1, rfl, S1.zero, hds, fun vs w2 md2 m2 S2 r2 x2 => ?_⟩
      simp only [List.append_nil]
      obtain ⟨md', q1, q2, q3⟩ := ad_rest S1 x1 hm1 S2 r2 x2
      exact fin_ok ho q1 q2 q3 hf kk
    · cases hf
  · cases hf
theorem rM_meth {pl : Sem Bool} (cc : C8.Met X.prog X.w X.K X.mg X.base k (G.cls c) mth (spF G md f) []) (hr : Room j X.A) (hk : k ≤ j) (ho : PE X o (tA1 G ro a)) (ha : PA X (e :: es) (tAD G ro as)) (hm : (G.flds c).contains mth = false) (hok : adOk ro md (a :: as) = true := by rfl)
    (hst : starEach (e :: es) X.env = (false, eval e X.env) :: starEach es X.env := by rfl) (hpl : (backTo pos (starEach es X.env)).any (·.1) = false := by rfl)
    (ht : eval (.Call (.Attribute o mth apos) (e :: es) [] pos) X.env = (do
      let ov ← eval o X.env
      standAt apos.atName
      let (f, first) ← holding [ov] (getMethod ov mth pl)
      callWith pos f first (backTo pos (starEach (e :: es) X.env)) (backToKw pos (keywordEach [] X.env))) := by rfl) :
    PE X (.Call (.Attribute o mth apos) (e :: es) [] pos) (tM G ro (mMeth c (a :: as) f)) := PE.weak (C8.pe_mt (pl := pl) cc hr hk ho ha hst hpl ht) fun σ H Q q => meth_ok (t := tNil) hok hm (fun _ _ => trivial) q
theorem rM_meth0 {pl : Sem Bool} (cc : C8.Met X.prog X.w X.K X.mg X.base k (G.cls c) mth (spF G md f) []) (hr : Room j X.A) (hk : k ≤ j) (ho : PE X o (tA1 G ro a)) (hm : (G.flds c).contains mth = false) (hok : adOk ro md [a] = true := by rfl)
    (ht : eval (.Call (.Attribute o mth apos) [] [] pos) X.env = (do
      let ov ← eval o X.env
      standAt apos.atName
      let (f, first) ← holding [ov] (getMethod ov mth pl)
      callWith pos f first (backTo pos (starEach [] X.env)) (backToKw pos (keywordEach [] X.env))) := by rfl) :
    PE X (.Call (.Attribute o mth apos) [] [] pos) (tM G ro (mMeth c [a] f)) := PE.weak (C8.pe_mt0 (pl := pl) cc hr hk ho ht) fun σ H Q q => by
  obtain ⟨R, w, e, m, d, e', rfl, S, hf, kk⟩ := q
  unfold mMeth at hf
  split at hf
  · rename_i d0 ds e1 hd
    split at hf
    · rename_i hi
      refine ad_one S hd fun v w1 m1 md1 e2 d1 ds' ed S1 hds x1 hm1 => ?_
      cases ed
      have rr : ∃ mb, Rep G w1 d0 v mb := by
        cases a with
        | m h => exact ⟨_, hm1⟩
        | s i => obtain ⟨_, _, rfl, mb, q⟩ := hm1; exact ⟨mb, q⟩
      obtain ⟨mb, rr⟩ := rr
      obtain ⟨aa, dx, fs, rfl, h1, h2⟩ := Rep.isIns hi rr hm
      cases hds
      refine ⟨aa, dx, fs, rfl, h1, h2, ?_⟩
      obtain ⟨md', q1, q2, q3⟩ := ad_rest (as := []) (vs := []) (md2 := Fp.zero) S1 x1 hm1 S1.zero ⟨rfl, rfl, rfl⟩ (by rw [Fp.add_zero]; exact Ext.refl _ _)
      exact fin_ok (E := E0) (vs := [.ref aa]) hok q1 q2 q3 hf kk
    · cases hf
  · cases hf
end
end TL
end
section
set_option maxRecDepth 100000
/-! The tree layer, part S: dicts by trees. -/
namespace TL
open PySem PySem.Spec PyProof.Rows L2

/-! ### keys -/
mutual
/-- a key: at most n deep -/
def nkOk : Nat → D → Bool
  | _, .non => true
  | _, .bl _ => true
  | _, .int _ => true
  | _, .str _ => true
  | n + 1, .tup xs => nkOkL n xs
  | _, _ => false
def nkOkL : Nat → List D → Bool
  | _, [] => true
  | n, d :: ds => nkOk n d && nkOkL n ds
end
def keyT (d : D) : Bool := isTupD d && nkOk 8 d
def isKeyD : D → Bool
  | .int _ => true
  | .str _ => true
  | _ => false
mutual
theorem nkOk_key : ∀ (n : Nat) (d : D), nkOk n d = true → ∃ k, nkD d = some k ∧ k.depth ≤ n
  | n, .non, h => ⟨.none, rfl, by simp [NestedKey.depth]⟩
  | n, .bl _, h => ⟨_, rfl, by simp [NestedKey.depth]⟩
  | n, .int _, h => ⟨_, rfl, by simp [NestedKey.depth]⟩
  | n, .str _, h => ⟨_, rfl, by simp [NestedKey.depth]⟩
  | 0, .tup xs, h => by simp [nkOk] at h
  | n + 1, .tup xs, h => by
    simp only [nkOk] at h
    obtain ⟨ks, h1, h2⟩ := nkOkL_key n xs h
    exact ⟨.tup ks, by simp [nkD, h1], by simp only [NestedKey.depth]; omega⟩
  | n, .undef, h => by simp [nkOk] at h
  | n, .lst _ _, h => by simp [nkOk] at h
  | n, .dct _ _ _ _, h => by simp [nkOk] at h
  | n, .ins _ _ _, h => by simp [nkOk] at h
  | n, .fam _ _, h => by simp [nkOk] at h
  | n, .scr _, h => by simp [nkOk] at h
theorem nkOkL_key : ∀ (n : Nat) (ds : List D), nkOkL n ds = true → ∃ ks, nkL ds = some ks ∧ NestedKey.depthAll ks ≤ n
  | n, [], h => ⟨[], rfl, by simp [NestedKey.depthAll]⟩
  | n, d :: ds, h => by
    simp only [nkOkL, Bool.and_eq_true] at h
    obtain ⟨k, h1, h2⟩ := nkOk_key n d h.1
    obtain ⟨ks, h3, h4⟩ := nkOkL_key n ds h.2
    exact ⟨k :: ks, by simp [nkL, h1, h3], by simp only [NestedKey.depthAll]; omega⟩
end
theorem nkL_cons {d : D} {ds : List D} {k : List NestedKey} (h : nkL (d :: ds) = some k) : ∃ x xs, nkD d = some x ∧ nkL ds = some xs ∧ k = x :: xs := by
  simp only [nkL] at h
  split at h
  · rename_i x xs h1 h2; cases h; exact ⟨x, xs, h1, h2, rfl⟩
  · cases h
theorem nkD_tup {ds : List D} {k : NestedKey} (h : nkD (.tup ds) = some k) : ∃ xs, nkL ds = some xs ∧ k = .tup xs := by
  simp only [nkD] at h
  split at h
  · rename_i xs h1; cases h; exact ⟨xs, h1, rfl⟩
  · cases h
theorem num_inj {a b : Int} : (NestedKey.num a = NestedKey.num b) ↔ a = b := ⟨fun h => NestedKey.num.inj h, fun h => by rw [h]⟩
mutual
theorem nk_eq : ∀ (a b : D) (x y : NestedKey), nkD a = some x → nkD b = some y → (eqD a b = true ↔ x = y)
  | .undef, b, x, y, h, h' => by simp [nkD] at h
  | .lst _ _, b, x, y, h, h' => by simp [nkD] at h
  | .dct _ _ _ _, b, x, y, h, h' => by simp [nkD] at h
  | .ins _ _ _, b, x, y, h, h' => by simp [nkD] at h
  | .fam _ _, b, x, y, h, h' => by simp [nkD] at h
  | .scr _, b, x, y, h, h' => by simp [nkD] at h
  | .non, b, x, y, h, h' => by
    simp only [nkD, Option.some.injEq] at h; subst h
    cases b with
    | tup ys => obtain ⟨ks, _, rfl⟩ := nkD_tup h'; simp [eqD]
    | _ => simp only [nkD, Option.some.injEq, reduceCtorEq] at h' <;> subst h' <;> simp [eqD]
  | .str s, b, x, y, h, h' => by
    simp only [nkD, Option.some.injEq] at h; subst h
    cases b with
    | tup ys => obtain ⟨ks, _, rfl⟩ := nkD_tup h'; simp [eqD]
    | _ => simp only [nkD, Option.some.injEq, reduceCtorEq] at h' <;> subst h' <;> simp [eqD]
  | .int i, b, x, y, h, h' => by
    simp only [nkD, Option.some.injEq] at h; subst h
    cases b with
    | tup ys => obtain ⟨ks, _, rfl⟩ := nkD_tup h'; simp [eqD]
    | _ => simp only [nkD, Option.some.injEq, reduceCtorEq] at h' <;> subst h' <;> simp [eqD]
  | .bl c, b, x, y, h, h' => by
    simp only [nkD, Option.some.injEq] at h; subst h
    cases b with
    | tup ys => obtain ⟨ks, _, rfl⟩ := nkD_tup h'; simp [eqD]
    | bl c' => simp only [nkD, Option.some.injEq] at h'; subst h'; cases c <;> cases c' <;> simp [eqD]
    | _ => simp only [nkD, Option.some.injEq, reduceCtorEq] at h' <;> subst h' <;> simp [eqD]
  | .tup xs, b, x, y, h, h' => by
    obtain ⟨ks, h1, rfl⟩ := nkD_tup h
    cases b with
    | tup ys =>
      obtain ⟨ls, h2, rfl⟩ := nkD_tup h'
      simp only [eqD, NestedKey.tup.injEq]
      exact nkL_eq xs ys ks ls h1 h2
    | _ => simp only [nkD, Option.some.injEq, reduceCtorEq] at h' <;> subst h' <;> simp [eqD]
theorem nkL_eq : ∀ (a b : List D) (x y : List NestedKey), nkL a = some x → nkL b = some y → (eqL a b = true ↔ x = y)
  | [], [], x, y, h, h' => by simp only [nkL, Option.some.injEq] at h h'; subst h; subst h'; simp [eqL]
  | [], b :: bs, x, y, h, h' => by
    obtain ⟨k, ks, h1, h2, rfl⟩ := nkL_cons h'
    simp only [nkL, Option.some.injEq] at h; subst h; simp [eqL]
  | a :: as, [], x, y, h, h' => by
    obtain ⟨k, ks, h1, h2, rfl⟩ := nkL_cons h
    simp only [nkL, Option.some.injEq] at h'; subst h'; simp [eqL]
  | a :: as, b :: bs, x, y, h, h' => by
    obtain ⟨k, ks, h1, h2, rfl⟩ := nkL_cons h
    obtain ⟨l, ls, h3, h4, rfl⟩ := nkL_cons h'
    simp only [eqL, Bool.and_eq_true, List.cons.injEq]
    rw [nk_eq a b k l h1 h3, nkL_eq as bs ks ls h2 h4]
end
theorem key_eq : ∀ (a b : D) (x y : Key), keyD a = some x → keyD b = some y → (eqD a b = true ↔ x = y) := by
  intro a b x y h h'
  cases a <;> simp only [keyD, Option.some.injEq, reduceCtorEq] at h <;> subst h <;> cases b <;> simp only [keyD, Option.some.injEq, reduceCtorEq] at h' <;> subst h' <;> simp [eqD]

/-! ### places -/
def findD (k : D) : List D → List D → Option D
  | x :: ks, v :: vs => if eqD x k = true then some v else findD k ks vs
  | _, _ => none
def hasD (k : D) : List D → Bool
  | [] => false
  | x :: ks => eqD x k || hasD k ks
/-- the values after k is stored: at its place, or at the end -/
def putV (k v : D) : List D → List D → List D
  | x :: ks, u :: vs => if eqD x k = true then v :: vs else u :: putV k v ks vs
  | _, _ => [v]
def putK' (k : D) (ks : List D) : List D := if hasD k ks = true then ks else ks ++ [k]

/-! ### the int and text kind -/
section
variable {G : Gen} {w : Wd}
theorem keysD_cons {d : D} {ds : List D} {k : List Key} (h : keysD (d :: ds) = some k) : ∃ x xs, keyD d = some x ∧ keysD ds = some xs ∧ k = x :: xs := by
  simp only [keysD] at h
  split at h
  · rename_i x xs h1 h2; cases h; exact ⟨x, xs, h1, h2, rfl⟩
  · cases h
theorem valV_cons {κ : Type} [DecidableEq κ] (k0 k : κ) (v : V) (kvs : List (κ × V)) : valV ((k0, v) :: kvs) k = if k0 = k then some v else valV kvs k := by
  unfold valV
  by_cases h : k0 = k
  · simp [h]
  · simp [h]
/-- what is found, by any kind of key -/
theorem find_gen {κ : Type} [DecidableEq κ] {key : D → Option κ} {keys : List D → Option (List κ)} (hnil : ∀ k, keys [] = some k → k = []) (hc : ∀ d ds k, keys (d :: ds) = some k → ∃ x xs, key d = some x ∧ keys ds = some xs ∧ k = x :: xs)
    (he : ∀ a b x y, key a = some x → key b = some y → (eqD a b = true ↔ x = y)) {k : D} {κk : κ} (hk : key k = some κk) : ∀ {ks vs : List D} {kvs : List (κ × V)} {m : Fp}, keys ks = some (kvs.map (·.1)) → RepL G w vs (kvs.map (·.2)) m →
    (hasD k ks = (valV kvs κk).isSome) ∧ (∀ d, findD k ks vs = some d → ∃ v md, valV kvs κk = some v ∧ Rep G w d v md ∧ ∀ b, md b ≤ m b) ∧ (findD k ks vs = none → valV kvs κk = none)
  | [], vs, kvs, m, h1, h2 => by
    have e := hnil _ h1
    cases kvs with
    | nil => exact ⟨rfl, fun d q => by cases vs <;> simp [findD] at q, fun _ => rfl⟩
    | cons p kvs => simp at e
  | d :: ks, vs, kvs, m, h1, h2 => by
    obtain ⟨x, xs, e1, e2, e3⟩ := hc _ _ _ h1
    cases kvs with
    | nil => simp at e3
    | cons p kvs =>
      obtain ⟨p1, p2⟩ := p
      simp only [List.map_cons, List.cons.injEq] at e3
      obtain ⟨rfl, rfl⟩ := e3
      cases vs with
      | nil => simp [RepL] at h2
      | cons u vs =>
        simp only [List.map_cons, RepL] at h2
        obtain ⟨v, vs', m1, m2, e4, r1, r2, rfl⟩ := h2
        simp only [List.cons.injEq] at e4
        obtain ⟨rfl, rfl⟩ := e4
        obtain ⟨i1, i2, i3⟩ := find_gen hnil hc he hk e2 r2
        have q := he d k p1 κk e1 hk
        rw [valV_cons]
        simp only [hasD, findD]
        by_cases z : eqD d k = true
        · rw [if_pos (q.mp z), if_pos z, z]
          refine ⟨rfl, fun d' hd => ?_, fun n => nomatch n⟩
          cases hd
          exact ⟨p2, m1, rfl, r1, fun b => by simp⟩
        · rw [if_neg fun n => z (q.mpr n), if_neg z]
          have z' : eqD d k = false := by simpa using z
          rw [z', Bool.false_or]
          refine ⟨i1, fun d' hd => ?_, i3⟩
          obtain ⟨v, md, q1, q2, q3⟩ := i2 d' hd
          exact ⟨v, md, q1, q2, fun b => by have := q3 b; simp; omega⟩
theorem keysD_nil (k : List Key) (h : keysD [] = some k) : k = [] := by cases h; rfl
theorem nkL_nil (k : List NestedKey) (h : nkL [] = some k) : k = [] := by cases h; rfl
theorem isKeyD_key {d : D} (h : isKeyD d = true) : ∃ k, keyD d = some k := by cases d <;> simp [isKeyD] at h <;> exact ⟨_, rfl⟩
theorem keyT_key {d : D} (h : keyT d = true) : ∃ k, nkD d = some k ∧ k.depth ≤ 8 := nkOk_key 8 d (by unfold keyT at h; rw [Bool.and_eq_true] at h; exact h.2)
theorem Rep.key {d : D} {k : Key} {v : V} {m : Fp} (h : keyD d = some k) (r : Rep G w d v m) : v = kV k := by
  cases d <;> simp only [keyD, Option.some.injEq, reduceCtorEq] at h <;> subst h <;> simp only [Rep] at r <;> exact r.1

/-! ### tuples as keys -/
section
variable {X : Cx} {pins : List (Addr × Obj)} {σ : L2.St} {s : Shared}
mutual
theorem Rep.nested (I : Inv X pins σ w.h s) (hK : X.K = G.K) : ∀ (d : D) (k : NestedKey) (v : V) (u : Value) (m : Fp), nkD d = some k → Rep G w d v m → RelV v u → NestedIs s.heap k u
  | .non, k, v, u, m, h, r, ru => by
    simp only [nkD, Option.some.injEq] at h; subst h
    simp only [Rep] at r; obtain ⟨rfl, _⟩ := r; cases ru; exact .none
  | .bl b, k, v, u, m, h, r, ru => by
    simp only [nkD, Option.some.injEq] at h; subst h
    simp only [Rep] at r; obtain ⟨rfl, _⟩ := r; cases ru; exact .bool rfl
  | .int i, k, v, u, m, h, r, ru => by
    simp only [nkD, Option.some.injEq] at h; subst h
    simp only [Rep] at r; obtain ⟨rfl, _⟩ := r; obtain ⟨t, rfl⟩ := ru; exact .int i t
  | .str x, k, v, u, m, h, r, ru => by
    simp only [nkD, Option.some.injEq] at h; subst h
    simp only [Rep] at r; obtain ⟨rfl, _⟩ := r; obtain ⟨t, rfl⟩ := ru; exact .text x t
  | .tup xs, k, v, u, m, h, r, ru => by
    obtain ⟨ks, h1, rfl⟩ := nkD_tup h
    simp only [Rep] at r
    obtain ⟨a, vs, rfl, h2, h3⟩ := r
    cases ru
    obtain ⟨its, rv, ht, hz⟩ := I.tuple (by rw [hK]; exact h2)
    obtain ⟨o, ho, hc, n, hd⟩ := id ht
    refine .tup ho hc hd ?_
    exact RepL.nested I hK xs ks vs its m h1 h3 rv
  | .undef, k, v, u, m, h, r, ru => by simp [nkD] at h
  | .lst _ _, k, v, u, m, h, r, ru => by simp [nkD] at h
  | .dct _ _ _ _, k, v, u, m, h, r, ru => by simp [nkD] at h
  | .ins _ _ _, k, v, u, m, h, r, ru => by simp [nkD] at h
  | .fam _ _, k, v, u, m, h, r, ru => by simp [nkD] at h
  | .scr _, k, v, u, m, h, r, ru => by simp [nkD] at h
theorem RepL.nested (I : Inv X pins σ w.h s) (hK : X.K = G.K) : ∀ (ds : List D) (ks : List NestedKey) (vs : List V) (us : List Value) (m : Fp), nkL ds = some ks → RepL G w ds vs m → Vals vs us → NestedAll s.heap ks us
  | [], ks, vs, us, m, h, r, ru => by
    cases h
    simp only [RepL] at r; obtain ⟨rfl, _⟩ := r; cases ru; exact .nil
  | d :: ds, ks, vs, us, m, h, r, ru => by
    obtain ⟨k, ks', h1, h2, rfl⟩ := nkL_cons h
    simp only [RepL] at r
    obtain ⟨v, vs', m1, m2, rfl, r1, r2, rfl⟩ := r
    cases ru with
    | cons q1 q2 => exact .cons (Rep.nested I hK d k v _ m1 h1 r1 q1) (RepL.nested I hK ds ks' vs' _ m2 h2 r2 q2)
end
end
end
end TL
end
section
set_option maxRecDepth 100000
/-! The tree layer, part T: dicts read and stored. -/
namespace TL
open PySem PySem.Spec PyProof.Rows L2

abbrev YS := List (NestedKey × Addr × V)
abbrev XS := List (NestedKey × Addr × Value)
abbrev YX (ys : YS) (xs : XS) : Prop := Paired (fun (p : NestedKey × Addr × V) (q : NestedKey × Addr × Value) => p.1 = q.1 ∧ p.2.1 = q.2.1 ∧ RelV p.2.2 q.2.2) ys xs
def kvY (ys : YS) : List (NestedKey × V) := ys.map fun y => (y.1, y.2.2)
theorem kvY_fst (ys : YS) : (kvY ys).map (·.1) = ys.map (·.1) := by simp [kvY, List.map_map, Function.comp_def]
theorem kvY_snd (ys : YS) : (kvY ys).map (·.2) = ys.map (·.2.2) := by simp [kvY, List.map_map, Function.comp_def]
theorem yx_at {k : NestedKey} : ∀ {ys : YS} {xs : XS}, YX ys xs → RelO (valV (kvY ys) k) ((atKey xs k).map (·.2))
  | _, _, .nil => trivial
  | _, _, .cons (a := p) (b := q) (l₁ := l) (l₂ := r) ⟨e1, e2, e3⟩ t => by
    obtain ⟨p1, p2, p3⟩ := p
    obtain ⟨q1, q2, q3⟩ := q
    have e1' : p1 = q1 := e1
    subst e1'
    have ih := yx_at (k := k) t
    show RelO (valV ((p1, p3) :: kvY l) k) _
    rw [valV_cons]
    by_cases h : p1 = k
    · simp [h, atKey]; exact e3
    · have e : atKey ((p1, q2, q3) :: r) k = atKey r k := by simp [atKey, h]
      rw [if_neg h, e]
      exact ih
theorem yx_len {ys : YS} {xs : XS} (h : YX ys xs) : ys.length = xs.length := Paired.length h
section
variable {X : Cx} {G : Gen} {w : Wd} {pins : List (Addr × Obj)} {σ : L2.St} {s : Shared} {a : Addr}
theorem nk_mem : ∀ {ds : List D} {ks : List NestedKey} {as : List Addr} {m : Fp}, nkL ds = some ks → RepL G w ds (as.map V.ref) m → ∀ (i : Nat) k b, ks[i]? = some k → as[i]? = some b → ∃ d md, nkD d = some k ∧ Rep G w d (.ref b) md
  | [], ks, as, m, h, r, i, k, b, e1, e2 => by cases h; simp at e1
  | d :: ds, ks, as, m, h, r, i, k, b, e1, e2 => by
    obtain ⟨x, xs, h1, h2, rfl⟩ := nkL_cons h
    simp only [RepL] at r
    obtain ⟨v, vs, m1, m2, e3, r1, r2, rfl⟩ := r
    cases as with
    | nil => simp at e3
    | cons c as =>
      simp only [List.map_cons, List.cons.injEq] at e3
      obtain ⟨rfl, rfl⟩ := e3
      cases i with
      | zero => simp at e1 e2; subst e1; subst e2; exact ⟨d, m1, h1, r1⟩
      | succ i => exact nk_mem h2 r2 i k b (by simpa using e1) (by simpa using e2)
theorem paired_get {α β : Type} {F : α → β → Prop} : ∀ {l₁ : List α} {l₂ : List β}, Paired F l₁ l₂ → ∀ q ∈ l₂, ∃ (i : Nat) (p : α), l₁[i]? = some p ∧ l₂[i]? = some q ∧ F p q
  | _, _, .nil, q, h => by simp at h
  | _, _, .cons (a := a) (b := b) f t, q, h => by
    rcases List.mem_cons.mp h with e | h
    · subst e; exact ⟨0, a, rfl, rfl, f⟩
    · obtain ⟨i, p, h1, h2, h3⟩ := paired_get t q h
      exact ⟨i + 1, p, by simpa using h1, by simpa using h2, h3⟩
/-- the library's look of a dict with tuple keys -/
theorem rawt_of (I : Inv X pins σ w.h s) (F : Fit X G) {f : Bool} {ks : List D} {ys : YS} {m : Fp} (h : At w f a (.ext (RawT G a ys))) (hk : nkL ks = some (ys.map (·.1))) (r : RepL G w ks (ys.map fun y => V.ref y.2.1) m) :
    ys.length ≤ sizeLine ∧ (a == sysModules) = false ∧ (∀ y ∈ ys, y.1.depth ≤ 8) ∧ ∃ xs, YX ys xs ∧ s.heap.DictOfH (nestedKind X.prog X.w) a xs := by
  obtain ⟨⟨h1, h2, h3, xs, h4, o, es, ep, h5, h6, h7, h8, h9⟩, _⟩ := I.hok a _ h.1
  rw [F.P, F.W]
  refine ⟨h1, h2, h3, xs, h4, o, es, ep, h5, h6, h7, h8, fun x hx => ?_, h9⟩
  obtain ⟨i, p, q1, q2, q3⟩ := paired_get h4 x hx
  have r' : RepL G w ks ((ys.map (·.2.1)).map V.ref) m := by rwa [List.map_map]
  obtain ⟨d, md, e1, e2⟩ := nk_mem hk r' i p.1 p.2.1 (by rw [List.getElem?_map, q1]; rfl) (by rw [List.getElem?_map, q1]; rfl)
  have := Rep.nested I F.K d _ _ (.ref p.2.1) md e1 e2 rfl
  rw [← q3.1, ← q3.2.1]
  exact ⟨this, h3 p (List.mem_of_getElem? q1)⟩
theorem room_nested (F : Fit X G) : (nestedKind X.prog X.w).room X.A.in1 := by
  have := F.units
  show X.A.units + 1 + 8 < cLine
  omega
/-- a tuple as a key, as it stands -/
theorem Rep.isKey (I : Inv X pins σ w.h s) (F : Fit X G) {d : D} {v : V} {u : Value} {m : Fp} (hk : keyT d = true) (r : Rep G w d v m) (ru : RelV v u) : ∃ k b, nkD d = some k ∧ u = .ref b ∧ (nestedKind X.prog X.w).is s.heap k b ∧ v = .ref b ∧ k.depth ≤ 8 := by
  obtain ⟨k, h1, h2⟩ := keyT_key hk
  unfold keyT at hk
  rw [Bool.and_eq_true] at hk
  cases d <;> simp [isTupD] at hk
  have q := Rep.nested I F.K _ k v u m h1 r ru
  simp only [Rep] at r
  obtain ⟨b, vs, rfl, _⟩ := r
  cases ru
  exact ⟨k, b, h1, rfl, ⟨q, h2⟩, rfl, h2⟩

/-! ### in -/
def dInDict : D → D → Option Bool
  | k, .dct _ false ks _ => if isKeyD k = true then some (hasD k ks) else if (ks.isEmpty && keyT k) = true then some false else none
  | k, .dct _ true ks _ => if keyT k = true then some (hasD k ks) else none
  | _, _ => none
def dIn (x y : D) : Option D := match y with
  | .dct _ _ _ _ => match dInDict x y with
    | some b => some (.bl b)
    | none => none
  | _ => dInS x y
def dNotIn (x y : D) : Option D := match y with
  | .dct _ _ _ _ => match dInDict x y with
    | some b => some (.bl (!b))
    | none => none
  | _ => dNotInS x y
/-- an empty dict, asked by a tuple -/
theorem dk_empty_h (I : Inv X pins σ w.h s) (h : w.h a = some (.dK [])) : (a == sysModules) = false ∧ s.heap.DictOfH (nestedKind X.prog X.w) a [] := by
  obtain ⟨_, h2, vs, h3, dd⟩ := I.hok a _ h
  cases h3
  obtain ⟨o, es, ep, q1, q2, q3, _, q4, _⟩ := id dd
  generalize he : es.toList = l at q4
  cases q4
  exact ⟨h2, o, es, ep, q1, q2, q3, he, fun x hx => by simp at hx, by simp⟩
/-- what `in` says of a dict -/
theorem dict_in (I : Inv X pins σ w.h s) (F : Fit X G) {dk dd : D} {x y : V} {u v : Value} {m1 m2 : Fp} {b : Bool} (h : dInDict dk dd = some b) (rk : Rep G w dk x m1) (rd : Rep G w dd y m2) (rx : RelV x v) (ry : RelV y u) :
    (∀ (A : Around) (E : Value → Shared → Prop) (Q : Value → Shared → Prop), A.units + 16 < cLine → (∀ s', Inv X pins σ w.h s' → Q (.bool b) s') → wpAny (model X.prog X.w) A (compareOp .In v u) Q E s) ∧
    (∀ (A : Around) (E : Value → Shared → Prop) (Q : Value → Shared → Prop), A.units + 16 < cLine → (∀ s', Inv X pins σ w.h s' → Q (.bool (!b)) s') → wpAny (model X.prog X.w) A (compareOp .NotIn v u) Q E s) := by
  cases dd <;> try (simp [dInDict] at h; done)
  rename_i f t ks vs
  cases t with
  | false =>
    simp only [Rep] at rd
    obtain ⟨a, kvs, m', rfl, h1, h2, h3, rfl⟩ := rd
    cases ry
    simp only [dInDict] at h
    split at h
    · rename_i hi
      cases h
      obtain ⟨k, hk⟩ := isKeyD_key hi
      have g := find_gen (k := dk) keysD_nil (fun _ _ _ => keysD_cons) key_eq hk h2 h3
      have ex := Rep.key hk rk
      subst ex
      have dg : DGet w.h a (kV k) (valV kvs k) := DGet.k h1.1
      rw [g.1]
      exact ⟨fun A E Q hu q => d_in (by omega) I dg rx q, fun A E Q hu q => d_notIn (by omega) I dg rx q⟩
    · split at h
      · rename_i hi
        cases h
        rw [Bool.and_eq_true] at hi
        have e : ks = [] := by simpa using hi.1
        subst e
        have e2 : kvs = [] := by
          have q := keysD_nil _ h2
          exact List.map_eq_nil_iff.mp q
        subst e2
        obtain ⟨z, dh⟩ := dk_empty_h I h1.1
        obtain ⟨k, c, k1, rfl, k2, _, _⟩ := Rep.isKey I F hi.2 rk rx
        have rm : ∀ A : Around, A.units + 16 < cLine → (nestedKind X.prog X.w).room A.in1 := fun A hu => by show A.units + 1 + 8 < cLine; omega
        exact ⟨fun A E Q hu q => wpAny_in_heap (rm A hu) k2 z dh (q _ (I.tok _)), fun A E Q hu q => by
          show wpAny _ _ (do return .bool (!(← contains (.ref a) (.ref c)))) Q E s
          exact wpAny_bind (wpAny_contains_heap (rm A hu) k2 z dh (wpAny_pure (q _ (I.tok _))))⟩
      · cases h
  | true =>
    simp only [Rep] at rd
    obtain ⟨a, ys, m', rfl, h1, h2, h4, h3, rfl⟩ := rd
    cases ry
    simp only [dInDict] at h
    split at h
    · rename_i hi
      cases h
      obtain ⟨k, c, k1, rfl, k2, _, _⟩ := Rep.isKey I F hi rk rx
      obtain ⟨_, z, _, xs, yx, dh⟩ := rawt_of I F h1 h2 h4
      have g := find_gen (k := dk) (kvs := kvY ys) nkL_nil (fun _ _ _ => nkL_cons) nk_eq k1 (by rw [kvY_fst]; exact h2) (by rw [kvY_snd]; exact h3)
      have e : hasD dk ks = (atKey xs k).isSome := by
        rw [g.1]
        have := (yx_at (k := k) yx).isSome_eq
        rw [this, Option.isSome_map]
      rw [e]
      have rm : ∀ A : Around, A.units + 16 < cLine → (nestedKind X.prog X.w).room A.in1 := fun A hu => by show A.units + 1 + 8 < cLine; omega
      exact ⟨fun A E Q hu q => wpAny_in_heap (rm A hu) k2 z dh (q _ (I.tok _)), fun A E Q hu q => by
        show wpAny _ _ (do return .bool (!(← contains (.ref a) (.ref c)))) Q E s
        exact wpAny_bind (wpAny_contains_heap (rm A hu) k2 z dh (wpAny_pure (q _ (I.tok _))))⟩
    · cases h
theorem o_inD (F : Fit X G) : OpR X (compareOp .In) (r2 G fun x y => match dInDict x y with
    | some b => some (.bl b)
    | none => none) := by
  intro pins s σ H x y v u Q I rx ry ⟨w, d1, d2, m1, m2, d, e0, W, r1, o1, r2, o2, hf, k⟩
  subst e0
  simp only at hf
  split at hf
  · rename_i b hb
    cases hf
    have hu := F.units
    exact (dict_in I F hb r1 r2 rx ry).1 X.A X.xe _ (by omega) fun s' I' => ⟨.bl b, w.h, I', rfl, Done.flat k W Rep.mkBl⟩
  · cases hf
theorem o_notInD (F : Fit X G) : OpR X (compareOp .NotIn) (r2 G fun x y => match dInDict x y with
    | some b => some (.bl (!b))
    | none => none) := by
  intro pins s σ H x y v u Q I rx ry ⟨w, d1, d2, m1, m2, d, e0, W, r1, o1, r2, o2, hf, k⟩
  subst e0
  simp only at hf
  split at hf
  · rename_i b hb
    cases hf
    have hu := F.units
    exact (dict_in I F hb r1 r2 rx ry).2 X.A X.xe _ (by omega) fun s' I' => ⟨.bl (!b), w.h, I', rfl, Done.flat k W Rep.mkBl⟩
  · cases hf
theorem o_in (F : Fit X G) : OpR X (compareOp .In) (r2 G dIn) := OpR.weak (OpR.or (o_inD F) (o_inS F)) fun x y H Q ⟨w, d1, d2, m1, m2, d, e0, W, r1, o1, r2, o2, hf, k⟩ => by
  unfold dIn at hf
  split at hf
  · exact .inl ⟨w, d1, _, m1, m2, d, e0, W, r1, o1, r2, o2, hf, k⟩
  · exact .inr ⟨w, d1, _, m1, m2, d, e0, W, r1, o1, r2, o2, hf, k⟩
theorem o_notIn (F : Fit X G) : OpR X (compareOp .NotIn) (r2 G dNotIn) := OpR.weak (OpR.or (o_notInD F) (o_notInS F)) fun x y H Q ⟨w, d1, d2, m1, m2, d, e0, W, r1, o1, r2, o2, hf, k⟩ => by
  unfold dNotIn at hf
  split at hf
  · exact .inl ⟨w, d1, _, m1, m2, d, e0, W, r1, o1, r2, o2, hf, k⟩
  · exact .inr ⟨w, d1, _, m1, m2, d, e0, W, r1, o1, r2, o2, hf, k⟩
end
end TL
end
section
set_option maxRecDepth 100000
/-! The tree layer, part U: indexes, slices, attributes read. -/
namespace TL
open PySem PySem.Spec PyProof.Rows L2
section
variable {X : Cx} {G : Gen} {ro fx : Nat → Bool} {e a b c : Expr} {pos : Pos} {f1 f2 : Ev}
theorem PE.or {t t' : TE} (h : PE X e t) (h' : PE X e t') : PE X e (fun σ H Q => t σ H Q ∨ t' σ H Q) := ⟨fun pins s σ H Q I q => q.elim (h.run pins s σ H Q I) (h'.run pins s σ H Q I)⟩
/-! ### a[i] -/
def dIx : D → D → Option D
  | .lst _ xs, .int i => atI xs i
  | .tup xs, .int i => atI xs i
  | .dct _ false ks vs, k => if isKeyD k = true then findD k ks vs else none
  | .dct _ true ks vs, k => if keyT k = true then findD k ks vs else none
  | _, _ => none
/-- a part of a value that is looked at -/
def rPart (G : Gen) (g : D → D → Option D) : R2 := fun x y H Q => ∃ w d1 d2 m1 m2 d, w.h = H ∧ Rep G w d1 x m1 ∧ Rep G w d2 y m2 ∧ g d1 d2 = some d ∧ ∀ v md, Rep G w d v md → (∀ b, md b ≤ m1 b) → Q v w.h
theorem part_ok {g : D → D → Option D} {σ : L2.St} {H : Hp} {Q : VK} (h : tB G ro (p2 g f1 f2) σ H Q) : tOp (rPart G g) (tB G ro f1) (tB G ro f2) σ H Q := by
  obtain ⟨R, w, e, m, d, e0, S, hf, k⟩ := h
  unfold p2 at hf
  split at hf
  · rename_i a b ha hb
    refine ⟨R, w, e, m, a, e0, S, ha, fun v1 w1 m1 S1 r1 o1 x1 => ?_⟩
    refine ⟨R, w1, e, m, b, rfl, S1, hb, fun v2 w2 m2 S2 r2 o2 x2 => ?_⟩
    have r1' := Rep.grow x2 S1.world o1 r1
    have o1' := (Own.ext (m := m1) x2 (by rw [Fp.add_zero]; exact o1) (Rep.there _ _ _ r1) Own.zero).left
    exact ⟨w2, a, b, m1, m2, d, rfl, r1', r2, hf, fun v md r l => k v w2 md S2 r (o1'.le l) (x1.trans x2)⟩
  · cases hf
theorem IxR.weak {r r' : R2} (h : IxR X r) (w : ∀ x y H Q, r' x y H Q → r x y H Q) : IxR X r' := fun value slice pins s σ H x y v u Q I rx ry q hs => h value slice pins s σ H x y v u Q I rx ry (w _ _ _ _ q) hs
theorem atI_len {α β : Type} {xs : List α} {ys : List β} (h : xs.length = ys.length) (i : Int) {d : α} (hd : atI xs i = some d) : ∃ j : Nat, xs[j]? = some d ∧ atI ys i = ys[j]? := by
  unfold atI at hd ⊢
  rw [← h]
  cases q : ixN xs.length i with
  | none => rw [q] at hd; cases hd
  | some j => rw [q] at hd; exact ⟨j, hd, rfl⟩
def dIxS : D → D → Option D
  | .lst _ xs, .int i => atI xs i
  | .tup xs, .int i => atI xs i
  | _, _ => none
theorem ix_seqD (F : Fit X G) : IxR X (rPart G dIxS) := IxR.weak (IxR.or ix_list ix_tup) fun x y H Q ⟨w, d1, d2, m1, m2, d, e0, r1, r2, hf, k⟩ => by
  subst e0
  unfold dIxS at hf
  split at hf
  · rename_i f xs i
    have ey := r2.int
    subst ey
    simp only [Rep] at r1
    obtain ⟨p, vs, m', rfl, h1, h2, rfl⟩ := r1
    obtain ⟨j, q1, q2⟩ := atI_len h2.len i hf
    obtain ⟨v, md, q3, q4, q5⟩ := h2.get j d q1
    exact .inl ⟨p, vs, i, v, rfl, rfl, SqL.of h1.1, q2.trans q3, k v md q4 fun b => Nat.le_trans (q5 b) (fl_le b)⟩
  · rename_i xs i
    have ey := r2.int
    subst ey
    simp only [Rep] at r1
    obtain ⟨p, vs, rfl, h1, h2⟩ := r1
    obtain ⟨j, q1, q2⟩ := atI_len h2.len i hf
    obtain ⟨v, md, q3, q4, q5⟩ := h2.get j d q1
    exact .inr ⟨p, vs, i, v, rfl, rfl, by rw [F.K]; exact h1, q2.trans q3, k v md q4 q5⟩
  · cases hf
def dIxD : D → D → Option D
  | .dct _ false ks vs, k => if isKeyD k = true then findD k ks vs else none
  | .dct _ true ks vs, k => if keyT k = true then findD k ks vs else none
  | _, _ => none
theorem dict_get {w : Wd} {pins : List (Addr × Obj)} {σ : L2.St} {s : Shared} (I : Inv X pins σ w.h s) (F : Fit X G) {dk dd d : D} {x y : V} {u v : Value} {m1 m2 : Fp} (h : dIxD dd dk = some d) (rk : Rep G w dk x m1) (rd : Rep G w dd y m2) (rx : RelV x v) (ry : RelV y u) :
    s.TypeIs u "dict" ∧ ∃ z md, Rep G w d z md ∧ (∀ b, md b ≤ m2 b) ∧ ∀ (A : Around) (E : Value → Shared → Prop) (Q : Value → Shared → Prop), A.units + 16 < cLine → (∀ z' s', Inv X pins σ w.h s' → RelV z z' → Q z' s') → wpAny (model X.prog X.w) A (getItem u v) Q E s := by
  cases dd <;> try (simp [dIxD] at h; done)
  rename_i f t ks vs
  cases t with
  | false =>
    simp only [Rep] at rd
    obtain ⟨a, kvs, m', rfl, h1, h2, h3, rfl⟩ := rd
    cases ry
    simp only [dIxD] at h
    split at h
    · rename_i hi
      obtain ⟨k, hk⟩ := isKeyD_key hi
      have g := find_gen (k := dk) keysD_nil (fun _ _ _ => keysD_cons) key_eq hk h2 h3
      obtain ⟨z, md, q1, q2, q3⟩ := g.2.1 d h
      have ex := Rep.key hk rk
      subst ex
      have dg : DGet w.h a (kV k) (some z) := by rw [← q1]; exact DGet.k h1.1
      exact ⟨dict_typeIs I dg, z, md, q2, fun b => Nat.le_trans (q3 b) (fl_le b), fun A E Q hu q => d_getItem (by omega) I dg rx fun w' s' I' r' => q w' s' I' r'⟩
    · cases h
  | true =>
    simp only [Rep] at rd
    obtain ⟨a, ys, m', rfl, h1, h2, h4, h3, rfl⟩ := rd
    cases ry
    simp only [dIxD] at h
    split at h
    · rename_i hi
      obtain ⟨k, c, k1, rfl, k2, _, _⟩ := Rep.isKey I F hi rk rx
      obtain ⟨_, z, _, xs, yx, dh⟩ := rawt_of I F h1 h2 h4
      have g := find_gen (k := dk) (kvs := kvY ys) nkL_nil (fun _ _ _ => nkL_cons) nk_eq k1 (by rw [kvY_fst]; exact h2) (by rw [kvY_snd]; exact h3)
      obtain ⟨zv, md, q1, q2, q3⟩ := g.2.1 d h
      obtain ⟨w', hw, rw'⟩ := RelO.some_of (v := zv) (o := (atKey xs k).map (·.2)) (by rw [← q1]; exact yx_at yx)
      obtain ⟨p, hp, hp2⟩ := Option.map_eq_some_iff.mp hw
      refine ⟨dh.typeIs, zv, md, q2, fun b => Nat.le_trans (q3 b) (fl_le b), fun A E Q hu q => wpAny_getItem_heap (by show A.units + 1 + 8 < cLine; omega) k2 dh hp ?_⟩
      rw [hp2]
      exact q w' _ (I.tok _) rw'
    · cases h
theorem r_ixD (F : Fit X G) (ha : PE X a (tB G ro f1)) (hb : PE X b (tB G ro f2)) (hs : NoSl b) : PE X (.Subscript a b pos) (tOp (rPart G dIxD) (tB G ro f1) (tB G ro f2)) := by
  refine ⟨fun pins s σ H Q I h => ?_⟩
  refine subD_of PySem.F.slot_dict_getitem.lookup hs (thn (ha.run pins s σ H _ I h) fun u s1 ⟨x, H1, I1, rx, q1⟩ => thn (hb.run pins s1 σ H1 _ I1 q1) fun iv s2 ⟨y, H2, I2, ry, q2⟩ => ?_)
  obtain ⟨w, d1, d2, m1, m2, d, e0, r1, r2, hf, k⟩ := q2
  subst e0
  obtain ⟨p1, z, md, p2, p3, p4⟩ := dict_get I2 F hf r2 r1 ry rx
  have hu := F.units
  exact ⟨p1, p4 X.A X.xe _ (by omega) fun z' s' I' rz => ⟨z, w.h, I', rz, k z md p2 p3⟩⟩
theorem dIx_cases {d1 d2 d : D} (h : dIx d1 d2 = some d) : dIxS d1 d2 = some d ∨ dIxD d1 d2 = some d := by
  unfold dIx at h
  split at h
  · exact .inl h
  · exact .inl h
  · exact .inr h
  · exact .inr h
  · cases h
/-- a[b] -/
theorem r_ix (F : Fit X G) (ha : PE X a (tB G ro f1)) (hb : PE X b (tB G ro f2)) (hs : PlainIx b := by intro _ _; rfl) : PE X (.Subscript a b pos) (tB G ro (p2 dIx f1 f2)) := PE.weak (PE.or (pe_ix (ix_seqD F) ha hb hs) (r_ixD F ha hb hs)) fun σ H Q ⟨R, w, e, m, d, e0, S, hf, k⟩ => by
  have hc : p2 dIxS f1 f2 e = some d ∨ p2 dIxD f1 f2 e = some d := by
    unfold p2 at hf ⊢
    split at hf
    · exact dIx_cases hf
    · cases hf
  rcases hc with hc | hc
  · exact .inl (part_ok ⟨R, w, e, m, d, e0, S, hc, k⟩)
  · exact .inr (part_ok ⟨R, w, e, m, d, e0, S, hc, k⟩)

/-! ### attributes -/
/-- a class's own names -/
structure ClsF (K : PySem.W.Frag) (G : Gen) (c : Nat) : Prop where
  cl : Cls K (G.cls c)
  no : ∀ x ∈ G.flds c, NoAttr K (G.cls c) x
  nd : (G.flds c).Nodup
  le : (G.flds c).length < 1000
structure FamF (K : PySem.W.Frag) (G : Gen) : Prop where
  cl : Cls K G.famC
  no : ∀ x ∈ (["points", "lots", "looked"] : List Str), NoAttr K G.famC x
def dFld (c j : Nat) : D → Option D
  | .ins _ c' ds => if (c' == c) = true then ds[j]? else none
  | _ => none
def dPoints : D → Option D
  | .fam n _ => some (.int n)
  | _ => none
def dLots : D → Option D
  | .fam _ ls => some (.tup ls)
  | _ => none
theorem zip_look : ∀ {ns : List Str} {vs : List V} {j : Nat} {x : Str} {v : V}, ns.Nodup → ns[j]? = some x → vs[j]? = some v → (ns.zip vs).lookup x = some v
  | [], vs, j, x, v, hn, h1, h2 => by simp at h1
  | n :: ns, [], j, x, v, hn, h1, h2 => by simp at h2
  | n :: ns, u :: vs, 0, x, v, hn, h1, h2 => by
    simp only [List.getElem?_cons_zero, Option.some.injEq] at h1 h2
    subst h1; subst h2
    simp [List.zip_cons_cons, List.lookup]
  | n :: ns, u :: vs, j + 1, x, v, hn, h1, h2 => by
    simp only [List.getElem?_cons_succ] at h1 h2
    rw [List.nodup_cons] at hn
    have ne : (x == n) = false := by
      have : x ≠ n := fun z => hn.1 (by rw [← z]; exact List.mem_of_getElem? h1)
      simpa using this
    simp only [List.zip_cons_cons, List.lookup, ne]
    exact zip_look hn.2 h1 h2
theorem r_fld {c' : Nat} (cf : ClsF X.K G c') {j : Nat} {x : Str} (ha : PE X a (tB G ro f1)) (hx : (G.flds c')[j]? = some x) (hb : attributeBase a x X.env (eval a X.env) = eval a X.env := by rfl) : PE X (.Attribute a x pos) (tB G ro (p1 (dFld c' j) f1)) := PE.weak (pe_fld ha hb) fun σ H Q ⟨R, w, e, m, d, e0, S, hf, k⟩ => by
  unfold p1 at hf
  split at hf
  · rename_i d0 hd0
    refine ⟨R, w, e, m, d0, e0, S, hd0, fun v w1 mb S1 r1 o1 x1 => ?_⟩
    unfold dFld at hf
    split at hf
    · rename_i f cc ds
      split at hf
      · rename_i hc
        have ec : cc = c' := by simpa using hc
        subst ec
        simp only [Rep] at r1
        obtain ⟨p, dx, vs, m', rfl, h1, h2, h3, rfl⟩ := r1
        obtain ⟨v, md, q1, q2, q3⟩ := h3.get j d hf
        refine ⟨p, _, dx, _, v, rfl, h1.1, cf.cl, cf.no x (List.mem_of_getElem? hx), zip_look cf.nd hx q1, k v w1 md S1 q2 (o1.le fun b => Nat.le_trans (q3 b) (fl_le b)) x1⟩
      · cases hf
    · cases hf
  · cases hf
theorem r_points (cf : FamF X.K G) (ha : PE X a (tB G ro f1)) (hb : attributeBase a "points" X.env (eval a X.env) = eval a X.env := by rfl) : PE X (.Attribute a "points" pos) (tP G ro (p1 dPoints f1)) := PE.weak (pe_fld ha hb) fun σ H Q ⟨R, w, e, m, d, e0, S, hf, k⟩ => by
  unfold p1 at hf
  split at hf
  · rename_i d0 hd0
    refine ⟨R, w, e, m, d0, e0, S, hd0, fun v w1 mb S1 r1 o1 x1 => ?_⟩
    unfold dPoints at hf
    split at hf
    · rename_i n ls
      cases hf
      simp only [Rep] at r1
      obtain ⟨rfl, p, dx, t, vs, y, rfl, h1, h2, h3, h4⟩ := r1
      refine ⟨p, _, dx, _, .int n, rfl, h1.1, cf.cl, cf.no _ (by simp), by simp [List.lookup], k _ w1 Fp.zero S1 Rep.mkInt x1⟩
    · cases hf
  · cases hf
theorem str_ne : (("lots" : Str) == "points") = false := by decide +kernel
theorem str_ne2 : (("looked" : Str) == "points") = false := by decide +kernel
theorem str_ne3 : (("looked" : Str) == "lots") = false := by decide +kernel
theorem r_lots (cf : FamF X.K G) (ha : PE X a (tB G ro f1)) (hb : attributeBase a "lots" X.env (eval a X.env) = eval a X.env := by rfl) : PE X (.Attribute a "lots" pos) (tP G ro (p1 dLots f1)) := PE.weak (pe_fld ha hb) fun σ H Q ⟨R, w, e, m, d, e0, S, hf, k⟩ => by
  unfold p1 at hf
  split at hf
  · rename_i d0 hd0
    refine ⟨R, w, e, m, d0, e0, S, hd0, fun v w1 mb S1 r1 o1 x1 => ?_⟩
    unfold dLots at hf
    split at hf
    · rename_i n ls
      cases hf
      simp only [Rep] at r1
      obtain ⟨rfl, p, dx, t, vs, y, rfl, h1, h2, h3, h4⟩ := r1
      refine ⟨p, _, dx, _, .ref t, rfl, h1.1, cf.cl, cf.no _ (by simp), by simp only [List.lookup, str_ne]; simp, k _ w1 Fp.zero S1 ?_ x1⟩
      simp only [Rep]
      exact ⟨t, vs, rfl, h3, h4⟩
    · cases hf
  · cases hf
/-! ### slices -/
def partOk (i : Int) : Bool := decide (-16000000 ≤ i) && decide (i ≤ 16000000)
def dSl (lo hi : Option Int) : D → Option D
  | .lst _ xs => if immL xs = true then some (.lst true ((xs.drop (HT.sIx xs.length 0 lo)).take (HT.sIx xs.length xs.length hi - HT.sIx xs.length 0 lo))) else none
  | .tup xs => if immL xs = true then some (.tup ((xs.drop (HT.sIx xs.length 0 lo)).take (HT.sIx xs.length xs.length hi - HT.sIx xs.length 0 lo))) else none
  | .scr ns => some (.lst true (((ns.drop (HT.sIx ns.length 0 lo)).take (HT.sIx ns.length ns.length hi - HT.sIx ns.length 0 lo)).map .int))
  | _ => none
/-- an end of a slice -/
def optI : Option Ev → List D → Option (Option Int)
  | none, _ => some none
  | some f, e => match f e with
    | some (.int i) => some (some i)
    | _ => none
def tOI (G : Gen) (ro : Nat → Bool) (f : Option Ev) : TO := fun σ H Q => ∃ R w e m o, w.h = H ∧ SK G ro R w e σ m Fp.zero ∧ optI f e = some o ∧
  ∀ w', SK G ro R w' e σ m Fp.zero → Ext Fp.zero w w' Fp.zero → Q o w'.h
theorem PO.weak {e : Option Expr} {t t' : TO} (h : PO X e t) (w : ∀ σ H Q, t' σ H Q → t σ H Q) : PO X e t' := ⟨fun pins s σ H Q I q => h.run pins s σ H Q I (w σ H Q q)⟩
theorem oi_none : PO X none (tOI G ro none) := PO.weak po_none fun σ H Q ⟨R, w, e, m, o, e0, S, hf, k⟩ => by
  cases hf; subst e0
  exact k w S (Ext.refl _ _)
theorem oi_some (h : PE X a (tP G ro f1)) : PO X (some a) (tOI G ro (some f1)) := PO.weak (po_some h) fun σ H Q ⟨R, w, e, m, o, e0, S, hf, k⟩ => by
  simp only [optI] at hf
  split at hf
  · rename_i i hi
    cases hf
    exact ⟨R, w, e, m, _, e0, S, hi, fun v w' md S' r x => ⟨i, r.int, k w' S'.zero x.dropZ⟩⟩
  · cases hf
theorem SlR.or {r r' : V → Option Int → Option Int → Hp → VK → Prop} (h : L2.SlR X r) (h' : L2.SlR X r') : L2.SlR X (fun x lo hi H Q => r x lo hi H Q ∨ r' x lo hi H Q) := fun pins s σ H x v vl vu lo hi sl Q I rx hs pl pu q =>
  q.elim (h pins s σ H x v vl vu lo hi sl Q I rx hs pl pu) (h' pins s σ H x v vl vu lo hi sl Q I rx hs pl pu)
def pSl (f : Ev) (lo hi : Option Ev) : Ev := fun e => match f e with
  | some d => match optI lo e with
    | some l => match optI hi e with
      | some u => dSl l u d
      | none => none
    | none => none
  | none => none
theorem RepL.cut {w : Wd} {ds : List D} {vs : List V} (h : RepL G w ds vs Fp.zero) (lo hi : Option Int) : RepL G w ((ds.drop (HT.sIx ds.length 0 lo)).take (HT.sIx ds.length ds.length hi - HT.sIx ds.length 0 lo)) (cutV vs lo hi) Fp.zero := by
  unfold cutV
  rw [h.len]
  exact (RepL.drop _ h).take _
theorem scr_seq (F : Fit X G) {w : Wd} {a : Addr} {vs : List V} (h : ScrAt G w a vs) : SqL X.K w.h a vs := by
  rw [F.K]
  rcases h with h | h
  · exact .inl (.inr h)
  · exact .inr h
theorem RepL.ints {w : Wd} : ∀ ns : List Int, RepL G w (ns.map D.int) (ns.map V.int) Fp.zero
  | [] => RepL.nil
  | n :: ns => by
    simp only [List.map_cons, RepL]
    exact ⟨.int n, _, Fp.zero, Fp.zero, rfl, Rep.mkInt, RepL.ints ns, rfl⟩
theorem r_slice {lo hi : Option Expr} {fl fh : Option Ev} {p2 : Pos} (F : Fit X G) (ha : PE X a (tB G ro f1)) (hl : PO X lo (tOI G ro fl)) (hh : PO X hi (tOI G ro fh)) : PE X (.Subscript a (.Slice lo hi none p2) pos) (tP G ro (pSl f1 fl fh)) := PE.weak (PE.bnd (pe_slice (SlR.or sl_list sl_tupA) ha hl hh)) fun σ H Q ⟨R, w, e, m, d, e0, S, hf, k⟩ => by
  unfold pSl at hf
  split at hf
  · rename_i d0 hd0
    split at hf
    · rename_i l hl
      split at hf
      · rename_i u hu
        refine ⟨R, w, e, m, d0, e0, S, hd0, fun v w1 mb S1 r1 o1 x1 => ⟨R, w1, e, m, l, rfl, S1, hl, fun w2 S2 x2 => ⟨R, w2, e, m, u, rfl, S2, hu, fun w3 S3 x3 => ?_⟩⟩⟩
        have o2 := (Own.ext (m := mb) x2 (by rw [Fp.add_zero]; exact o1) (Rep.there _ _ _ r1) Own.zero).left
        have r3 := Rep.grow x3 S2.world o2 (Rep.grow x2 S1.world o1 r1)
        have kd : Done G w3 d Q := fun v w' md W' r o x => k v w' md (S3.step x W' o) r (((x1.trans x2).trans x3).trans x)
        unfold dSl at hf
        split at hf
        · split at hf
          · rename_i f xs hi
            cases hf
            simp only [Rep] at r3
            obtain ⟨p, vs, m', rfl, h1, h2, rfl⟩ := r3
            obtain ⟨h3, rfl⟩ := h2.immM hi
            exact .inl ⟨p, vs, rfl, SqL.of h1.1, fun q hq => Done.lst kd S3.world hq (h3.cut l u)⟩
          · cases hf
        · split at hf
          · rename_i xs hi
            cases hf
            simp only [Rep] at r3
            obtain ⟨p, vs, rfl, h1, h2⟩ := r3
            obtain ⟨h3, rfl⟩ := h2.immM hi
            refine .inr ⟨p, vs, rfl, by rw [F.K]; exact h1, fun z _ => ?_, fun _ q hq => Done.tup kd S3.world hq (h3.cut l u)⟩
            refine Done.flat kd S3.world ?_
            simp only [Rep]
            refine ⟨p, vs, rfl, h1, ?_⟩
            have := h3.cut l u
            unfold cutV at this
            rw [z.1, z.2, Nat.sub_zero, List.drop_zero, List.take_length] at this
            exact this
          · cases hf
        · rename_i ns
          cases hf
          simp only [Rep] at r3
          obtain ⟨rfl, p, rfl, h1⟩ := r3
          refine .inl ⟨p, _, rfl, scr_seq F h1, fun q hq => Done.lst kd S3.world hq ?_⟩
          have := (RepL.ints (G := G) (w := w3) ns).cut l u
          rw [List.length_map, ← List.map_drop, ← List.map_take] at this
          exact this
        · cases hf
      · cases hf
    · cases hf
  · cases hf
end
end TL
end
section
set_option maxRecDepth 100000
/-! The tree layer, part V: places that are written. -/
namespace TL
open PySem PySem.Spec PyProof.Rows L2
section
variable {X : Cx} {G : Gen} {ro fx : Nat → Bool} {w : Wd}
/-- one of a list, and what it takes to put another in its place -/
theorem RepL.focus : ∀ {ds : List D} {vs : List V} {m : Fp}, RepL G w ds vs m → ∀ (j : Nat) d, ds[j]? = some d → ∃ v md m2, vs[j]? = some v ∧ Rep G w d v md ∧ m = Fp.add md m2 ∧
    ∀ w' k k' d' u m', World G w → Ext k w w' k' → Own w (Fp.add m2 k) → Rep G w' d' u m' → RepL G w' (ds.set j d') (vs.set j u) (Fp.add m' m2)
  | [], vs, m, h, j, d, e1 => by simp at e1
  | c :: ds, vs, m, h, 0, d, e1 => by
    simp only [RepL] at h
    obtain ⟨v, vs', m1, m2, rfl, h1, h2, rfl⟩ := h
    simp only [List.getElem?_cons_zero, Option.some.injEq] at e1
    subst e1
    refine ⟨v, m1, m2, rfl, h1, rfl, fun w' k k' d' u m' W x O r => ?_⟩
    simp only [List.set_cons_zero, RepL]
    exact ⟨u, vs', m', m2, rfl, r, RepL.ext x W O.right _ _ _ O.apart O.left h2, rfl⟩
  | c :: ds, vs, m, h, j + 1, d, e1 => by
    simp only [RepL] at h
    obtain ⟨v, vs', m1, m2, rfl, h1, h2, rfl⟩ := h
    obtain ⟨v', md, m3, q1, q2, rfl, q4⟩ := h2.focus j d (by simpa using e1)
    refine ⟨v', md, Fp.add m1 m3, by simpa using q1, q2, by rw [Fp.add_left_comm], fun w' k k' d' u m' W x O r => ?_⟩
    simp only [List.set_cons_succ, RepL]
    refine ⟨v, vs'.set j u, m1, Fp.add m' m3, rfl, Rep.ext x W O.right _ _ _ (O.le fun b => by simp).apart (O.le (m := Fp.add (Fp.add m1 m3) k) (k := Fp.add m1 k) fun b => by simp).left h1, q4 w' k k' d' u m' W x (O.le fun b => by simp) r, by rw [Fp.add_left_comm]⟩
theorem set_same' {α : Type} {l : List α} {i : Nat} {s : α} (h : l[i]? = some s) : l.set i s = l := by
  apply List.ext_getElem?
  intro j
  by_cases q : i = j
  · subst q
    rw [List.getElem?_set_self (List.getElem?_eq_some_iff.mp h).1, h]
  · rw [List.getElem?_set_ne q]
/-- a place: what stands there, and how it is put back -/
structure PlaceOk (G : Gen) (ro : Nat → Bool) (get : List D → Option D) (put : List D → D → List D) (to : TE) : Prop where
  ok : ∀ {R : List RoE} {w : Wd} {e : List D} {σ : L2.St} {m k : Fp} {c : D}, SK G ro R w e σ m k → get e = some c → ∃ vc mc m2, (∀ Q : VK, Q vc w.h → to σ w.h Q) ∧ Rep G w c vc mc ∧ m = Fp.add mc m2 ∧
    ∀ w' k0 kr kres c' m', k = Fp.add k0 kr → Ext (Fp.add mc k0) w w' (Fp.add m' kres) → World G w' → Own w' (Fp.add m' kres) → Rep G w' c' vc m' → (∀ b, kr b ≠ 0 → w.h b ≠ none) → ∃ m'', SK G ro R w' (put e c') σ m'' (Fp.add kr kres) ∧ ∀ b, m'' b ≤ m' b + m2 b
theorem place_slot (i : Nat) (hr : ro i = false) : PlaceOk G ro (fun e => slot e i) (fun e c => e.set i c) (tVar i) := ⟨fun {R w e σ m k c} S hc => by
  obtain ⟨vc, mc, m2, e1, r, rfl, S1⟩ := S.takeS hr hc
  refine ⟨vc, mc, m2, fun Q q => ⟨vc, e1, q⟩, r, rfl, fun w' k0 kr kres c' m' hk x W' O' rc tk => ?_⟩
  subst hk
  rw [← Fp.add_assoc] at S1
  have S2 := S1.step (x.frameR (m := kr)) W' (Own.ext x S1.own.right.comm tk O').comm
  have il : i < (e.set i .undef).length := by rw [List.length_set]; exact (List.getElem?_eq_some_iff.mp (slot_some hc).1).1
  obtain ⟨m'', S3, l⟩ := SK.put (md := m') (k := Fp.add kr kres) (by rw [Fp.add_comm kr, ← Fp.add_assoc]; exact S2) rc hr il
  rw [List.set_set, set_same e1] at S3
  exact ⟨m'', S3, fun b => by have := l b; omega⟩⟩
/-- a field of an instance under a name -/
def getF (c j i : Nat) : List D → Option D := fun e => match slot e i with
  | some (.ins true c' ds) => if (c' == c) = true then ds[j]? else none
  | _ => none
def putFd (c j i : Nat) : List D → D → List D := fun e x => match slot e i with
  | some (.ins true c' ds) => e.set i (.ins true c' (ds.set j x))
  | _ => e
theorem place_fld {i c j : Nat} {x : Str} {K : PySem.W.Frag} (cf : ClsF K G c) (hr : ro i = false) (hx : (G.flds c)[j]? = some x) : PlaceOk G ro (getF c j i) (putFd c j i) (tFld K (tVar i) x) := ⟨fun {R w e σ m k c0} S hc => by
  unfold getF at hc
  split at hc
  · rename_i c' ds hs
    split at hc
    · rename_i hcc
      have ec : c' = c := by simpa using hcc
      subst ec
      obtain ⟨va, ma, m2, e1, r, rfl, S1⟩ := S.takeS hr hs
      simp only [Rep] at r
      obtain ⟨p, dx, vs, m', rfl, h1, h2, h3, rfl⟩ := r
      obtain ⟨vc, mc, m3, q1, q2, rfl, q4⟩ := h3.focus j c0 hc
      refine ⟨vc, mc, Fp.add (Fp.add (Fp.one p) m3) m2, fun Q q => ⟨.ref p, e1, p, _, dx, _, vc, rfl, h1.1, cf.cl, cf.no x (List.mem_of_getElem? hx), zip_look cf.nd hx q1, q⟩, q2, ?_, fun w' k0 kr kres c1 m1 hk xx W' O' rc tk => ?_⟩
      · refine Fp.ext fun b => ?_
        simp [fl]; omega
      · subst hk
        have hp : putFd c' j i e c1 = e.set i (.ins true c' (ds.set j c1)) := by unfold putFd; rw [hs]
        rw [hp]
        have o0 : Own w (Fp.add (Fp.add (Fp.one p) m3) (Fp.add mc k0)) := S1.own.le fun b => by simp [fl]; omega
        have om3 : Own w (Fp.add m3 (Fp.add mc k0)) := o0.le fun b => by simp <;> omega
        have rl := q4 w' _ _ c1 vc m1 S.world xx om3 rc
        rw [set_same' q1] at rl
        have ap : Apart (fl true p m3) (Fp.add mc k0) := o0.apart
        have h1' : At w' true p _ := h1.ext (m := m3) xx S.world o0.right ap o0.left
        have rn : Rep G w' (.ins true c' (ds.set j c1)) (.ref p) (Fp.add (Fp.add (Fp.one p) m3) m1) := by
          simp only [Rep]
          exact ⟨p, dx, vs, Fp.add m1 m3, rfl, h1', h2, rl, by refine Fp.ext fun b => ?_; simp [fl]; omega⟩
        -- the frame behind it
        have t3 : ∀ b, Fp.add (Fp.add (Fp.one p) m3) kr b ≠ 0 → w.h b ≠ none := fun b q => by
          by_cases z : kr b = 0
          · by_cases z2 : b = p
            · subst z2; rw [h1.1]; simp
            · refine RepL.there _ _ _ h3 b fun z3 => q ?_
              simp [z, Fp.one_ne z2]; simp at z3; omega
          · exact tk b z
        have S1' : SK G ro R w (e.set i .undef) σ m2 (Fp.add (Fp.add mc k0) (Fp.add (Fp.add (Fp.one p) m3) kr)) := by
          have e0 : Fp.add (fl true p (Fp.add mc m3)) (Fp.add k0 kr) = Fp.add (Fp.add mc k0) (Fp.add (Fp.add (Fp.one p) m3) kr) := by refine Fp.ext fun b => ?_; simp [fl]; omega
          rw [← e0]; exact S1
        have S2 := S1'.step (xx.frameR (m := Fp.add (Fp.add (Fp.one p) m3) kr)) W' (Own.ext xx S1'.own.right.comm t3 O').comm
        have il : i < (e.set i .undef).length := by rw [List.length_set]; exact (List.getElem?_eq_some_iff.mp (slot_some hs).1).1
        have S2' : SK G ro R w' (e.set i .undef) σ m2 (Fp.add (Fp.add (Fp.add (Fp.one p) m3) m1) (Fp.add kr kres)) := by
          have e0 : Fp.add (Fp.add m1 kres) (Fp.add (Fp.add (Fp.one p) m3) kr) = Fp.add (Fp.add (Fp.add (Fp.one p) m3) m1) (Fp.add kr kres) := by refine Fp.ext fun b => ?_; simp; omega
          rw [← e0]; exact S2
        obtain ⟨m'', S3, l⟩ := SK.put S2' rn hr il
        rw [List.set_set, set_same e1] at S3
        exact ⟨m'', S3, fun b => by have := l b; simp at *; omega⟩
    · cases hc
  · cases hc⟩

/-! ### methods that change a list -/
def isLst : D → Bool
  | .lst _ _ => true
  | _ => false
def dPush : D → D → Option D
  | .lst true xs, d => if lim (xs.length + 1) = true then some (.lst true (xs ++ [d])) else none
  | _, _ => none
def mPush (get : List D → Option D) (put : List D → D → List D) (h : EvM) : EvM := fun e => match get e with
  | some c0 => if isLst c0 = true then match h e with
      | some (d, e1) => match get e1 with
        | some c => match dPush c d with
          | some c' => some (.non, put e1 c')
          | none => none
        | none => none
      | none => none
    else none
  | none => none
theorem dPush_some {c d c' : D} (h : dPush c d = some c') : ∃ xs, c = .lst true xs ∧ lim (xs.length + 1) = true ∧ c' = .lst true (xs ++ [d]) := by
  unfold dPush at h
  split at h
  · split at h
    · rename_i xs hl; cases h; exact ⟨xs, rfl, hl, rfl⟩
    · cases h
  · cases h
/-- xs.append(x), xs a name -/
theorem push_ok {get : List D → Option D} {put : List D → D → List D} {to : TE} {R : List RoE} {e : List D} {σ : L2.St} {m md : Fp} {c c' d : D} {v : V} {w0 : Wd} {m0 : Fp} {Q : VK} (P : PlaceOk G ro get put to) (S : SK G ro R w e σ m md) (rd : Rep G w d v md) (hc : get e = some c) (hp : dPush c d = some c') (x0 : Ext m0 w0 w (Fp.add m md))
    (k : ∀ v w' md m', SK G ro R w' (put e c') σ m' md → Rep G w' .non v md → Ext m0 w0 w' (Fp.add m' md) → Q v w'.h) : ∃ vc, (∀ Q : VK, Q vc w.h → to σ w.h Q) ∧ rAppend vc [v] w.h Q := by
  obtain ⟨vc, mc, m2, h1, r, rfl, kk⟩ := P.ok S hc
  refine ⟨vc, h1, ?_⟩
  obtain ⟨xs, rfl, hl, rfl⟩ := dPush_some hp
  have r0 := r
  simp only [Rep] at r0
  obtain ⟨a, vs, m', rfl, g1, g2, rfl⟩ := r0
  have O1 : Own w (Fp.add (fl true a m') md) := S.own.le fun b => by simp <;> omega
  have hlen : xs.length < sizeLine := by have := lim_size hl; omega
  obtain ⟨vs', hv1, hv2, hv3, W7, rc7, O7, X7⟩ := Rep.pushL S.world r O1 rd hlen
  have ev : vs' = vs := by rw [g1.1] at hv1; cases hv1; rfl
  subst ev
  refine ⟨a, vs', v, rfl, rfl, g1.1, by omega, ?_⟩
  have x7 : Ext (Fp.add (fl true a m') md) w (w.new a (.lst (vs' ++ [v]))) (Fp.add (fl true a m') md) := X7 _ (by rw [Fp.add_at]; omega)
  obtain ⟨m'', S', l⟩ := kk _ md Fp.zero Fp.zero _ _ (by rw [Fp.add_zero]) (by rw [Fp.add_zero]; exact x7) W7 (by rw [Fp.add_zero]; exact O7) rc7 (fun b q => absurd rfl q)
  rw [Fp.add_zero] at S'
  refine k .non _ Fp.zero m'' S' Rep.mkNon ?_
  have y : Ext (Fp.add m2 (Fp.add (fl true a m') md)) w _ (Fp.add m2 (Fp.add (fl true a m') md)) := x7.frame
  refine (x0.trans (y.more (k0 := Fp.add (Fp.add (fl true a m') m2) md) fun b q => by simp at *; omega)).less fun b q => ?_
  have := l b; simp at *; omega
theorem mPush_some {get : List D → Option D} {put : List D → D → List D} {h : EvM} {e e' : List D} {d : D} (hh : mPush get put h e = some (d, e')) : ∃ c0 d1 e1 c c', get e = some c0 ∧ isLst c0 = true ∧ h e = some (d1, e1) ∧ get e1 = some c ∧ dPush c d1 = some c' ∧ d = .non ∧ e' = put e1 c' := by
  unfold mPush at hh
  split at hh
  · rename_i c0 h0
    split at hh
    · rename_i hl
      split at hh
      · rename_i d1 e1 h1
        split at hh
        · rename_i c hc
          split at hh
          · rename_i c' hp
            cases hh
            exact ⟨c0, d1, e1, c, c', h0, hl, h1, hc, hp, rfl, rfl⟩
          · cases hh
        · cases hh
      · cases hh
    · cases hh
  · cases hh
theorem Rep.isL {d : D} {v : V} {m : Fp} (h : isLst d = true) (r : Rep G w d v m) : ∃ a vs, v = .ref a ∧ w.h a = some (.lst vs) := by
  cases d <;> simp [isLst] at h
  simp only [Rep] at r
  obtain ⟨a, vs, m', rfl, h1, _⟩ := r
  exact ⟨a, vs, rfl, h1.1⟩
variable {e : Expr} {apos cpos p : Pos} {x : Str} {h : EvM} {f : Ev}
theorem rM_append (i : Nat) (he : PE X e (tM G ro h)) (hr : ro i = false := by rfl) (hN : X.N[i]? = some x := by rfl) (hv : Vis X.env.scope x := by first | exact Or.inl rfl | exact Or.inr (Or.inl rfl) | exact Or.inr (Or.inr rfl)) (hd : (x == ("__debug__" : Str)) = false := by decide) (hcd : (x == ("__classdict__" : Str)) = false := by decide)
    (hbase : attributeBase (.Name x p) "append" X.env (eval (.Name x p) X.env) = eval (.Name x p) X.env := by rfl)
    (hfew : ((backTo cpos (starEach [e] X.env)).all (fun x => !x.1) && (backToKw cpos (keywordEach [] X.env)).all (fun x => x.1.isSome)
      && decide ([e].length + ([] : List Keyword).length + (if ([] : List Keyword).isEmpty then 0 else 1) < 30)) = true := by rfl)
    (hline : (apos.endLine == cpos.line) = true := by rfl) (hs : starEach [e] X.env = (false, eval e X.env) :: starEach [] X.env := by rfl) (hplain : (backTo cpos (starEach [] X.env)).any (·.1) = false := by rfl) :
    PE X (.Call (.Attribute (.Name x p) "append" apos) [e] [] cpos) (tM G ro (mPush (fun e => slot e i) (fun e c => e.set i c) h)) :=
  PE.weak (pe_bm PySem.F.plainAttrs_list PySem.F.slot_list_append PySem.F.type_list_append mt_append (pe_var (i := i) hN hv hd hcd) (pa_cons he pa_nil hs) hbase hfew hline hs hplain) fun σ H Q ⟨R, w, e, m, d, e', e0, S, hf, k⟩ => by
    subst e0
    obtain ⟨c0, d1, e1, c, c', h0, hl, h1, hc, hp, rfl, rfl⟩ := mPush_some hf
    obtain ⟨v0, mb, q1, r0, _⟩ := S.slot h0
    obtain ⟨a, vs, rfl, h2⟩ := r0.isL hl
    refine ⟨.ref a, q1, .inl ⟨rfl, vs, SqL.of h2⟩, R, w, e, m, d1, e1, rfl, S, h1, fun v w1 md m1 S1 r1 x1 => ?_⟩
    obtain ⟨vc, g1, g2⟩ := push_ok (place_slot i hr) S1 r1 hc hp x1 k
    have ev : vc = .ref a := by
      obtain ⟨u, z1, z2⟩ := g1 (fun v _ => v = vc) rfl
      rw [q1] at z1; cases z1; exact z2.symm
    subst ev
    exact g2
end
end TL
end
section
set_option maxRecDepth 100000
/-! The tree layer, part W: stores into lists and dicts. -/
namespace TL
open PySem PySem.Spec PyProof.Rows L2
section
variable {X : Cx} {G : Gen} {ro fx : Nat → Bool} {w : Wd}
/-! ### o[k] = v by trees -/
def dPut : D → D → D → Option D
  | .lst true xs, .int i, v => match ixN xs.length i with
    | some j => some (.lst true (xs.set j v))
    | none => none
  | .dct true false ks vs, k, v => if isKeyD k = true then (if lim (ks.length + 1) = true then some (.dct true false (putK' k ks) (putV k v ks vs)) else none)
      else if (ks.isEmpty && vs.isEmpty && keyT k) = true then some (.dct true true [k] [v]) else none
  | .dct true true ks vs, k, v => if (keyT k && lim (ks.length + 1)) = true then some (.dct true true (putK' k ks) (putV k v ks vs)) else none
  | _, _, _ => none
def rPut (G : Gen) : TSet := fun o i v H Q => ∃ w d1 m1 d2 d3 m3 d', w.h = H ∧ World G w ∧ Rep G w d1 o m1 ∧ Rep G w d2 i Fp.zero ∧ Rep G w d3 v m3 ∧ Own w (Fp.add m1 m3) ∧ dPut d1 d2 d3 = some d' ∧
  ∀ w' m', World G w' → Rep G w' d' o m' → (∀ b, m' b ≤ m1 b + m3 b) → Own w' m' → Ext (Fp.add m1 m3) w w' m' → Q w'.h
theorem PSet.or {t t' : TSet} (h : PSet X t) (h' : PSet X t') : PSet X (fun o i v H Q => t o i v H Q ∨ t' o i v H Q) := fun pins s σ H o i v ov iv u Q I r1 r2 r3 q => q.elim (h pins s σ H o i v ov iv u Q I r1 r2 r3) (h' pins s σ H o i v ov iv u Q I r1 r2 r3)
theorem PSet.weak {t t' : TSet} (h : PSet X t) (w : ∀ o i v H Q, t' o i v H Q → t o i v H Q) : PSet X t' := fun pins s σ H o i v ov iv u Q I r1 r2 r3 q => h pins s σ H o i v ov iv u Q I r1 r2 r3 (w _ _ _ _ _ q)
/-- an owned object rewritten: what is in it and what comes in stays -/
theorem Rep.rewrite {a : Addr} {o old : HO} {m m3 : Fp} (W : World G w) (h : w.h a = some old) (hf : HO.firm old = true) (O : Own w (Fp.add (fl true a m) m3)) (hl : hoLen o ≤ sizeLine) :
    World G (w.new a o) ∧ (∀ k : Fp, k a ≠ 0 → Ext k w (w.new a o) k) ∧ (∀ {m' : Fp}, Own w m' → Own (w.new a o) m') ∧ (∀ ds vs k, (∀ b, k b ≤ m b + m3 b) → RepL G w ds vs k → RepL G (w.new a o) ds vs k) ∧ ∀ d v k, (∀ b, k b ≤ m b + m3 b) → Rep G w d v k → Rep G (w.new a o) d v k := by
  have oa := (O.left a).2 fl_at
  have x : Ext (Fp.one a) w (w.new a o) (Fp.one a) := Ext.set h hf (by rw [Fp.one_same]; decide)
  have O1 : Own w (Fp.one a) := Own.one oa.1 oa.2
  have ap : ∀ k : Fp, (∀ b, k b ≤ m b + m3 b) → Apart k (Fp.one a) ∧ Own w k := fun k hk => by
    refine ⟨fun b => ?_, O.le fun b => ?_⟩
    · by_cases e : b = a
      · subst e
        have h1 := (O b).1
        have h2 := hk b
        simp [fl, Fp.one_same] at h1
        exact .inl (by omega)
      · exact .inr (Fp.one_ne e)
    · have := hk b; have := fl_le (f := true) (a := a) (m := m) b; simp; omega
  exact ⟨W.set h hf oa.1 oa.2 hl, fun k hk => Ext.set h hf hk, fun O => O.keep, fun ds vs k hk r => RepL.ext x W O1 _ _ _ (ap k hk).1 (ap k hk).2 r, fun d v k hk r => Rep.ext x W O1 _ _ _ (ap k hk).1 (ap k hk).2 r⟩
theorem RepL.setAt : ∀ {ds : List D} {vs : List V} {m : Fp} {j : Nat} {d : D} {v : V} {m3 : Fp}, RepL G w ds vs m → j < ds.length → Rep G w d v m3 → ∃ m', RepL G w (ds.set j d) (vs.set j v) m' ∧ ∀ b, m' b ≤ m b + m3 b
  | [], vs, m, j, d, v, m3, h, hj, r => by simp at hj
  | c :: ds, vs, m, 0, d, v, m3, h, hj, r => by
    simp only [RepL] at h
    obtain ⟨u, vs', m1, m2, rfl, h1, h2, rfl⟩ := h
    refine ⟨Fp.add m3 m2, ?_, fun b => by simp <;> omega⟩
    simp only [List.set_cons_zero, RepL]
    exact ⟨v, vs', m3, m2, rfl, r, h2, rfl⟩
  | c :: ds, vs, m, j + 1, d, v, m3, h, hj, r => by
    simp only [RepL] at h
    obtain ⟨u, vs', m1, m2, rfl, h1, h2, rfl⟩ := h
    obtain ⟨m', r', l⟩ := h2.setAt (j := j) (by simpa using hj) r
    refine ⟨Fp.add m1 m', ?_, fun b => by have := l b; simp <;> omega⟩
    simp only [List.set_cons_succ, RepL]
    exact ⟨u, vs'.set j v, m1, m', rfl, h1, r', rfl⟩
theorem set_listD : PSet X (fun o i v H Q => rPut G o i v H Q ∧ ∃ a xs, o = .ref a ∧ H a = some (.lst xs)) := PSet.weak set_list fun o i v H Q ⟨⟨w, d1, m1, d2, d3, m3, d', e0, W, r1, r2, r3, O, hf, k⟩, a0, xs0, eo, h0⟩ => by
  subst e0
  subst eo
  unfold dPut at hf
  split at hf
  · rename_i xs ii
    split at hf
    · rename_i j hj
      cases hf
      have ei := r2.int
      subst ei
      simp only [Rep] at r1
      obtain ⟨a, vs, m', e1, h1, h2, rfl⟩ := r1
      cases e1
      have hj' : ixN vs.length ii = some j := by rw [← h2.len]; exact hj
      obtain ⟨_, jl, _, _⟩ := ixN_seq hj'
      refine ⟨a0, vs, ii, j, rfl, rfl, h1.1, hj', ?_⟩
      obtain ⟨W', X', OK, RL, RD⟩ := Rep.rewrite (o := .lst (vs.set j v)) W h1.1 rfl O (by show (vs.set j v).length ≤ _; rw [List.length_set]; exact W.len _ _ h1.1)
      obtain ⟨m'', q1, q2⟩ := (RL _ _ m' (fun b => by omega) h2).setAt (j := j) (by rw [h2.len]; exact jl) (RD _ _ m3 (fun b => by omega) r3)
      refine k (w.new a0 (.lst (vs.set j v))) (fl true a0 m'') W' ?_ (fun b => by have := q2 b; simp [fl] <;> omega) (OK (O.le fun b => by have := q2 b; simp [fl] <;> omega)) ((X' _ (by simp [fl, Fp.one_same])).less fun b q => by have := q2 b; simp [fl] at * <;> omega)
      simp only [Rep]
      exact ⟨a0, _, m'', rfl, ⟨upd_same, fun q => nomatch q⟩, q1, rfl⟩
    · cases hf
  · simp only [Rep] at r1
    obtain ⟨a, kvs, m', e1, h1, _⟩ := r1
    cases e1; rw [h1.1] at h0; cases h0
  · simp only [Rep] at r1
    obtain ⟨a, kvs, m', e1, h1, _⟩ := r1
    cases e1; rw [h1.1] at h0; cases h0
  · cases hf
/-! dicts -/
theorem putK_cons {κ : Type} [DecidableEq κ] (k0 k : κ) (v0 v : V) (kvs : List (κ × V)) (hn : ∀ p ∈ kvs, p.1 ≠ k0) : putK ((k0, v0) :: kvs) k v = if k0 = k then (k0, v) :: kvs else (k0, v0) :: putK kvs k v := by
  unfold putK
  by_cases h : k0 = k
  · subst h
    have e : kvs.map (fun kv => if kv.1 = k0 then (kv.1, v) else kv) = kvs := by
      have : ∀ p ∈ kvs, (fun kv : κ × V => if kv.1 = k0 then (kv.1, v) else kv) p = p := fun p hp => if_neg (hn p hp)
      calc kvs.map (fun kv => if kv.1 = k0 then (kv.1, v) else kv) = kvs.map id := List.map_congr_left this
        _ = kvs := List.map_id _
    simp [e]
  · have e1 : decide (k0 = k) = false := decide_eq_false h
    rw [if_neg h, List.any_cons]
    simp only [e1, Bool.false_or]
    by_cases q : (kvs.any fun kv => decide (kv.1 = k)) = true
    · rw [if_pos q, if_pos q, List.map_cons, if_neg h]
    · rw [if_neg q, if_neg q, List.cons_append]
/-- what is stored, by any kind of key -/
theorem put_gen {κ : Type} [DecidableEq κ] {key : D → Option κ} {keys : List D → Option (List κ)} (hnil : ∀ k, keys [] = some k → k = []) (hnil' : keys [] = some []) (hc : ∀ d ds k, keys (d :: ds) = some k → ∃ x xs, key d = some x ∧ keys ds = some xs ∧ k = x :: xs) (hc' : ∀ d ds x xs, key d = some x → keys ds = some xs → keys (d :: ds) = some (x :: xs))
    (he : ∀ a b x y, key a = some x → key b = some y → (eqD a b = true ↔ x = y)) {k d : D} {κk : κ} {v : V} {m3 : Fp} (hk : key k = some κk) (r : Rep G w d v m3) : ∀ {ks vs : List D} {kvs : List (κ × V)} {m : Fp}, (kvs.map (·.1)).Nodup → keys ks = some (kvs.map (·.1)) → RepL G w vs (kvs.map (·.2)) m →
    keys (putK' k ks) = some ((putK kvs κk v).map (·.1)) ∧ ∃ m', RepL G w (putV k d ks vs) ((putK kvs κk v).map (·.2)) m' ∧ ∀ b, m' b ≤ m b + m3 b
  | [], vs, kvs, m, hn, h1, h2 => by
    have e := hnil _ h1
    have e2 : kvs = [] := List.map_eq_nil_iff.mp e
    subst e2
    simp only [List.map_nil, RepL] at h2
    have hv : vs = [] := by
      cases vs with
      | nil => rfl
      | cons u vs => simp [RepL] at h2
    subst hv
    refine ⟨?_, m3, ?_, fun b => by omega⟩
    · show keys (if hasD k [] = true then [] else [] ++ [k]) = _
      rw [if_neg (by simp [hasD])]
      exact hc' k [] κk [] hk hnil'
    · show RepL G w [d] [v] m3
      exact RepL.one r
  | x0 :: ks, vs, kvs, m, hn, h1, h2 => by
    obtain ⟨x, xs, e1, e2, e3⟩ := hc _ _ _ h1
    cases kvs with
    | nil => simp at e3
    | cons p kvs =>
      obtain ⟨p1, p2⟩ := p
      simp only [List.map_cons, List.cons.injEq] at e3
      obtain ⟨rfl, rfl⟩ := e3
      cases vs with
      | nil => simp [RepL] at h2
      | cons u vs =>
        simp only [List.map_cons, RepL] at h2
        obtain ⟨v0, vs', m1, m2, e4, r1, r2, rfl⟩ := h2
        simp only [List.cons.injEq] at e4
        obtain ⟨rfl, rfl⟩ := e4
        simp only [List.map_cons, List.nodup_cons] at hn
        have hne : ∀ p ∈ kvs, p.1 ≠ p1 := fun p hp z => hn.1 (List.mem_map.mpr ⟨p, hp, z⟩)
        have q := he x0 k p1 κk e1 hk
        rw [putK_cons _ _ _ _ _ hne]
        simp only [putV]
        by_cases z : eqD x0 k = true
        · have zz := q.mp z
          rw [if_pos zz, if_pos z]
          refine ⟨?_, Fp.add m3 m2, ?_, fun b => by simp <;> omega⟩
          · unfold putK'
            rw [if_pos (by simp [hasD, z])]
            exact h1
          · simp only [List.map_cons, RepL]
            exact ⟨v, _, m3, m2, rfl, r, r2, rfl⟩
        · rw [if_neg fun n => z (q.mpr n), if_neg z]
          obtain ⟨i1, m', i2, i3⟩ := put_gen hnil hnil' hc hc' he hk r hn.2 e2 r2
          refine ⟨?_, Fp.add m1 m', ?_, fun b => by have := i3 b; simp <;> omega⟩
          · have e5 : putK' k (x0 :: ks) = x0 :: putK' k ks := by
              unfold putK'
              have z' : eqD x0 k = false := by simpa using z
              simp only [hasD, z', Bool.false_or]
              split <;> rfl
            rw [e5, List.map_cons]
            exact hc' _ _ _ _ e1 i1
          · simp only [List.map_cons, RepL]
            exact ⟨p2, _, m1, m', rfl, r1, i2, rfl⟩
theorem keysD_cons' {d : D} {ds : List D} {x : Key} {xs : List Key} (h1 : keyD d = some x) (h2 : keysD ds = some xs) : keysD (d :: ds) = some (x :: xs) := by simp [keysD, h1, h2]
theorem nkL_cons' {d : D} {ds : List D} {x : NestedKey} {xs : List NestedKey} (h1 : nkD d = some x) (h2 : nkL ds = some xs) : nkL (d :: ds) = some (x :: xs) := by simp [nkL, h1, h2]
mutual
theorem nkOk_imm : ∀ (n : Nat) (d : D), nkOk n d = true → imm d = true
  | n, .non, h => rfl
  | n, .bl _, h => rfl
  | n, .int _, h => rfl
  | n, .str _, h => rfl
  | 0, .tup xs, h => by simp [nkOk] at h
  | n + 1, .tup xs, h => by simp only [nkOk] at h; simp only [imm]; exact nkOkL_imm n xs h
  | n, .undef, h => by simp [nkOk] at h
  | n, .lst _ _, h => by simp [nkOk] at h
  | n, .dct _ _ _ _, h => by simp [nkOk] at h
  | n, .ins _ _ _, h => by simp [nkOk] at h
  | n, .fam _ _, h => by simp [nkOk] at h
  | n, .scr _, h => by simp [nkOk] at h
theorem nkOkL_imm : ∀ (n : Nat) (ds : List D), nkOkL n ds = true → immL ds = true
  | n, [], h => rfl
  | n, d :: ds, h => by
    simp only [nkOkL, Bool.and_eq_true] at h
    simp only [immL, nkOk_imm n d h.1, nkOkL_imm n ds h.2, Bool.and_self]
end
theorem set_dK (F : Fit X G) : PSet X (fun o i v H Q => rPut G o i v H Q ∧ ∃ a kvs k, o = .ref a ∧ H a = some (.dK kvs) ∧ i = kV k) := by
  intro pins s σ H o i v ov iv u Q I ro' ri rv ⟨⟨w, d1, m1, d2, d3, m3, d', e0, W, r1, r2, r3, O, hf, k⟩, a0, kvs0, k0, eo, h0, ei⟩
  subst e0
  subst eo
  subst ei
  cases (show ov = Value.ref a0 from ro')
  have hu := F.units
  cases d1 <;> try (simp [dPut] at hf; done)
  · simp only [Rep] at r1
    obtain ⟨a, vs, m', e1, h1, _⟩ := r1
    cases e1; rw [h1.1] at h0; cases h0
  · rename_i f t ks vs
    cases t with
    | true =>
      simp only [Rep] at r1
      obtain ⟨a, ys, m', e1, h1, _⟩ := r1
      cases e1; rw [h1.1] at h0; cases h0
    | false =>
      cases f with
      | false => simp [dPut] at hf
      | true =>
        simp only [Rep] at r1
        obtain ⟨a, kvs, m', e1, h1, h2, h3, rfl⟩ := r1
        cases e1
        have e2 : kvs0 = kvs := by rw [h1.1] at h0; cases h0; rfl
        subst e2
        simp only [dPut] at hf
        have nt : keyT d2 = false := by
          cases d2 <;> first | rfl | (simp only [Rep] at r2; cases k0 <;> (obtain ⟨_, _, q, _⟩ := r2; cases q))
        split at hf
        · rename_i hi
          split at hf
          · rename_i hlim
            cases hf
            obtain ⟨κ, hk⟩ := isKeyD_key hi
            have ex := Rep.key hk r2
            have ek : k0 = κ := by
              cases k0 <;> cases κ <;> simp only [kV, V.int.injEq, V.str.injEq, reduceCtorEq] at ex <;> rw [ex]
            subst ek
            obtain ⟨z, hd, xs, rel, dd⟩ := dk_of I.hok h0
            have hn : (kvs0.map (·.1)).Nodup := by
              obtain ⟨_, _, _, _, _, _, _, _, nd⟩ := dd
              rwa [rel.keys]
            have lk : kvs0.length = ks.length := by
              have : (kvs0.map (·.1)).length = ks.length := by
                have gen : ∀ (ds : List D) (l : List Key), keysD ds = some l → l.length = ds.length := by
                  intro ds
                  induction ds with
                  | nil => intro l hl; cases hl; rfl
                  | cons d ds ih => intro l hl; obtain ⟨x, xs, _, q2, rfl⟩ := keysD_cons hl; simp [ih xs q2]
                exact gen _ _ h2
              rwa [List.length_map] at this
            have hll : kvs0.length < sizeLine := by have := lim_size hlim; omega
            refine d_setItem (by omega) I (DPut.k h0 hll) ri rv fun s' I' => ⟨_, I', ?_⟩
            have hl2 : (putK kvs0 k0 v).length ≤ sizeLine := by have := length_putK kvs0 k0 v; omega
            obtain ⟨W', X', OK, RL, RD⟩ := Rep.rewrite (o := .dK (putK kvs0 k0 v)) W h0 rfl O hl2
            obtain ⟨q1, m'', q2, q3⟩ := put_gen keysD_nil rfl (fun _ _ _ => keysD_cons) (fun _ _ _ _ => keysD_cons') key_eq hk (RD _ _ m3 (fun b => by omega) r3) hn h2 (RL _ _ m' (fun b => by omega) h3)
            refine k (w.new a0 (.dK (putK kvs0 k0 v))) (fl true a0 m'') W' ?_ (fun b => by have := q3 b; simp [fl] <;> omega) (OK (O.le fun b => by have := q3 b; simp [fl] <;> omega)) ((X' _ (by simp [fl, Fp.one_same])).less fun b q => by have := q3 b; simp [fl] at * <;> omega)
            simp only [Rep]
            exact ⟨a0, _, m'', rfl, ⟨upd_same, fun q => nomatch q⟩, q1, q2, rfl⟩
          · cases hf
        · rw [nt, Bool.and_false, if_neg Bool.false_ne_true] at hf
          cases hf
end
end TL
end
section
set_option maxRecDepth 100000
/-! The tree layer, part X: dicts with tuple keys stored; the target o[k]. -/
namespace TL
open PySem PySem.Spec PyProof.Rows L2
section
variable {X : Cx} {G : Gen} {ro fx : Nat → Bool} {w : Wd}
def storedY (ys : YS) (k : NestedKey) (c : Addr) (v : V) : YS := if ((kvY ys).any fun kv => decide (kv.1 = k)) = true then ys.map (fun y => if y.1 = k then (y.1, y.2.1, v) else y) else ys ++ [(k, c, v)]
theorem kvY_stored (ys : YS) (k : NestedKey) (c : Addr) (v : V) : kvY (storedY ys k c v) = putK (kvY ys) k v := by
  unfold storedY putK
  split
  · unfold kvY
    rw [List.map_map, List.map_map]
    refine List.map_congr_left fun y _ => ?_
    simp only [Function.comp_def]
    split <;> rfl
  · simp [kvY]
theorem any_val {κ : Type} [DecidableEq κ] (kvs : List (κ × V)) (k : κ) : (kvs.any fun kv => decide (kv.1 = k)) = (valV kvs k).isSome := by
  induction kvs with
  | nil => rfl
  | cons p kvs ih =>
    obtain ⟨p1, p2⟩ := p
    rw [valV_cons, List.any_cons, ih]
    by_cases h : p1 = k
    · simp [h]
    · simp [h]
theorem yx_stored {ys : YS} {xs : XS} (h : YX ys xs) (k : NestedKey) (c : Addr) {v : V} {u : Value} (r : RelV v u) : YX (storedY ys k c v) (storedH xs k c u) := by
  have e : ((kvY ys).any fun kv => decide (kv.1 = k)) = (atKey xs k).isSome := by
    rw [any_val, (yx_at (k := k) h).isSome_eq, Option.isSome_map]
  unfold storedY storedH
  rw [e]
  split
  · clear e
    rename_i q
    clear q
    induction h with
    | nil => exact .nil
    | cons f t ih =>
      rename_i p q l1 l2
      obtain ⟨p1, p2, p3⟩ := p
      obtain ⟨q1, q2, q3⟩ := q
      obtain ⟨e1, e2, e3⟩ := f
      have e1' : p1 = q1 := e1
      have e2' : p2 = q2 := e2
      subst e1'; subst e2'
      simp only [List.map_cons]
      refine .cons ?_ ih
      unfold putAt
      by_cases z : p1 = k
      · simp only [z, if_true]; exact ⟨trivial, trivial, r⟩
      · simp only [z, if_false]; exact ⟨trivial, trivial, e3⟩
  · exact Paired.snoc h ⟨rfl, rfl, r⟩
theorem yx_keys : ∀ {ys : YS} {xs : XS}, YX ys xs → ys.map (·.1) = xs.map (·.1)
  | _, _, .nil => rfl
  | _, _, .cons f t => by simp only [List.map_cons]; rw [yx_keys t, f.1]
theorem storedY_len (ys : YS) (k : NestedKey) (c : Addr) (v : V) : (storedY ys k c v).length ≤ ys.length + 1 := by
  unfold storedY
  split <;> simp
theorem storedY_depth {ys : YS} {k : NestedKey} {c : Addr} {v : V} (h : ∀ y ∈ ys, y.1.depth ≤ 8) (hk : k.depth ≤ 8) : ∀ y ∈ storedY ys k c v, y.1.depth ≤ 8 := by
  intro y hy
  unfold storedY at hy
  split at hy
  · obtain ⟨z, hz, rfl⟩ := List.mem_map.mp hy
    split
    · exact h z hz
    · exact h z hz
  · rcases List.mem_append.mp hy with q | q
    · exact h y q
    · rw [List.mem_singleton.mp q]; exact hk
theorem storedY_adr (ys : YS) (k : NestedKey) (c : Addr) (v : V) : (storedY ys k c v).map (fun y => V.ref y.2.1) = if ((kvY ys).any fun kv => decide (kv.1 = k)) = true then ys.map (fun y => V.ref y.2.1) else ys.map (fun y => V.ref y.2.1) ++ [.ref c] := by
  unfold storedY
  split
  · rw [List.map_map]
    refine List.map_congr_left fun y _ => ?_
    simp only [Function.comp_def]
    split <;> rfl
  · simp
/-- a tuple key stored, from the library's look of the dict -/
theorem dT_put {pins : List (Addr × Obj)} {σ : L2.St} {s : Shared} {a : Addr} {old : HO} {ks vs : List D} {ys : YS} {xs : XS} {d2 d3 : D} {iv : V} {u r : Value} {v : V} {m' m3 : Fp} {Q : Hp → Prop} (I : Inv X pins σ w.h s) (F : Fit X G) (W : World G w) (h : w.h a = some old) (hf : HO.firm old = true) (mu : Mut (some old)) (O : Own w (Fp.add (fl true a m') m3))
    (hz : (a == sysModules) = false) (hdep : ∀ y ∈ ys, y.1.depth ≤ 8) (yx : YX ys xs) (dh : s.heap.DictOfH (nestedKind X.prog X.w) a xs) (hk : keyT d2 = true) (hl : ys.length < sizeLine) (k1 : nkL ks = some (ys.map (·.1))) (rk : RepL G w ks (ys.map fun y => V.ref y.2.1) Fp.zero) (rv : RepL G w vs (ys.map (·.2.2)) m') (r2 : Rep G w d2 iv Fp.zero) (ri : RelV iv u) (r3 : Rep G w d3 v m3) (rr : RelV v r)
    (k : ∀ w' m'', World G w' → Rep G w' (.dct true true (putK' d2 ks) (putV d2 d3 ks vs)) (.ref a) m'' → (∀ b, m'' b ≤ fl true a m' b + m3 b) → Own w' m'' → Ext (Fp.add (fl true a m') m3) w w' m'' → Q w'.h) : wpAny (model X.prog X.w) X.A (setItem (.ref a) u r) (fun _ s' => ∃ H', Inv X pins σ H' s' ∧ Q H') X.xe s := by
  obtain ⟨κ, c, q1, rfl, q2, rfl, q3⟩ := Rep.isKey I F hk r2 ri
  have hu := F.units
  refine wpAny_setItem_heap (hsz := by rw [← yx_len yx]; omega) (by show X.A.units + 1 + 8 < cLine; omega) q2 dh fun h' dh' hs => ?_
  obtain ⟨o, es, ep, g1, g2, g3, g4, _, g6⟩ := dh'
  have hn : ((kvY ys).map (·.1)).Nodup := by
    obtain ⟨_, _, _, _, _, _, _, _, nd⟩ := id dh
    have e : (kvY ys).map (·.1) = xs.map (·.1) := by rw [kvY_fst]; exact yx_keys yx
    rwa [e]
  obtain ⟨W', X', OK, RL, RD⟩ := Rep.rewrite (o := .ext (RawT G a (storedY ys κ c v))) W h hf O (Nat.zero_le _)
  have kq1 : nkL ks = some ((kvY ys).map (·.1)) := by rw [kvY_fst]; exact k1
  have rv1 : RepL G w vs ((kvY ys).map (·.2)) m' := by rw [kvY_snd]; exact rv
  obtain ⟨p1, m'', p2, p3⟩ := put_gen (kvs := kvY ys) nkL_nil rfl (fun _ _ _ => nkL_cons) (fun _ _ _ _ => nkL_cons') nk_eq q1 (RD _ _ m3 (fun b => by omega) r3) hn kq1 (RL _ _ m' (fun b => by omega) rv1)
  rw [← kvY_stored ys κ c v, kvY_fst] at p1
  rw [← kvY_stored ys κ c v, kvY_snd] at p2
  have raw : RawT G a (storedY ys κ c v) h' := by
    have hl2 := storedY_len ys κ c v
    have g4' : es.toList = (storedH xs κ c r).map (entryOfKey (nestedKind G.P G.W)) := by rw [← F.P, ← F.W]; exact g4
    exact ⟨by omega, hz, storedY_depth hdep q3, _, yx_stored yx κ c rr, o, es, ep, g1, g2, g3, g4', g6⟩
  refine ⟨(w.new a (.ext (RawT G a (storedY ys κ c v)))).h, d_write I (by rw [h]; exact mu) hs ⟨o, g1⟩ ⟨raw, ⟨o, g1⟩, fun h1 h2 st kp => ?_⟩, ?_⟩
  · obtain ⟨z1, z2, z3, xs', z4, o', es', ep', z5, z6⟩ := st
    exact ⟨z1, z2, z3, xs', z4, o', es', ep', kp _ z5, z6⟩
  · refine k _ (fl true a m'') W' ?_ (fun b => by have := p3 b; simp [fl] <;> omega) (OK (O.le fun b => by have := p3 b; simp [fl] <;> omega)) ((X' _ (by simp [fl, Fp.one_same])).less fun b q => by have := p3 b; simp [fl] at * <;> omega)
    simp only [Rep]
    refine ⟨a, _, m'', rfl, ⟨upd_same, fun q => nomatch q⟩, p1, ?_, p2, rfl⟩
    rw [storedY_adr]
    have g := find_gen (k := d2) (kvs := kvY ys) nkL_nil (fun _ _ _ => nkL_cons) nk_eq q1 kq1 rv1
    rw [any_val, ← g.1]
    unfold putK'
    by_cases z : hasD d2 ks = true
    · rw [if_pos z, if_pos z]
      exact RL _ _ Fp.zero (fun b => Nat.zero_le _) rk
    · rw [if_neg z, if_neg z]
      have := RepL.app (RL _ _ Fp.zero (fun b => Nat.zero_le _) rk) (RepL.one (RD _ _ Fp.zero (fun b => Nat.zero_le _) r2))
      rwa [Fp.zero_add] at this
theorem nkL_len : ∀ {ds : List D} {l : List NestedKey}, nkL ds = some l → l.length = ds.length
  | [], l, h => by cases h; rfl
  | d :: ds, l, h => by obtain ⟨x, xs, _, q2, rfl⟩ := nkL_cons h; simp [nkL_len q2]
theorem set_dT (F : Fit X G) : PSet X (fun o i v H Q => rPut G o i v H Q ∧ ∃ c, i = .ref c) := by
  intro pins s σ H o i v ov iv u Q I ro' ri rv ⟨⟨w, d1, m1, d2, d3, m3, d', e0, W, r1, r2, r3, O, hf, k⟩, c, ei⟩
  subst e0
  subst ei
  cases d1 <;> try (simp [dPut] at hf; done)
  · rename_i f xs
    cases f with
    | false => simp [dPut] at hf
    | true =>
      cases d2 <;> try (simp [dPut] at hf; done)
      simp only [Rep] at r2; obtain ⟨q, _⟩ := r2; cases q
  · rename_i f t ks vs
    cases f with
    | false => cases t <;> simp [dPut] at hf
    | true =>
      cases t with
      | true =>
        simp only [dPut] at hf
        split at hf
        · rename_i hq
          cases hf
          rw [Bool.and_eq_true] at hq
          simp only [Rep] at r1
          obtain ⟨a, ys, m', rfl, h1, h2, h4, h3, rfl⟩ := r1
          cases (show ov = Value.ref a from ro')
          obtain ⟨hl, z, hdep, xs, yx, dh⟩ := rawt_of I F h1 h2 h4
          have hlen : ys.length < sizeLine := by
            have e := nkL_len h2
            rw [List.length_map] at e
            have := lim_size hq.2
            omega
          exact dT_put I F W h1.1 rfl trivial O z hdep yx dh hq.1 hlen h2 h4 h3 r2 ri r3 rv k
        · cases hf
      | false =>
        simp only [dPut] at hf
        have ni : isKeyD d2 = false := by
          cases d2 <;> first | rfl | (simp only [Rep] at r2; obtain ⟨q, _⟩ := r2; cases q)
        rw [ni, if_neg Bool.false_ne_true] at hf
        split at hf
        · rename_i hq
          cases hf
          simp only [Bool.and_eq_true] at hq
          have e1 : ks = [] := by simpa using hq.1.1
          have e2 : vs = [] := by simpa using hq.1.2
          subst e1; subst e2
          simp only [Rep] at r1
          obtain ⟨a, kvs, m', rfl, h1, h2, h3, rfl⟩ := r1
          cases (show ov = Value.ref a from ro')
          have e3 : kvs = [] := List.map_eq_nil_iff.mp (keysD_nil _ h2)
          subst e3
          obtain ⟨z, dh⟩ := dk_empty_h I h1.1
          have e4 : m' = Fp.zero := by simp only [List.map_nil, RepL] at h3; exact h3.2
          subst e4
          have kk := dT_put (ks := []) (vs := []) (ys := []) (xs := []) (Q := Q) I F W h1.1 rfl trivial O z (fun y hy => by simp at hy) .nil dh hq.2 (by decide) rfl RepL.nil RepL.nil r2 ri r3 rv
          exact kk k
        · cases hf
theorem o_put (F : Fit X G) : PSet X (rPut G) := PSet.weak (PSet.or (set_listD (G := G)) (PSet.or (set_dK F) (set_dT F))) fun o i v H Q q => by
  obtain ⟨w, d1, m1, d2, d3, m3, d', e0, W, r1, r2, r3, O, hf, k⟩ := q
  have q : rPut G o i v H Q := ⟨w, d1, m1, d2, d3, m3, d', e0, W, r1, r2, r3, O, hf, k⟩
  subst e0
  cases d1 <;> try (simp [dPut] at hf; done)
  · simp only [Rep] at r1
    obtain ⟨a, vs, m', rfl, h1, _⟩ := r1
    exact .inl ⟨q, a, vs, rfl, h1.1⟩
  · rename_i f t ks vs
    cases t with
    | true =>
      cases f with
      | false => simp [dPut] at hf
      | true =>
        simp only [dPut] at hf
        split at hf
        · rename_i hq
          rw [Bool.and_eq_true] at hq
          have hq1 := hq.1
          unfold keyT at hq1
          rw [Bool.and_eq_true] at hq1
          cases d2 <;> simp [isTupD] at hq1
          simp only [Rep] at r2
          obtain ⟨c, _, rfl, _⟩ := r2
          exact .inr (.inr ⟨q, c, rfl⟩)
        · cases hf
    | false =>
      cases f with
      | false => simp [dPut] at hf
      | true =>
        simp only [dPut] at hf
        simp only [Rep] at r1
        obtain ⟨a, kvs, m', rfl, h1, _⟩ := r1
        split at hf
        · rename_i hi
          obtain ⟨κ, hk⟩ := isKeyD_key hi
          exact .inr (.inl ⟨q, a, kvs, κ, rfl, h1.1, Rep.key hk r2⟩)
        · split at hf
          · rename_i hq
            simp only [Bool.and_eq_true] at hq
            have hq1 := hq.2
            unfold keyT at hq1
            rw [Bool.and_eq_true] at hq1
            cases d2 <;> simp [isTupD] at hq1
            simp only [Rep] at r2
            obtain ⟨c, _, rfl, _⟩ := r2
            exact .inr (.inr ⟨q, c, rfl⟩)
          · cases hf
end
end TL
end
section
set_option maxRecDepth 100000
/-! The tree layer, part Y: dict(pairs); {}; targets o[k], o.f. -/
namespace TL
open PySem PySem.Spec PyProof.Rows L2
section
variable {X : Cx} {G : Gen} {ro fx : Nat → Bool} {w : Wd}
theorem nodup_putK {κ : Type} [DecidableEq κ] {kvs : List (κ × V)} (k : κ) (v : V) (h : (kvs.map (·.1)).Nodup) : ((putK kvs k v).map (·.1)).Nodup := by
  unfold putK
  split
  · have e : (kvs.map fun kv => if kv.1 = k then (kv.1, v) else kv).map (·.1) = kvs.map (·.1) := by
      rw [List.map_map]
      refine List.map_congr_left fun p _ => ?_
      simp only [Function.comp_def]
      split <;> rfl
    rw [e]; exact h
  · rename_i q
    rw [List.map_append, List.nodup_append]
    refine ⟨h, by simp, fun a ha b hb e => q ?_⟩
    obtain ⟨p, hp, rfl⟩ := List.mem_map.mp ha
    simp only [List.map_cons, List.map_nil, List.mem_singleton] at hb
    exact List.any_eq_true.mpr ⟨p, hp, by rw [e, hb]; simp⟩
def foldP : List D → List D → List D → Option (List D × List D)
  | [], ks, vs => some (ks, vs)
  | .tup [k, v] :: ps, ks, vs => foldP ps (putK' k ks) (putV k v ks vs)
  | _, _, _ => none
def allKey (p : D → Bool) : List D → Bool
  | [] => true
  | .tup [k, _] :: ps => p k && allKey p ps
  | _ => false
def dDict : D → Option D
  | .lst _ ps => if (immL ps && lim ps.length) = true then
      if allKey isKeyD ps = true then match foldP ps [] [] with
        | some (ks, vs) => some (.dct true false ks vs)
        | none => none
      else if allKey keyT ps = true then match foldP ps [] [] with
        | some (ks, vs) => some (.dct true true ks vs)
        | none => none
      else none
    else none
  | _ => none
/-- the pairs of a list, as they stand -/
structure PairR (G : Gen) (w : Wd) {κ : Type} (key : D → Option κ) (p : D) (T : Addr) (kv : κ × V × V) : Prop where
  ex : ∃ k d, p = .tup [k, d] ∧ key k = some kv.1 ∧ SqT G.K w.h T [kv.2.1, kv.2.2] ∧ Rep G w k kv.2.1 Fp.zero ∧ Rep G w d kv.2.2 Fp.zero
theorem pairs_ex {κ : Type} {key : D → Option κ} {p : D → Bool} (hp : ∀ d, p d = true → ∃ k, key d = some k) : ∀ {ps : List D} {vs : List V}, allKey p ps = true → RepL G w ps vs Fp.zero →
    ∃ (Ts : List Addr) (kvs : List (κ × V × V)), vs = Ts.map V.ref ∧ Paired (fun (T : Addr) (kv : κ × V × V) => ∃ d, PairR G w key d T kv) Ts kvs ∧ Paired (fun (d : D) (kv : κ × V × V) => ∃ k u, d = .tup [k, u] ∧ key k = some kv.1 ∧ p k = true ∧ Rep G w k kv.2.1 Fp.zero ∧ Rep G w u kv.2.2 Fp.zero) ps kvs
  | [], vs, h, r => by
    simp only [RepL] at r
    obtain ⟨rfl, _⟩ := r
    exact ⟨[], [], rfl, .nil, .nil⟩
  | q :: ps, vs, h, r => by
    simp only [RepL] at r
    obtain ⟨v, vs', m1, m2, rfl, r1, r2, e⟩ := r
    obtain ⟨rfl, rfl⟩ := Fp.eq_zero_of_add e.symm
    unfold allKey at h
    split at h
    · rename_i h0; cases h0
    · rename_i k d ps' h0
      cases h0
      rw [Bool.and_eq_true] at h
      obtain ⟨κk, hk⟩ := hp k h.1
      obtain ⟨Ts, kvs, rfl, h2, h3⟩ := pairs_ex hp h.2 r2
      simp only [Rep, RepL] at r1
      obtain ⟨T, us, rfl, g1, v1, us1, n1, n2, rfl, g2, ⟨v2, us2, n3, n4, rfl, g3, ⟨rfl, rfl⟩, rfl⟩, e3⟩ := r1
      obtain ⟨rfl, e4⟩ := Fp.eq_zero_of_add e3.symm
      obtain ⟨rfl, _⟩ := Fp.eq_zero_of_add e4
      exact ⟨T :: Ts, (κk, v1, v2) :: kvs, rfl, .cons ⟨_, ⟨k, d, rfl, hk, g1, g2, g3⟩⟩ h2, .cons ⟨k, d, rfl, hk, h.1, g2, g3⟩ h3⟩
    · cases h
/-- what is folded -/
theorem fold_gen {κ : Type} [DecidableEq κ] {key : D → Option κ} {keys : List D → Option (List κ)} (hnil : ∀ k, keys [] = some k → k = []) (hnil' : keys [] = some []) (hc : ∀ d ds k, keys (d :: ds) = some k → ∃ x xs, key d = some x ∧ keys ds = some xs ∧ k = x :: xs) (hc' : ∀ d ds x xs, key d = some x → keys ds = some xs → keys (d :: ds) = some (x :: xs))
    (he : ∀ a b x y, key a = some x → key b = some y → (eqD a b = true ↔ x = y)) {p : D → Bool} : ∀ {ps : List D} {kvs : List (κ × V × V)} {ks vs ks' vs' : List D} {acc : List (κ × V)}, Paired (fun (d : D) (kv : κ × V × V) => ∃ k u, d = .tup [k, u] ∧ key k = some kv.1 ∧ p k = true ∧ Rep G w k kv.2.1 Fp.zero ∧ Rep G w u kv.2.2 Fp.zero) ps kvs →
    (acc.map (·.1)).Nodup → keys ks = some (acc.map (·.1)) → RepL G w vs (acc.map (·.2)) Fp.zero → foldP ps ks vs = some (ks', vs') →
    keys ks' = some ((kvs.foldl (fun a kv => putK a kv.1 kv.2.2) acc).map (·.1)) ∧ RepL G w vs' ((kvs.foldl (fun a kv => putK a kv.1 kv.2.2) acc).map (·.2)) Fp.zero
  | _, _, ks, vs, ks', vs', acc, .nil, hn, h1, h2, hf => by
    simp only [foldP, Option.some.injEq, Prod.mk.injEq] at hf
    obtain ⟨rfl, rfl⟩ := hf
    exact ⟨h1, h2⟩
  | _, _, ks, vs, ks', vs', acc, .cons (b := kv) ⟨k, u, e1, e2, _, e3, e4⟩ t, hn, h1, h2, hf => by
    subst e1
    simp only [foldP] at hf
    obtain ⟨q1, m', q2, q3⟩ := put_gen hnil hnil' hc hc' he e2 e4 hn h1 h2
    have z : m' = Fp.zero := Fp.ext fun b => by have := q3 b; simp at this ⊢; omega
    subst z
    exact fold_gen (acc := putK acc kv.1 kv.2.2) hnil hnil' hc hc' he t (nodup_putK kv.1 kv.2.2 hn) q1 q2 hf
theorem paired_mapL {α β γ : Type} {F : α → β → Prop} {g : β → γ} {H : α → γ → Prop} (h : ∀ a b, F a b → H a (g b)) : ∀ {l1 : List α} {l2 : List β}, Paired F l1 l2 → Paired H l1 (l2.map g)
  | _, _, .nil => .nil
  | _, _, .cons f t => .cons (h _ _ f) (paired_mapL h t)
theorem foldl_map' {α β γ : Type} (g : α → β) (f : γ → β → γ) : ∀ (l : List α) (a : γ), (l.map g).foldl f a = l.foldl (fun a x => f a (g x)) a
  | [], a => rfl
  | x :: l, a => foldl_map' g f l (f a (g x))
theorem c_dictK (F : Fit X G) : CallR X (.type "dict") (fun vs H Q => ∃ w f ps v m ks vs', w.h = H ∧ World G w ∧ vs = [v] ∧ Rep G w (.lst f ps) v m ∧ immL ps = true ∧ lim ps.length = true ∧ allKey isKeyD ps = true ∧ foldP ps [] [] = some (ks, vs') ∧ Done G w (.dct true false ks vs') Q) := by
  refine CallR.weak (CallR.bnd (call_dictP F.calm)) fun vs H Q ⟨w, f, ps, v, m, ks, vs', e0, W, e1, r, hi, hl, ha, hf, k⟩ => ?_
  subst e0; subst e1
  simp only [Rep] at r
  obtain ⟨a, us, m', rfl, h1, h2, rfl⟩ := r
  obtain ⟨h3, _⟩ := h2.immM hi
  obtain ⟨Ts, kvs, rfl, p1, p2⟩ := pairs_ex (key := keyD) (fun d => isKeyD_key) ha h3
  refine ⟨a, Ts, kvs.map fun kv => (kv.1, kv.2.2), rfl, SqL.of h1.1, paired_mapL (fun T kv h => ?_) p1, fun p hp bd => ?_⟩
  · obtain ⟨d, ⟨⟨k, u, _, q2, q3, q4, _⟩⟩⟩ := h
    have ek := Rep.key q2 q4
    rw [F.K]
    show SqT G.K w.h T [kV kv.1, kv.2.2]
    rw [← ek]; exact q3
  · have e : mergeK [] (kvs.map fun kv => (kv.1, kv.2.2)) = kvs.foldl (fun a kv => putK a kv.1 kv.2.2) [] := foldl_map' _ _ _ _
    rw [e] at bd ⊢
    obtain ⟨q1, q2⟩ := fold_gen (acc := []) keysD_nil rfl (fun _ _ _ => keysD_cons) (fun _ _ _ _ => keysD_cons') key_eq p2 List.nodup_nil rfl RepL.nil hf
    have x : Ext Fp.zero w (w.new p (.dK (kvs.foldl (fun a kv => putK a kv.1 kv.2.2) []))) (Fp.one p) := Ext.new hp fun b q => Classical.byContradiction fun n => q (Fp.one_ne n)
    refine k (.ref p) (w.new p _) (Fp.one p) (W.new hp (bd p _ upd_same)) ?_ (Own.new W hp) x
    simp only [Rep]
    exact ⟨p, _, Fp.zero, rfl, ⟨upd_same, fun q => nomatch q⟩, q1, RepL.ext x.dropZ W Own.zero _ _ _ Apart.zero Own.zero q2, by simp [fl]⟩
/-! tuple keys -/
def adr : V → Addr
  | .ref a => a
  | _ => 0
def ysOf (kvs : List (NestedKey × V × V)) : YS := kvs.map fun kv => (kv.1, adr kv.2.1, kv.2.2)
theorem storedY_keys {ks : List D} {ys : YS} {d2 : D} {κ : NestedKey} {c : Addr} {v : V} (q1 : nkD d2 = some κ) (k1 : nkL ks = some (ys.map (·.1))) (rk : RepL G w ks (ys.map fun y => V.ref y.2.1) Fp.zero) (r2 : Rep G w d2 (.ref c) Fp.zero) :
    RepL G w (putK' d2 ks) ((storedY ys κ c v).map fun y => V.ref y.2.1) Fp.zero := by
  rw [storedY_adr]
  have hh : hasD d2 ks = (valV (kvY ys) κ).isSome := by
    have gen : ∀ (ks : List D) (ys : YS), nkL ks = some (ys.map (·.1)) → hasD d2 ks = (valV (kvY ys) κ).isSome := by
      intro ks
      induction ks with
      | nil =>
        intro ys h
        have e : ys = [] := List.map_eq_nil_iff.mp (nkL_nil _ h)
        subst e; rfl
      | cons d ds ih =>
        intro ys h
        obtain ⟨x, xs, e1, e2, e3⟩ := nkL_cons h
        cases ys with
        | nil => simp at e3
        | cons y ys =>
          obtain ⟨y1, y2, y3⟩ := y
          simp only [List.map_cons, List.cons.injEq] at e3
          obtain ⟨rfl, rfl⟩ := e3
          show (eqD d d2 || hasD d2 ds) = (valV ((y1, y3) :: kvY ys) κ).isSome
          rw [valV_cons, ih ys e2]
          have q := nk_eq d d2 y1 κ e1 q1
          by_cases z : eqD d d2 = true
          · rw [if_pos (q.mp z), z]; rfl
          · rw [if_neg fun n => z (q.mpr n)]
            have z' : eqD d d2 = false := by simpa using z
            rw [z', Bool.false_or]
    exact gen ks ys k1
  rw [any_val, ← hh]
  unfold putK'
  by_cases z : hasD d2 ks = true
  · rw [if_pos z, if_pos z]; exact rk
  · rw [if_neg z, if_neg z]
    have := RepL.app rk (RepL.one r2)
    rwa [Fp.zero_add] at this
abbrev foldY (acc ys : YS) : YS := ys.foldl (fun a y => storedY a y.1 y.2.1 y.2.2) acc
theorem foldT {p : D → Bool} (hpt : ∀ d, p d = true → isTupD d = true) : ∀ {ps : List D} {kvs : List (NestedKey × V × V)} {ks vs ks' vs' : List D} {acc : YS}, Paired (fun (d : D) (kv : NestedKey × V × V) => ∃ k u, d = .tup [k, u] ∧ nkD k = some kv.1 ∧ p k = true ∧ Rep G w k kv.2.1 Fp.zero ∧ Rep G w u kv.2.2 Fp.zero) ps kvs →
    ((kvY acc).map (·.1)).Nodup → nkL ks = some (acc.map (·.1)) → RepL G w ks (acc.map fun y => V.ref y.2.1) Fp.zero → RepL G w vs (acc.map (·.2.2)) Fp.zero → foldP ps ks vs = some (ks', vs') →
    nkL ks' = some ((foldY acc (ysOf kvs)).map (·.1)) ∧ RepL G w ks' ((foldY acc (ysOf kvs)).map fun y => V.ref y.2.1) Fp.zero ∧ RepL G w vs' ((foldY acc (ysOf kvs)).map (·.2.2)) Fp.zero
  | _, _, ks, vs, ks', vs', acc, .nil, hn, h1, hk, h2, hf => by
    simp only [foldP, Option.some.injEq, Prod.mk.injEq] at hf
    obtain ⟨rfl, rfl⟩ := hf
    exact ⟨h1, hk, h2⟩
  | _, _, ks, vs, ks', vs', acc, .cons (b := kv) ⟨k, u, e1, e2, e0, e3, e4⟩ t, hn, h1, hk, h2, hf => by
    subst e1
    simp only [foldP] at hf
    obtain ⟨q1, m', q2, q3⟩ := put_gen (kvs := kvY acc) nkL_nil rfl (fun _ _ _ => nkL_cons) (fun _ _ _ _ => nkL_cons') nk_eq e2 e4 hn (by rw [kvY_fst]; exact h1) (by rw [kvY_snd]; exact h2)
    have z : m' = Fp.zero := Fp.ext fun b => by have := q3 b; simp at this ⊢; omega
    subst z
    have ht := hpt k e0
    have e5 : kv.2.1 = .ref (adr kv.2.1) := by
      cases k <;> simp [isTupD] at ht
      simp only [Rep] at e3
      obtain ⟨a, _, ea, _⟩ := e3
      rw [ea]; rfl
    rw [e5] at e3
    have nd := nodup_putK kv.1 kv.2.2 hn
    rw [← kvY_stored acc kv.1 (adr kv.2.1) kv.2.2] at q1 q2 nd
    rw [kvY_fst] at q1
    rw [kvY_snd] at q2
    exact foldT (acc := storedY acc kv.1 (adr kv.2.1) kv.2.2) hpt t nd q1 (storedY_keys e2 h1 hk e3) q2 hf
theorem foldY_ok : ∀ {ys : YS} {xs : XS} {acc : YS} {ax : XS}, YX ys xs → YX acc ax → YX (foldY acc ys) (storedAllH ax xs)
  | _, _, acc, ax, .nil, h => h
  | _, _, acc, ax, .cons (a := y) (b := x) ⟨e1, e2, e3⟩ t, h => by
    show YX (foldY (storedY acc y.1 y.2.1 y.2.2) _) (storedAllH (storedH ax x.1 x.2.1 x.2.2) _)
    rw [← e1, ← e2]
    exact foldY_ok t (yx_stored h y.1 y.2.1 e3)
theorem foldY_depth : ∀ {ys acc : YS}, (∀ y ∈ acc, y.1.depth ≤ 8) → (∀ y ∈ ys, y.1.depth ≤ 8) → ∀ y ∈ foldY acc ys, y.1.depth ≤ 8
  | [], acc, h, h', y, hy => h y hy
  | z :: ys, acc, h, h', y, hy => foldY_depth (storedY_depth h (h' z List.mem_cons_self)) (fun y hy => h' y (List.mem_cons_of_mem _ hy)) y hy
theorem foldY_len : ∀ (ys acc : YS), (foldY acc ys).length ≤ acc.length + ys.length
  | [], acc => by simp
  | z :: ys, acc => by
    have h1 := foldY_len ys (storedY acc z.1 z.2.1 z.2.2)
    have h2 := storedY_len acc z.1 z.2.1 z.2.2
    simp only [List.foldl_cons, List.length_cons]
    show (foldY (storedY acc z.1 z.2.1 z.2.2) ys).length ≤ _
    omega
theorem keyT_tup (d : D) (h : keyT d = true) : isTupD d = true := by
  unfold keyT at h
  rw [Bool.and_eq_true] at h
  exact h.1
/-- the pairs in the heap -/
theorem prs_ex {pins : List (Addr × Obj)} {σ : L2.St} {s : Shared} (I : Inv X pins σ w.h s) (F : Fit X G) : ∀ {ps : List D} {Ts : List Addr} {kvs : List (NestedKey × V × V)}, Paired (fun (T : Addr) (kv : NestedKey × V × V) => ∃ d, PairR G w nkD d T kv) Ts kvs →
    Paired (fun (d : D) (kv : NestedKey × V × V) => ∃ k u, d = .tup [k, u] ∧ nkD k = some kv.1 ∧ keyT k = true ∧ Rep G w k kv.2.1 Fp.zero ∧ Rep G w u kv.2.2 Fp.zero) ps kvs →
    ∃ prs : XS, YX (ysOf kvs) prs ∧ prs.length = Ts.length ∧ (∀ q ∈ prs, (nestedKind X.prog X.w).is s.heap q.1 q.2.1) ∧ ∀ (j : Nat) q, prs[j]? = some q → ∃ T, Ts[j]? = some T ∧ s.heap.IsTuple T #[.ref q.2.1, q.2.2]
  | ps, _, _, .nil, h2 => ⟨[], .nil, rfl, fun q hq => by simp at hq, fun j q h => by simp at h⟩
  | _, _, _, .cons (a := T) (b := kv) ⟨d, ⟨⟨k0, u0, _, _, q3, _, _⟩⟩⟩ t, .cons ⟨k, u, _, e2, e0, e3, e4⟩ t2 => by
    obtain ⟨prs, h1, h2, h3, h4⟩ := prs_ex I F t t2
    obtain ⟨its, rv, ht, _⟩ := I.tuple (by rw [F.K]; exact q3)
    obtain ⟨x, y, rfl, rx, ry⟩ := vals2 rv
    obtain ⟨κ, c, g1, rfl, g2, g3, _⟩ := Rep.isKey I F e0 e3 rx
    have ek : κ = kv.1 := by rw [g1] at e2; cases e2; rfl
    have ea : adr kv.2.1 = c := by rw [g3]; rfl
    refine ⟨(kv.1, c, y) :: prs, .cons ⟨rfl, ea, ry⟩ h1, by simp [h2], fun q hq => ?_, fun j q h => ?_⟩
    · rcases List.mem_cons.mp hq with e | hq
      · subst e; rw [← ek]; exact g2
      · exact h3 q hq
    · cases j with
      | zero =>
        simp only [List.getElem?_cons_zero, Option.some.injEq] at h
        subst h
        exact ⟨T, rfl, ht⟩
      | succ j =>
        obtain ⟨T', q1, q2⟩ := h4 j q (by simpa using h)
        exact ⟨T', by simpa using q1, q2⟩
theorem c_dictT (F : Fit X G) : CallR X (.type "dict") (fun vs H Q => ∃ w f ps v m ks vs', w.h = H ∧ World G w ∧ vs = [v] ∧ Rep G w (.lst f ps) v m ∧ immL ps = true ∧ lim ps.length = true ∧ allKey keyT ps = true ∧ foldP ps [] [] = some (ks, vs') ∧ Done G w (.dct true true ks vs') Q) := by
  intro pins s σ H xs us Q I rx ⟨w, f, ps, v, m, ks, vs', e0, W, e1, r, hi, hl, ha, hf, k⟩
  subst e0; subst e1
  simp only [Rep] at r
  obtain ⟨a, us1, m', rfl, h1, h2, rfl⟩ := r
  obtain ⟨h3, _⟩ := h2.immM hi
  obtain ⟨u, rfl, ru⟩ := vals1 rx
  cases ru
  obtain ⟨Ts, kvs, rfl, p1, p2⟩ := pairs_ex (key := nkD) (p := keyT) (fun d h => let ⟨k, q, _⟩ := keyT_key h; ⟨k, q⟩) ha h3
  obtain ⟨prs, y1, y2, y3, y4⟩ := prs_ex I F p1 p2
  obtain ⟨its, rv, pl, hz⟩ := I.list (SqL.of h1.1)
  have ei := refs_at rv
  subst ei
  rw [List.length_map] at hz
  obtain ⟨o, n, ho, hc, hd, hdat⟩ := pl
  let pv : List (Value × Value) := prs.map fun q => (.ref q.2.1, q.2.2)
  have hlp : pv.length = Ts.length := by simp [pv, y2]
  have OKs : PlainSeq "list" s.heap a (Ts.map Value.ref).toArray ∧ PairItems s.heap (Ts.map Value.ref).toArray (fun j => Ts.getD j 0) pv := by
    refine ⟨⟨o, n, ho, hc, hd, hdat⟩, by simp [hlp], fun j kk vv hj => ?_⟩
    simp only [pv, List.getElem?_map, Option.map_eq_some_iff] at hj
    obtain ⟨q, hq, hq2⟩ := hj
    cases hq2
    obtain ⟨T, t1, t2⟩ := y4 j q hq
    have eT : Ts.getD j 0 = T := by simp [List.getD, t1]
    exact ⟨by simp [t1], .inl (by show s.heap.IsTuple (Ts.getD j 0) _; rw [eT]; exact t2)⟩
  have hu := F.units
  refine call_dict_pairsH (knd := nestedKind X.prog X.w) (ps := prs) (PairArg.list a _ (fun j => Ts.getD j 0) pv) (I.ok.hd F.calm) (by show X.A.units + 1 + 1 + 8 < cLine; omega) OKs ⟨by simp [pv], fun i kk vv hr => ?_⟩ (fun h' hk x hx => ?_) (by rw [hlp]; exact hz) fun h' tk hd' hk => ?_
  · have hr' : pv[i]? = some (kk, vv) := hr
    simp only [pv, List.getElem?_map, Option.map_eq_some_iff] at hr'
    obtain ⟨q, hq, hq2⟩ := hr'
    cases hq2
    exact ⟨q.1, q.2.1, hq, rfl⟩
  · exact (nestedKind_stays (prog := X.prog) (w := X.w)).stays (fun b o vs n e q => hk b o (fun z => by
      rw [z] at e; exact absurd (Heap.lt_size e) (Nat.lt_irrefl _)) (fun q => nomatch q) e) (y3 x hx)
  · obtain ⟨f1, f2, f3⟩ := foldT (acc := []) keyT_tup p2 List.nodup_nil rfl RepL.nil RepL.nil hf
    have yx := foldY_ok (acc := []) (ax := []) y1 .nil
    obtain ⟨o', es, ep, g1, g2, g3, g4, _, g6⟩ := hd'
    have hm : (s.heap.objs.size == sysModules) = false := beq_eq_false_iff_ne.mpr (Nat.ne_of_gt I.big)
    have hlen : (foldY [] (ysOf kvs)).length ≤ sizeLine := by
      have h1 := foldY_len (ysOf kvs) []
      have h2 := yx_len y1
      simp only [List.length_nil] at h1
      omega
    have hdep : ∀ y ∈ ysOf kvs, y.1.depth ≤ 8 := fun y hy => by
      obtain ⟨kv, hkv, rfl⟩ := List.mem_map.mp hy
      obtain ⟨i, d, _, _, k0, u0, _, q2, q3, _, _⟩ := paired_get p2 kv hkv
      obtain ⟨κ, z1, z2⟩ := keyT_key q3
      rw [q2] at z1; cases z1; exact z2
    have g4' : es.toList = (storedAllH [] prs).map (entryOfKey (nestedKind G.P G.W)) := by rw [← F.P, ← F.W]; exact g4
    have raw : RawT G s.heap.objs.size (foldY [] (ysOf kvs)) h' := ⟨hlen, hm, foldY_depth (fun y hy => by simp at hy) hdep, _, yx, o', es, ep, g1, g2, g3, g4', g6⟩
    have hp : w.h s.heap.objs.size = none := I.hok.fresh (Nat.le_refl _)
    have x : Ext Fp.zero w (w.new s.heap.objs.size (.ext (RawT G s.heap.objs.size (foldY [] (ysOf kvs))))) (Fp.one s.heap.objs.size) := Ext.new hp fun b q => Classical.byContradiction fun n => q (Fp.one_ne n)
    have J : Inv X pins σ (upd w.h s.heap.objs.size (.ext (RawT G s.heap.objs.size (foldY [] (ysOf kvs))))) { s with heap := h', toks := tk } := I.laid (t' := tk) (fun b o e => hk b o (fun q => nomatch q) e) (Nat.le_refl _) ⟨raw, ⟨o', g1⟩, fun h1 h2 st kp => by
      obtain ⟨z1, z2, z3, xs', z4, o1, es1, ep1, z5, z6⟩ := st
      exact ⟨z1, z2, z3, xs', z4, o1, es1, ep1, kp _ z5, z6⟩⟩
    refine ⟨.ref s.heap.objs.size, _, J, rfl, k (.ref s.heap.objs.size) (w.new s.heap.objs.size _) (Fp.one s.heap.objs.size) (W.new hp (Nat.zero_le _)) ?_ (Own.new W hp) x⟩
    simp only [Rep]
    exact ⟨_, _, Fp.zero, rfl, ⟨upd_same, fun q => nomatch q⟩, f1, RepL.ext x.dropZ W Own.zero _ _ _ Apart.zero Own.zero f2, RepL.ext x.dropZ W Own.zero _ _ _ Apart.zero Own.zero f3, by simp [fl]⟩
/-- a call of one argument that is looked at -/
def g1 (g : D → Option D) : List D → Option D
  | [d] => g d
  | _ => none
theorem rC_of1 {f : Value} {g : D → Option D} (h : CallR X f (rC1 G g)) : CallR X f (rC G (g1 g)) := CallR.weak h fun vs H Q ⟨w, ds, d, e0, W, r, hg, k⟩ => by
  unfold g1 at hg
  split at hg
  · rename_i d1
    obtain ⟨v, vs', m, rfl, r1, o1, rfl⟩ := r
    exact ⟨v, rfl, w, d1, m, d, e0, W, r1, o1, hg, k⟩
  · cases hg
theorem CallR.or {f : Value} {r r' : List V → Hp → VK → Prop} (h : CallR X f r) (h' : CallR X f r') : CallR X f (fun xs H Q => r xs H Q ∨ r' xs H Q) := fun pins s σ H xs us Q I rx q => q.elim (h pins s σ H xs us Q I rx) (h' pins s σ H xs us Q I rx)
theorem c_dict (F : Fit X G) : CallR X (.type "dict") (rC G (g1 dDict)) := rC_of1 (CallR.weak (CallR.or (c_dictK (G := G) F) (c_dictT F)) fun vs H Q ⟨v, e1, w, d1, m1, d, e0, W, r1, o1, hf, k⟩ => by
  unfold dDict at hf
  split at hf
  · rename_i f ps
    split at hf
    · rename_i hq
      rw [Bool.and_eq_true] at hq
      split at hf
      · rename_i ha
        split at hf
        · rename_i ks vs' hfo
          cases hf
          exact .inl ⟨w, f, ps, v, m1, ks, vs', e0, W, e1, r1, hq.1, hq.2, ha, hfo, k⟩
        · cases hf
      · split at hf
        · rename_i ha
          split at hf
          · rename_i ks vs' hfo
            cases hf
            exact .inr ⟨w, f, ps, v, m1, ks, vs', e0, W, e1, r1, hq.1, hq.2, ha, hfo, k⟩
          · cases hf
        · cases hf
    · cases hf
  · cases hf)
theorem c_sorted' (F : Fit X G) : CallR X (.builtin "sorted") (rC G (g1 dSorted)) := rC_of1 (c_sorted F)
/-! ### {} -/
def pDct0 : Ev := fun _ => some (.dct true false [] [])
theorem r_dct0 {pos : Pos} : PE X (.Dict [] [] pos) (tP G ro pDct0) := PE.weak pe_dnewK fun σ H Q ⟨R, w, e, m, d, e0, S, hf, k⟩ => by
  cases hf; subst e0
  intro p hp
  obtain ⟨n1, n2, _, _⟩ := S.newO (o := .dK []) (fun b q => absurd rfl q) hp (Nat.zero_le _)
  rw [Fp.zero_add] at n1 n2
  refine k (.ref p) (w.new p (.dK [])) (Fp.one p) n1 ?_ n2
  simp only [Rep]
  exact ⟨p, [], Fp.zero, rfl, ⟨upd_same, fun q => nomatch q⟩, rfl, RepL.nil, by simp [fl]⟩
/-! ### the target o[k] -/
def gIx (get : List D → Option D) (put : List D → D → List D) (fk : Ev) : EvG := fun v e => match fk e with
  | some k => if imm k = true then match get e with
      | some c => match dPut c k v with
        | some c' => some (put e c')
        | none => none
      | none => none
    else none
  | none => none
theorem gIx_ok {get : List D → Option D} {put : List D → D → List D} {to : TE} {fk : Ev} {v : V} {σ : L2.St} {H : Hp} {Q : L2.St → Hp → Prop} (P : PlaceOk G ro get put to) (q : tGt G ro fx (gIx get put fk) v σ H Q) : gSub to (tP G ro fk) (rPut G) v σ H Q := by
  obtain ⟨R, w, e, m, d, md, e', rfl, S, r, hg, k⟩ := q
  unfold gIx at hg
  split at hg
  · rename_i kd hk
    split at hg
    · rename_i him
      split at hg
      · rename_i c hc
        split at hg
        · rename_i c' hp
          cases hg
          obtain ⟨vc, mc, m2, h1, rc, rfl, kk⟩ := P.ok S hc
          refine h1 _ ⟨R, w, e, _, kd, rfl, S.zero, hk, fun i w1 mk S1 r1 x1 => ?_⟩
          have zk := Rep.imm0 kd i mk him r1
          subst zk
          have rd := Rep.grow x1 S.world S.own.right r
          have om : Own w (Fp.add mc md) := S.own.le fun b => by simp <;> omega
          have rc' := Rep.grow x1 S.world om.left rc
          have om1 : Own w1 (Fp.add mc md) := (Own.ext (m := Fp.add mc md) x1 (by rw [Fp.add_zero]; exact om) (fun b q => by
            by_cases z : mc b = 0
            · exact Rep.there _ _ _ r b (by simpa [z] using q)
            · exact Rep.there _ _ _ rc b z) Own.zero).left
          refine ⟨w1, c, mc, kd, d, md, c', rfl, S1.world, rc', r1, rd, om1, hp, fun w' m' W' rn l O' x => ?_⟩
          have x1' : Ext (Fp.add mc md) w w1 (Fp.add mc md) := by
            have := x1.frame (m := Fp.add mc md)
            rwa [Fp.add_zero] at this
          obtain ⟨m'', S', l'⟩ := kk w' md Fp.zero Fp.zero c' m' (by rw [Fp.add_zero]) (by rw [Fp.add_zero]; exact x1'.trans x) W' (by rw [Fp.add_zero]; exact O') rn (fun b q => absurd rfl q)
          rw [Fp.add_zero] at S'
          have y : Ext (Fp.add m2 (Fp.add mc md)) w w' (Fp.add m2 m') := (x1'.trans x).frame
          refine k w' σ m'' S' ((y.more (k0 := Fp.add (Fp.add mc m2) md) fun b q => by simp at *; omega).less fun b q => ?_) fun _ _ => rfl
          have := l' b; simp at *; omega
        · cases hg
      · cases hg
    · cases hg
  · cases hg
variable {b : Expr} {pos p p1 : Pos} {x f : Str} {fk : Ev}
theorem g_ix (i : Nat) (F : Fit X G) (hk : PE X b (tP G ro fk)) (hr : ro i = false := by rfl) (hN : X.N[i]? = some x := by rfl) (hv : Vis X.env.scope x := by first | exact Or.inl rfl | exact Or.inr (Or.inl rfl) | exact Or.inr (Or.inr rfl)) (hd : (x == ("__debug__" : Str)) = false := by decide) (hcd : (x == ("__classdict__" : Str)) = false := by decide)
    (ha : ∀ v, assign (.Subscript (.Name x p) b pos) X.env v = (do
      let ov ← holding [v] (eval (.Name x p) X.env)
      let iv ← holding [v, ov] (eval b X.env)
      standAt pos
      holding [v, ov, iv] (setItem ov iv v)
      release [v, ov, iv] []) := by intro _; rfl) : PG X (.Subscript (.Name x p) b pos) (tGt G ro fx (gIx (fun e => slot e i) (fun e c => e.set i c) fk)) :=
  PG.weak (pg_sub (pe_var (i := i) hN hv hd hcd) hk (o_put F) ha) fun v σ H Q q => gIx_ok (place_slot i hr) q
theorem g_ixF (i c j : Nat) (F : Fit X G) (cf : ClsF X.K G c) (hx : (G.flds c)[j]? = some f) (hk : PE X b (tP G ro fk)) (hr : ro i = false := by rfl) (hN : X.N[i]? = some x := by rfl) (hv : Vis X.env.scope x := by first | exact Or.inl rfl | exact Or.inr (Or.inl rfl) | exact Or.inr (Or.inr rfl)) (hd : (x == ("__debug__" : Str)) = false := by decide) (hcd : (x == ("__classdict__" : Str)) = false := by decide)
    (hb : attributeBase (.Name x p) f X.env (eval (.Name x p) X.env) = eval (.Name x p) X.env := by rfl)
    (ha : ∀ v, assign (.Subscript (.Attribute (.Name x p) f p1) b pos) X.env v = (do
      let ov ← holding [v] (eval (.Attribute (.Name x p) f p1) X.env)
      let iv ← holding [v, ov] (eval b X.env)
      standAt pos
      holding [v, ov, iv] (setItem ov iv v)
      release [v, ov, iv] []) := by intro _; rfl) : PG X (.Subscript (.Attribute (.Name x p) f p1) b pos) (tGt G ro fx (gIx (getF c j i) (putFd c j i) fk)) :=
  PG.weak (pg_sub (pe_fld (pe_var (i := i) hN hv hd hcd) hb) hk (o_put F) ha) fun v σ H Q q => gIx_ok (place_fld cf hr hx) q

/-! ### o.f = v -/
def setFd (c j : Nat) (v : D) : D → Option D
  | .ins true c' ds => if (c' == c) = true then if j < ds.length then some (.ins true c' (ds.set j v)) else if (j == ds.length) = true then some (.ins true c' (ds ++ [v])) else none else none
  | _ => none
def sFldS (c j i : Nat) (h : EvM) : EvS := fun e => match h e with
  | some (d, e1) => match slot e1 i with
    | some o => match setFd c j d o with
      | some o' => some (.nx, e1.set i o')
      | none => none
    | none => none
  | none => none
theorem putF_zip : ∀ {ns : List Str} {vs : List V} {j : Nat} {x : Str} {v : V}, ns.Nodup → ns[j]? = some x → vs.length ≤ ns.length → j ≤ vs.length → putF x v (ns.zip vs) = ns.zip (if j < vs.length then vs.set j v else vs ++ [v])
  | [], vs, j, x, v, hn, h1, hl, hj => by simp at h1
  | n :: ns, [], 0, x, v, hn, h1, hl, hj => by
    simp only [List.getElem?_cons_zero, Option.some.injEq] at h1
    subst h1
    simp [putF]
  | n :: ns, [], j + 1, x, v, hn, h1, hl, hj => by simp at hj
  | n :: ns, u :: vs, 0, x, v, hn, h1, hl, hj => by
    simp only [List.getElem?_cons_zero, Option.some.injEq] at h1
    subst h1
    simp [putF]
  | n :: ns, u :: vs, j + 1, x, v, hn, h1, hl, hj => by
    simp only [List.getElem?_cons_succ] at h1
    rw [List.nodup_cons] at hn
    have ne : ¬ n = x := fun z => hn.1 (by rw [z]; exact List.mem_of_getElem? h1)
    have ih := putF_zip (v := v) hn.2 h1 (by simpa using hl) (by simpa using hj)
    simp only [List.zip_cons_cons, putF, if_neg ne, ih]
    by_cases z : j < vs.length
    · rw [if_pos z, if_pos (by simpa using z)]; rfl
    · rw [if_neg z, if_neg (by simpa using z)]; rfl
theorem s_fld {value : Expr} {h : EvM} (i c j : Nat) (cf : ClsF X.K G c) (hx : (G.flds c)[j]? = some f) (hv' : PE X value (tM G ro h)) (hr : ro i = false := by rfl) (hN : X.N[i]? = some x := by rfl) (hv : Vis X.env.scope x := by first | exact Or.inl rfl | exact Or.inr (Or.inl rfl) | exact Or.inr (Or.inr rfl)) (hd : (x == ("__debug__" : Str)) = false := by decide) (hcd : (x == ("__classdict__" : Str)) = false := by decide)
    (hs : swapsWith value (some (.Attribute (.Name x p) f p1)) pos.line X.env = pure false := by rfl) : PS X (.Assign [.Attribute (.Name x p) f p1] value pos) (tS G ro fx (sFldS c j i h)) :=
  PS.weak (ps_fld (pe_var (i := i) hN hv hd hcd) hv' hs) fun Dn σ H ⟨R, w, e, m, o, e', e0, S, hf, k⟩ => by
    subst e0
    unfold sFldS at hf
    split at hf
    · rename_i d e1 hh
      split at hf
      · rename_i oo hs1
        split at hf
        · rename_i o' hset
          cases hf
          refine ⟨R, w, e, m, d, e1, rfl, S, hh, fun y w1 md m1 S1 r1 x1 => ?_⟩
          obtain ⟨vc, mc, m2, h1, rc, rfl, kk⟩ := (place_slot (G := G) i hr).ok S1 hs1
          refine h1 _ ?_
          unfold setFd at hset
          split at hset
          · rename_i c' ds
            split at hset
            · rename_i hc
              have ec : c' = c := by simpa using hc
              subst ec
              have rc0 := rc
              simp only [Rep] at rc
              obtain ⟨a, dx, vs, m', rfl, g1, g2, g3, rfl⟩ := rc
              have lv := g3.len
              have om : Own w1 (Fp.add (fl true a m') md) := S1.own.le fun b => by simp <;> omega
              have jl : j ≤ vs.length := by
                split at hset
                · omega
                · split at hset
                  · rename_i q; have : j = ds.length := by simpa using q
                    omega
                  · cases hset
              have jf : j < (G.flds c').length := (List.getElem?_eq_some_iff.mp hx).1
              have hz : ((G.flds c').zip vs).length < 1000 := by
                have := cf.le
                have e : ((G.flds c').zip vs).length = vs.length := by rw [List.length_zip]; omega
                omega
              refine ⟨a, _, dx, _, rfl, g1.1, cf.cl, cf.no f (List.mem_of_getElem? hx), hz, ?_⟩
              rw [putF_zip cf.nd hx g2 jl]
              obtain ⟨W', X', OK, RL, RD⟩ := Rep.rewrite (o := .ins (G.cls c') dx ((G.flds c').zip (if j < vs.length then vs.set j y else vs ++ [y]))) S1.world g1.1 rfl om (Nat.zero_le _)
              have gg := RL _ _ m' (fun b => by omega) g3
              have gd := RD _ _ md (fun b => by omega) r1
              have fin : ∃ (vs' : List V) (ds' : List D) (m3 : Fp), (if j < vs.length then vs.set j y else vs ++ [y]) = vs' ∧ o' = .ins true c' ds' ∧ vs'.length ≤ (G.flds c').length ∧ RepL G (w1.new a (.ins (G.cls c') dx ((G.flds c').zip (if j < vs.length then vs.set j y else vs ++ [y])))) ds' vs' m3 ∧ ∀ b, m3 b ≤ m' b + md b := by
                by_cases z : j < ds.length
                · rw [if_pos z] at hset
                  cases hset
                  rw [if_pos (by omega)] at gg gd ⊢
                  obtain ⟨m3, q1, q2⟩ := gg.setAt (j := j) z gd
                  exact ⟨_, _, m3, rfl, rfl, by rw [List.length_set]; exact g2, q1, q2⟩
                · rw [if_neg z] at hset
                  split at hset
                  · cases hset
                    rw [if_neg (by omega)] at gg gd ⊢
                    exact ⟨_, _, Fp.add m' md, rfl, rfl, by simp; omega, RepL.app gg (RepL.one gd), fun b => by simp⟩
                  · cases hset
              obtain ⟨vs', ds', m3, e1, rfl, q0, q1, q2⟩ := fin
              rw [e1] at q1 W' X' OK ⊢
              have O' : Own (w1.new a (.ins (G.cls c') dx ((G.flds c').zip vs'))) (fl true a m3) := OK (om.le fun b => by have := q2 b; simp [fl] <;> omega)
              have x' : Ext (Fp.add (fl true a m') md) w1 (w1.new a (.ins (G.cls c') dx ((G.flds c').zip vs'))) (fl true a m3) := (X' _ (by simp [fl, Fp.one_same])).less fun b q => by have := q2 b; simp [fl] at * <;> omega
              obtain ⟨m'', S', l'⟩ := kk _ md Fp.zero Fp.zero (.ins true c' ds') (fl true a m3) (by rw [Fp.add_zero]) (by rw [Fp.add_zero]; exact x') W' (by rw [Fp.add_zero]; exact O') (by
                simp only [Rep]
                exact ⟨a, dx, vs', m3, rfl, ⟨upd_same, fun q => nomatch q⟩, q0, q1, rfl⟩) (fun b q => absurd rfl q)
              rw [Fp.add_zero] at S'
              have y' : Ext (Fp.add m2 (Fp.add (fl true a m') md)) w1 _ (Fp.add m2 (fl true a m3)) := x'.frame
              refine k _ σ m'' S' ((x1.trans (y'.more (k0 := Fp.add (Fp.add (fl true a m') m2) md) fun b q => by simp at *; omega)).less fun b q => ?_) fun _ _ => rfl
              have := l' b; simp at *; omega
            · cases hset
          · cases hset
        · cases hf
      · cases hf
    · cases hf
end
end TL
end
section
set_option maxRecDepth 100000
/-! The tree layer, part Z: built-ins by trees. -/
namespace TL
open PySem PySem.Spec PyProof.Rows L2
section
variable {X : Cx} {G : Gen} {ro fx : Nat → Bool} {w : Wd}
def dLen : D → Option D
  | .lst _ xs => some (.int xs.length)
  | .tup xs => some (.int xs.length)
  | .dct _ _ ks _ => some (.int ks.length)
  | _ => none
theorem keysD_len : ∀ {ds : List D} {l : List Key}, keysD ds = some l → l.length = ds.length
  | [], l, h => by cases h; rfl
  | d :: ds, l, h => by obtain ⟨x, xs, _, q2, rfl⟩ := keysD_cons h; simp [keysD_len q2]
theorem call_len_ext (F : Fit X G) : CallR X (.builtin "len") (fun xs H Q => ∃ w f ks vs v m, w.h = H ∧ xs = [v] ∧ Rep G w (.dct f true ks vs) v m ∧ Q (.int ks.length) H) := by
  intro pins s σ H xs us Q I r ⟨w, f, ks, vs, v, m, e0, e1, rd, q⟩
  subst e0; subst e1
  obtain ⟨u, rfl, ru⟩ := vals1 r
  simp only [Rep] at rd
  obtain ⟨a, ys, m', rfl, h1, h2, h4, h3, rfl⟩ := rd
  cases ru
  obtain ⟨hl, z, _, xs, yx, dh⟩ := rawt_of I F h1 h2 h4
  have e : ks.length = xs.length := by rw [← nkL_len h2, List.length_map, yx_len yx]
  have hs : sizeLine = 16777216 := sizeLine_eq
  refine call_len_dictH z dh (by rw [← yx_len yx]; omega) ?_
  exact ⟨.int ks.length, w.h, I.tok _, ⟨_, by rw [e]⟩, q⟩
theorem c_len (F : Fit X G) : CallR X (.builtin "len") (rC G (g1 dLen)) := rC_of1 (CallR.weak (CallR.or call_len (CallR.or call_lenD (call_len_ext F))) fun vs H Q ⟨v, e1, w, d1, m1, d, e0, W, r1, o1, hf, k⟩ => by
  subst e0; subst e1
  unfold dLen at hf
  split at hf
  · cases hf
    simp only [Rep] at r1
    obtain ⟨a, us, m', rfl, h1, h2, rfl⟩ := r1
    refine .inl ⟨_, us.length, rfl, .inl ⟨us, SqL.of h1.1, rfl⟩, ?_⟩
    rw [← h2.len]; exact Done.flat k W Rep.mkInt
  · cases hf
    simp only [Rep] at r1
    obtain ⟨a, us, rfl, h1, h2⟩ := r1
    refine .inl ⟨_, us.length, rfl, .inr ⟨us, by rw [F.K]; exact h1, rfl⟩, ?_⟩
    rw [← h2.len]; exact Done.flat k W Rep.mkInt
  · rename_i f t ks vs
    cases hf
    cases t with
    | true => exact .inr (.inr ⟨w, f, ks, vs, v, m1, rfl, rfl, r1, Done.flat k W Rep.mkInt⟩)
    | false =>
      simp only [Rep] at r1
      obtain ⟨a, kvs, m', rfl, h1, h2, _⟩ := r1
      have e := keysD_len h2
      rw [List.length_map] at e
      refine .inr (.inl ⟨a, kvs, rfl, h1.1, ?_⟩)
      rw [e]; exact Done.flat k W Rep.mkInt
  · cases hf)
def dTuple : D → Option D
  | .lst _ xs => if immL xs = true then some (.tup xs) else none
  | .tup xs => if immL xs = true then some (.tup xs) else none
  | _ => none
theorem c_tuple (F : Fit X G) : CallR X (.type "tuple") (rC G (g1 dTuple)) := rC_of1 (CallR.weak (CallR.bnd call_tuple_of) fun vs H Q ⟨v, e1, w, d1, m1, d, e0, W, r1, o1, hf, k⟩ => by
  subst e0; subst e1
  unfold dTuple at hf
  split at hf
  · split at hf
    · rename_i hi
      cases hf
      simp only [Rep] at r1
      obtain ⟨a, us, m', rfl, h1, h2, rfl⟩ := r1
      obtain ⟨h3, _⟩ := h2.immM hi
      exact ⟨a, us, rfl, .inl ⟨SqL.of h1.1, fun l hl => Done.tup k W hl h3⟩⟩
    · cases hf
  · split at hf
    · rename_i hi
      cases hf
      have r0 := r1
      simp only [Rep] at r1
      obtain ⟨a, us, rfl, h1, h2⟩ := r1
      obtain ⟨h3, rfl⟩ := h2.immM hi
      exact ⟨a, us, rfl, .inr ⟨by rw [F.K]; exact h1, fun _ => Done.flat k W r0⟩⟩
    · cases hf
  · cases hf)
def dList : D → Option D
  | .lst _ xs => if immL xs = true then some (.lst true xs) else none
  | .tup xs => if immL xs = true then some (.lst true xs) else none
  | _ => none
theorem c_list (F : Fit X G) : CallR X (.type "list") (rC G (g1 dList)) := rC_of1 (CallR.weak (CallR.bnd call_list_of) fun vs H Q ⟨v, e1, w, d1, m1, d, e0, W, r1, o1, hf, k⟩ => by
  subst e0; subst e1
  unfold dList at hf
  split at hf
  · split at hf
    · rename_i hi
      cases hf
      simp only [Rep] at r1
      obtain ⟨a, us, m', rfl, h1, h2, rfl⟩ := r1
      obtain ⟨h3, _⟩ := h2.immM hi
      exact ⟨a, us, rfl, .inl (SqL.of h1.1), fun l hl => Done.lst k W hl h3⟩
    · cases hf
  · split at hf
    · rename_i hi
      cases hf
      simp only [Rep] at r1
      obtain ⟨a, us, rfl, h1, h2⟩ := r1
      obtain ⟨h3, rfl⟩ := h2.immM hi
      exact ⟨a, us, rfl, .inr (by rw [F.K]; exact h1), fun l hl => Done.lst k W hl h3⟩
    · cases hf
  · cases hf)
def bools : List D → Option (List Bool)
  | [] => some []
  | .bl b :: ds => match bools ds with
    | some bs => some (b :: bs)
    | none => none
  | _ :: _ => none
theorem bools_rep : ∀ {ds : List D} {bs : List Bool} {vs : List V} {m : Fp}, bools ds = some bs → RepL G w ds vs m → vs = bs.map V.bl
  | [], bs, vs, m, h, r => by cases h; simp only [RepL] at r; exact r.1
  | .bl b :: ds, bs, vs, m, h, r => by
    simp only [bools] at h
    split at h
    · rename_i bs' hb
      cases h
      simp only [RepL] at r
      obtain ⟨v, vs', m1, m2, rfl, r1, r2, rfl⟩ := r
      rw [r1.bl, bools_rep hb r2]; rfl
    · cases h
  | .undef :: ds, bs, vs, m, h, r => by simp [bools] at h
  | .non :: ds, bs, vs, m, h, r => by simp [bools] at h
  | .int _ :: ds, bs, vs, m, h, r => by simp [bools] at h
  | .str _ :: ds, bs, vs, m, h, r => by simp [bools] at h
  | .tup _ :: ds, bs, vs, m, h, r => by simp [bools] at h
  | .lst _ _ :: ds, bs, vs, m, h, r => by simp [bools] at h
  | .dct _ _ _ _ :: ds, bs, vs, m, h, r => by simp [bools] at h
  | .ins _ _ _ :: ds, bs, vs, m, h, r => by simp [bools] at h
  | .fam _ _ :: ds, bs, vs, m, h, r => by simp [bools] at h
  | .scr _ :: ds, bs, vs, m, h, r => by simp [bools] at h
def dAll : D → Option D
  | .lst _ xs => match bools xs with
    | some bs => some (.bl (bs.all id))
    | none => none
  | _ => none
def dAny : D → Option D
  | .lst _ xs => match bools xs with
    | some bs => some (.bl (bs.any id))
    | none => none
  | _ => none
theorem c_all (F : Fit X G) : CallR X (.builtin "all") (rC G (g1 dAll)) := rC_of1 (CallR.weak (cr_all F.calm) fun vs H Q ⟨v, e1, w, d1, m1, d, e0, W, r1, o1, hf, k⟩ => by
  subst e0; subst e1
  unfold dAll at hf
  split at hf
  · split at hf
    · rename_i bs hb
      cases hf
      simp only [Rep] at r1
      obtain ⟨a, us, m', rfl, h1, h2, rfl⟩ := r1
      have e := bools_rep hb h2
      subst e
      exact ⟨a, bs, rfl, SqL.of h1.1, Done.flat k W Rep.mkBl⟩
    · cases hf
  · cases hf)
theorem c_any (F : Fit X G) : CallR X (.builtin "any") (rC G (g1 dAny)) := rC_of1 (CallR.weak (cr_any F.calm) fun vs H Q ⟨v, e1, w, d1, m1, d, e0, W, r1, o1, hf, k⟩ => by
  subst e0; subst e1
  unfold dAny at hf
  split at hf
  · split at hf
    · rename_i bs hb
      cases hf
      simp only [Rep] at r1
      obtain ⟨a, us, m', rfl, h1, h2, rfl⟩ := r1
      have e := bools_rep hb h2
      subst e
      exact ⟨a, bs, rfl, SqL.of h1.1, Done.flat k W Rep.mkBl⟩
    · cases hf
  · cases hf)
def intL : List D → Option (List Int)
  | [] => some []
  | .int b :: ds => match intL ds with
    | some bs => some (b :: bs)
    | none => none
  | _ :: _ => none
theorem intL_rep : ∀ {ds : List D} {bs : List Int} {vs : List V} {m : Fp}, intL ds = some bs → RepL G w ds vs m → vs = bs.map V.int
  | [], bs, vs, m, h, r => by cases h; simp only [RepL] at r; exact r.1
  | .int b :: ds, bs, vs, m, h, r => by
    simp only [intL] at h
    split at h
    · rename_i bs' hb
      cases h
      simp only [RepL] at r
      obtain ⟨v, vs', m1, m2, rfl, r1, r2, rfl⟩ := r
      rw [r1.int, intL_rep hb r2]; rfl
    · cases h
  | .undef :: ds, bs, vs, m, h, r => by simp [intL] at h
  | .non :: ds, bs, vs, m, h, r => by simp [intL] at h
  | .bl _ :: ds, bs, vs, m, h, r => by simp [intL] at h
  | .str _ :: ds, bs, vs, m, h, r => by simp [intL] at h
  | .tup _ :: ds, bs, vs, m, h, r => by simp [intL] at h
  | .lst _ _ :: ds, bs, vs, m, h, r => by simp [intL] at h
  | .dct _ _ _ _ :: ds, bs, vs, m, h, r => by simp [intL] at h
  | .ins _ _ _ :: ds, bs, vs, m, h, r => by simp [intL] at h
  | .fam _ _ :: ds, bs, vs, m, h, r => by simp [intL] at h
  | .scr _ :: ds, bs, vs, m, h, r => by simp [intL] at h
def dSum : D → Option D
  | .lst _ xs => match intL xs with
    | some bs => some (.int bs.sum)
    | none => none
  | _ => none
theorem c_sum (F : Fit X G) : CallR X (.builtin "sum") (rC G (g1 dSum)) := rC_of1 (CallR.weak (cr_sum F.calm) fun vs H Q ⟨v, e1, w, d1, m1, d, e0, W, r1, o1, hf, k⟩ => by
  subst e0; subst e1
  unfold dSum at hf
  split at hf
  · split at hf
    · rename_i bs hb
      cases hf
      simp only [Rep] at r1
      obtain ⟨a, us, m', rfl, h1, h2, rfl⟩ := r1
      have e := intL_rep hb h2
      subst e
      exact ⟨a, bs, rfl, SqL.of h1.1, Done.flat k W Rep.mkInt⟩
    · cases hf
  · cases hf)
def dAbs : D → Option D
  | .int i => some (.int (if i < 0 then -i else i))
  | _ => none
theorem c_abs : CallR X (.builtin "abs") (rC G (g1 dAbs)) := rC_of1 (CallR.weak call_abs fun vs H Q ⟨v, e1, w, d1, m1, d, e0, W, r1, o1, hf, k⟩ => by
  subst e0; subst e1
  unfold dAbs at hf
  split at hf
  · cases hf
    exact ⟨_, by rw [r1.int], Done.flat k W Rep.mkInt⟩
  · cases hf)
def dInt : D → Option D
  | .int i => some (.int i)
  | _ => none
theorem c_int : CallR X (.type "int") (rC G (g1 dInt)) := rC_of1 (CallR.weak call_int1 fun vs H Q ⟨v, e1, w, d1, m1, d, e0, W, r1, o1, hf, k⟩ => by
  subst e0; subst e1
  unfold dInt at hf
  split at hf
  · cases hf
    exact .inl ⟨_, by rw [r1.int], Done.flat k W Rep.mkInt⟩
  · cases hf)
/-! ### isinstance(x, T), T built in -/
def tyName : D → Option String
  | .non => some "NoneType"
  | .bl _ => some "bool"
  | .int _ => some "int"
  | .str _ => some "str"
  | .tup _ => some "tuple"
  | .lst _ _ => some "list"
  | .dct _ false _ _ => some "dict"
  | _ => none
inductive BT where
  | int | bool | tuple | list | dict | str
def BT.nm : BT → String
  | .int => "int" | .bool => "bool" | .tuple => "tuple" | .list => "list" | .dict => "dict" | .str => "str"
def dIsi : BT → D → Option D
  | t, .non => some (.bl false)
  | t, .bl _ => some (.bl (match t with | .bool => true | .int => true | _ => false))
  | t, .int _ => some (.bl (match t with | .int => true | _ => false))
  | t, .str _ => some (.bl (match t with | .str => true | _ => false))
  | t, .tup _ => some (.bl (match t with | .tuple => true | _ => false))
  | t, .lst _ _ => some (.bl (match t with | .list => true | _ => false))
  | t, .dct _ false _ _ => some (.bl (match t with | .dict => true | _ => false))
  | _, _ => none
theorem isi_kit : ∀ (t : BT) (n : String) (b : Bool), (n, b) ∈ [("NoneType", false), ("bool", (match t with | .bool => true | .int => true | _ => false)), ("int", (match t with | .int => true | _ => false)), ("str", (match t with | .str => true | _ => false)), ("tuple", (match t with | .tuple => true | _ => false)), ("list", (match t with | .list => true | _ => false)), ("dict", (match t with | .dict => true | _ => false))] → kitB n t.nm = some b := by
  intro t n b h
  simp only [List.mem_cons, Prod.mk.injEq, List.not_mem_nil, or_false] at h
  cases t <;> rcases h with ⟨rfl, rfl⟩ | ⟨rfl, rfl⟩ | ⟨rfl, rfl⟩ | ⟨rfl, rfl⟩ | ⟨rfl, rfl⟩ | ⟨rfl, rfl⟩ | ⟨rfl, rfl⟩ <;> decide +kernel
end
end TL
end
section
set_option maxRecDepth 100000
/-! The tree layer, part AA: isinstance; FnOk of a def by its tree. -/
namespace TL
open PySem PySem.Spec PyProof.Rows L2
section
variable {X : Cx} {G : Gen} {ro fx : Nat → Bool} {w : Wd} {a : Expr} {f : Ev} {p p2 pos : Pos}
theorem sqT_ty {K : PySem.W.Frag} {a : Addr} {vs : List V} (h : SqT K w.h a vs) : TyX K w.h (.ref a) (.type "tuple") := by
  rcases h with (h | ⟨o, h⟩) | h
  · exact .base (.tup h)
  · exact .fTuple h
  · obtain ⟨o, its, n, h1, h2, _⟩ := h
    exact .kTuple h1 h2
theorem isi_ok (F : Fit X G) {t : BT} {d d' : D} {v : V} {m : Fp} (r : Rep G w d v m) (h : dIsi t d = some d') : ∃ n b, d' = .bl b ∧ TyX X.K w.h v (.type n) ∧ kitB n t.nm = some b := by
  cases d with
  | undef => simp [dIsi] at h
  | non => simp only [dIsi, Option.some.injEq] at h; subst h; simp only [Rep] at r; obtain ⟨rfl, _⟩ := r; exact ⟨"NoneType", _, rfl, .base .non, isi_kit t _ _ (by simp)⟩
  | bl b => simp only [dIsi, Option.some.injEq] at h; subst h; simp only [Rep] at r; obtain ⟨rfl, _⟩ := r; exact ⟨"bool", _, rfl, .base (.bl _), isi_kit t _ _ (by simp)⟩
  | int b => simp only [dIsi, Option.some.injEq] at h; subst h; simp only [Rep] at r; obtain ⟨rfl, _⟩ := r; exact ⟨"int", _, rfl, .base (.int _), isi_kit t _ _ (by simp)⟩
  | str b => simp only [dIsi, Option.some.injEq] at h; subst h; simp only [Rep] at r; obtain ⟨rfl, _⟩ := r; exact ⟨"str", _, rfl, .base (.str _), isi_kit t _ _ (by simp)⟩
  | tup xs =>
    simp only [dIsi, Option.some.injEq] at h; subst h
    simp only [Rep] at r
    obtain ⟨a, vs, rfl, h1, _⟩ := r
    exact ⟨"tuple", _, rfl, sqT_ty (by rw [F.K]; exact h1), isi_kit t _ _ (by simp)⟩
  | lst f xs =>
    simp only [dIsi, Option.some.injEq] at h; subst h
    simp only [Rep] at r
    obtain ⟨a, vs, m', rfl, h1, _⟩ := r
    exact ⟨"list", _, rfl, .base (.lst h1.1), isi_kit t _ _ (by simp)⟩
  | dct f tt ks vs =>
    cases tt with
    | true => simp [dIsi] at h
    | false =>
      simp only [dIsi, Option.some.injEq] at h; subst h
      simp only [Rep] at r
      obtain ⟨a, kvs, m', rfl, h1, _⟩ := r
      exact ⟨"dict", _, rfl, .base (.dK h1.1), isi_kit t _ _ (by simp)⟩
  | ins _ _ _ => simp [dIsi] at h
  | fam _ _ => simp [dIsi] at h
  | scr _ => simp [dIsi] at h
/-- isinstance(x, T) -/
theorem r_isi (t : BT) {x : Str} (F : Fit X G) (hg : Gl X "isinstance") (hm : X.mg "isinstance" = none) (hv : bootBuiltins "isinstance" = some (.builtin "isinstance")) (ha : PE X a (tB G ro f)) (hg2 : Gl X x) (hm2 : X.mg x = none) (hv2 : bootBuiltins x = some (.type t.nm)) (hn2 : x ≠ "__name__" := by decide) (hdb2 : (x == ("__debug__" : Str)) = false := by decide)
    (hn : ("isinstance" : Str) ≠ "__name__" := by decide) (hdb : (("isinstance" : Str) == ("__debug__" : Str)) = false := by decide)
    (he : starEach [a, .Name x p2] X.env = (false, eval a X.env) :: starEach [.Name x p2] X.env := by rfl) (hs2 : starEach [.Name x p2] X.env = (false, eval (.Name x p2) X.env) :: starEach [] X.env := by rfl) (hpl : (backTo pos (starEach [.Name x p2] X.env)).any (·.1) = false := by rfl) :
    PE X (.Call (.Name "isinstance" p) [a, .Name x p2] [] pos) (tP G ro (p1 (dIsi t) f)) :=
  PE.weak (pe_callB call_isi hg hm hv (pa_cons ha (pa_cons (pe_bltn (v := .ty t.nm) hg2 hm2 hv2 rfl hn2 hdb2) pa_nil hs2) he) hn hdb he hpl) fun σ H Q ⟨R, w, e, m, d, e0, S, hf, k⟩ => by
    unfold p1 at hf
    split at hf
    · rename_i d0 hd0
      refine ⟨R, w, e, m, d0, e0, S, hd0, fun v w1 mb S1 r1 o1 x1 => ?_⟩
      obtain ⟨n, b, rfl, ty, kb⟩ := isi_ok F r1 hf
      exact ⟨v, .ty t.nm, .type n, .type t.nm, b, rfl, .ty _, ty, kit_ty kb, k _ w1 Fp.zero S1 Rep.mkBl x1⟩
    · cases hf
end

/-! ### a def by its tree -/
section
variable {P : Program} {wd : PySem.World} {K : PySem.W.Frag} {mg : Str → Option Value} {base : Heap} {G : Gen}
/-- the context of a def's body -/
abbrev Bx (P : Program) (wd : PySem.World) (K : PySem.W.Frag) (mg : Str → Option Value) (base : Heap) (N : List Str) (qual : Str) (st : Stmt) (f : Addr) (cdv : Value) (A : Around) (outer : List Env) (s : Shared) (H : Hp) (E : XK) : Cx := (cxOf L2.CX0 P wd K mg base N qual (defScope st) f cdv A outer s H E).nox
theorem fn_tree {x qual : Str} {st : Stmt} {f : Addr} {fd : FuncData} {N ps : List Str} {k : Nat} {md : List Md} {b : EvS} (loc : Nat) (Fd : Fun K x qual st f fd) (S : FnScope N ps (defScope st)) (hG : K = G.K ∧ P = G.P ∧ wd = G.W) (hN : N.length = md.length + loc) (hps : ps.length = md.length)
    (h : ∀ (cdv : Value) (A : Around) (outer : List Env) (s : Shared) (H : Hp) (E : XK), Room k (Bx P wd K mg base N qual st f cdv A outer s H E).A → Fit (Bx P wd K mg base N qual st f cdv A outer s H E) G → PSs (Bx P wd K mg base N qual st f cdv A outer s H E) (defBody st) (tS G (roOf md) (fxOf md) b)) :
    FnOk P wd K mg base L2.CX0 (k + 1) f fd ps (spF G md (runF md loc b)) :=
  Fd.ok S (fun vs H Q E q => (spF_len vs H Q E q).trans hps.symm) fun cdv A outer s H vs Q E hr q =>
    ⟨_, h cdv A outer s H E hr ⟨hG.1, hG.2.1, hG.2.2, rfl, by
      have := hr.un
      show (A.deeper (envOfC qual (defScope st) s.heap.objs.size f cdv)).units + 80 < cLine
      omega⟩, spF_body hN q⟩
end
end TL
end
section
set_option maxRecDepth 100000
/-! The tree layer, part AB: a[i] with an index that changes trees; sorted(set(..)). -/
namespace TL
open PySem PySem.Spec PyProof.Rows L2
section
variable {X : Cx} {G : Gen} {ro fx : Nat → Bool} {w : Wd} {b : Expr} {h : EvM} {x : Str} {p pos : Pos} {f : Ev}
/-! ### a name's part, the index read first -/
def mIxS (i : Nat) (h : EvM) : EvM := fun e => match slot e i with
  | some _ => match h e with
    | some (k, e1) => match slot e1 i with
      | some c => match dIxS c k with
        | some d => if imm d = true then some (d, e1) else none
        | none => none
      | none => none
    | none => none
  | none => none
theorem rM_ixS (i : Nat) (F : Fit X G) (hb : PE X b (tM G ro h)) (hN : X.N[i]? = some x := by rfl) (hv : Vis X.env.scope x := by first | exact Or.inl rfl | exact Or.inr (Or.inl rfl) | exact Or.inr (Or.inr rfl)) (hd : (x == ("__debug__" : Str)) = false := by decide) (hcd : (x == ("__classdict__" : Str)) = false := by decide)
    (hs : PlainIx b := by intro _ _; rfl) : PE X (.Subscript (.Name x p) b pos) (tM G ro (mIxS i h)) := PE.weak (pe_ix (ix_seqD (G := G) F) (pe_var (i := i) hN hv hd hcd) hb hs) fun σ H Q ⟨R, w, e, m, d, e', e0, S, hf, k⟩ => by
  subst e0
  unfold mIxS at hf
  split at hf
  · rename_i c0 hc0
    split at hf
    · rename_i kd e1 hk
      split at hf
      · rename_i c hc
        split at hf
        · rename_i d' hd'
          split at hf
          · rename_i him
            cases hf
            obtain ⟨v0, _, q1, _, _⟩ := S.slot hc0
            refine ⟨v0, q1, R, w, e, m, kd, _, rfl, S, hk, fun vk w1 mk m1 S1 r1 x1 => ?_⟩
            obtain ⟨v1, mb, q2, r2, o2⟩ := S1.slot hc
            rw [q1] at q2; cases q2
            refine ⟨w1, c, kd, mb, mk, d, rfl, r2, r1, hd', fun v md r l => ?_⟩
            have z := Rep.imm0 d v md him r
            subst z
            exact k v w1 Fp.zero m1 S1.zero r (by rw [Fp.add_zero]; exact x1.dropM)
          · cases hf
        · cases hf
      · cases hf
    · cases hf
  · cases hf

/-! ### sorted(set(xs)) of tuples of ints -/
def lotI : D → Option (List Int)
  | .tup xs => intL xs
  | _ => none
def lotsI : List D → Option (List (List Int))
  | [] => some []
  | d :: ds => match lotI d, lotsI ds with
    | some k, some ks => some (k :: ks)
    | _, _ => none
def lotD (k : List Int) : D := .tup (k.map .int)
/-- lexical order -/
def ltI : List Int → List Int → Bool
  | [], [] => false
  | [], _ :: _ => true
  | _ :: _, [] => false
  | x :: xs, y :: ys => if x = y then ltI xs ys else decide (x < y)
def insI (k : List Int) : List (List Int) → List (List Int)
  | [] => [k]
  | x :: xs => if k = x then x :: xs else if ltI k x = true then k :: x :: xs else x :: insI k xs
/-- sorted, each once -/
def sortI : List (List Int) → List (List Int)
  | [] => []
  | k :: ks => insI k (sortI ks)
def dSortSet : D → Option D
  | .lst _ xs => match lotsI xs with
    | some ks => if decide (ks.length < 64) = true then some (.lst true ((sortI ks).map lotD)) else none
    | none => none
  | _ => none
theorem ltI_irrefl : ∀ k : List Int, ltI k k = false
  | [] => rfl
  | x :: xs => by simp [ltI, ltI_irrefl xs]
theorem ltI_trans : ∀ {a b c : List Int}, ltI a b = true → ltI b c = true → ltI a c = true
  | [], [], c, h, h' => by simp [ltI] at h
  | [], b :: bs, [], h, h' => by simp [ltI] at h'
  | [], b :: bs, c :: cs, h, h' => rfl
  | a :: as, [], c, h, h' => by simp [ltI] at h
  | a :: as, b :: bs, [], h, h' => by simp [ltI] at h'
  | a :: as, b :: bs, c :: cs, h, h' => by
    simp only [ltI] at h h' ⊢
    by_cases q1 : a = b
    · subst q1
      rw [if_pos rfl] at h
      by_cases q2 : a = c
      · subst q2; rw [if_pos rfl] at h' ⊢; exact ltI_trans h h'
      · rw [if_neg q2] at h' ⊢; exact h'
    · rw [if_neg q1] at h
      have h1 := of_decide_eq_true h
      by_cases q2 : b = c
      · subst q2; rw [if_neg q1]; exact h
      · rw [if_neg q2] at h'
        have h2 := of_decide_eq_true h'
        rw [if_neg (by omega)]
        exact decide_eq_true (by omega)
theorem ltI_tri : ∀ (a b : List Int), ltI a b = true ∨ a = b ∨ ltI b a = true
  | [], [] => .inr (.inl rfl)
  | [], b :: bs => .inl rfl
  | a :: as, [] => .inr (.inr rfl)
  | a :: as, b :: bs => by
    simp only [ltI]
    by_cases q : a = b
    · subst q
      simp only [if_true]
      rcases ltI_tri as bs with h | h | h
      · exact .inl h
      · exact .inr (.inl (by rw [h]))
      · exact .inr (.inr h)
    · rw [if_neg q, if_neg (fun z => q z.symm)]
      by_cases q2 : a < b
      · exact .inl (decide_eq_true q2)
      · exact .inr (.inr (decide_eq_true (by omega)))
theorem insI_mem {k x : List Int} : ∀ {l : List (List Int)}, x ∈ insI k l ↔ x = k ∨ x ∈ l
  | [] => by simp [insI]
  | y :: ys => by
    unfold insI
    split
    · rename_i h; subst h; simp
    · split
      · simp
      · simp only [List.mem_cons, insI_mem]
        constructor
        · rintro (h | h | h)
          · exact .inr (.inl h)
          · exact .inl h
          · exact .inr (.inr h)
        · rintro (h | h | h)
          · exact .inr (.inl h)
          · exact .inl h
          · exact .inr (.inr h)
theorem insI_pw {k : List Int} : ∀ {l : List (List Int)}, l.Pairwise (fun a b => ltI a b = true) → (insI k l).Pairwise (fun a b => ltI a b = true)
  | [], _ => by simp [insI]
  | y :: ys, p => by
    unfold insI
    split
    · exact p
    · rename_i h
      split
      · rename_i h2
        refine List.pairwise_cons.mpr ⟨fun z hz => ?_, p⟩
        rcases List.mem_cons.mp hz with e | hz
        · rw [e]; exact h2
        · exact ltI_trans h2 ((List.pairwise_cons.mp p).1 z hz)
      · rename_i h2
        refine List.pairwise_cons.mpr ⟨fun z hz => ?_, insI_pw (List.pairwise_cons.mp p).2⟩
        rcases insI_mem.mp hz with e | hz
        · rw [e]
          rcases ltI_tri k y with q | q | q
          · exact absurd q h2
          · exact absurd q h
          · exact q
        · exact (List.pairwise_cons.mp p).1 z hz
theorem sortI_mem {x : List Int} : ∀ {l : List (List Int)}, x ∈ sortI l ↔ x ∈ l
  | [] => by simp [sortI]
  | y :: ys => by simp [sortI, insI_mem, sortI_mem]
theorem sortI_pw : ∀ l : List (List Int), (sortI l).Pairwise (fun a b => ltI a b = true)
  | [] => List.Pairwise.nil
  | y :: ys => insI_pw (sortI_pw ys)
/-- two strictly sorted lists of the same things -/
theorem pw_eq : ∀ {l l' : List (List Int)}, l.Pairwise (fun a b => ltI a b = true) → l'.Pairwise (fun a b => ltI a b = true) → (∀ x, x ∈ l ↔ x ∈ l') → l = l'
  | [], [], _, _, _ => rfl
  | [], y :: ys, _, _, h => by have := (h y).mpr List.mem_cons_self; simp at this
  | x :: xs, [], _, _, h => by have := (h x).mp List.mem_cons_self; simp at this
  | x :: xs, y :: ys, p, q, h => by
    have hp := List.pairwise_cons.mp p
    have hq := List.pairwise_cons.mp q
    have e : x = y := by
      have h1 := (h x).mp List.mem_cons_self
      have h2 := (h y).mpr List.mem_cons_self
      rcases List.mem_cons.mp h1 with e | h1
      · exact e
      · rcases List.mem_cons.mp h2 with e | h2
        · exact e.symm
        · have := ltI_trans (hp.1 y h2) (hq.1 x h1)
          rw [ltI_irrefl] at this; cases this
    subst e
    congr 1
    refine pw_eq hp.2 hq.2 fun z => ⟨fun hz => ?_, fun hz => ?_⟩
    · rcases List.mem_cons.mp ((h z).mp (List.mem_cons_of_mem _ hz)) with e | h1
      · subst e
        have := hp.1 z hz
        rw [ltI_irrefl] at this; cases this
      · exact h1
    · rcases List.mem_cons.mp ((h z).mpr (List.mem_cons_of_mem _ hz)) with e | h1
      · subst e
        have := hq.1 z hz
        rw [ltI_irrefl] at this; cases this
      · exact h1
end
end TL
end
section
set_option maxRecDepth 100000
/-! The tree layer, part AC: sorted(set(xs)) of tuples of ints. -/
namespace TL
open PySem PySem.Spec PyProof.Rows L2
theorem eqL_ints : ∀ (a b : List Int), eqL (a.map D.int) (b.map D.int) = (a == b)
  | [], [] => rfl
  | [], b :: bs => rfl
  | a :: as, [] => rfl
  | a :: as, b :: bs => by
    simp only [List.map_cons, eqL, eqD, eqL_ints as bs]
    rfl
theorem ltL_ints : ∀ (a b : List Int), ltL (a.map D.int) (b.map D.int) = ltI a b
  | [], [] => rfl
  | [], b :: bs => rfl
  | a :: as, [] => rfl
  | a :: as, b :: bs => by
    simp only [List.map_cons, ltL, eqD, ltD, ltI, ltL_ints as bs]
    by_cases h : a = b
    · subst h; simp
    · simp [h]
theorem ltD_lot (a b : List Int) : ltD (lotD a) (lotD b) = ltI a b := ltL_ints a b
theorem lotD_inj {a b : List Int} (h : lotD a = lotD b) : a = b := by
  unfold lotD at h
  injection h with h
  have : ∀ (a b : List Int), a.map D.int = b.map D.int → a = b := by
    intro a
    induction a with
    | nil => intro b h; cases b with
      | nil => rfl
      | cons y ys => simp at h
    | cons x xs ih => intro b h; cases b with
      | nil => simp at h
      | cons y ys =>
        simp only [List.map_cons, List.cons.injEq, D.int.injEq] at h
        rw [h.1, ih ys h.2]
  exact this a b h
theorem insBy_lot {k : List Int} : ∀ {l : List (List Int)}, k ∉ l → PySem.W.insBy leD (lotD k) (l.map lotD) = (insI k l).map lotD
  | [], _ => rfl
  | y :: ys, h => by
    rw [List.mem_cons, not_or] at h
    simp only [List.map_cons, PySem.W.insBy, insI, leD, ltD_lot, if_neg h.1]
    by_cases q : ltI k y = true
    · have : ltI y k = false := by
        cases z : ltI y k with
        | false => rfl
        | true => have := ltI_trans q z; rw [ltI_irrefl] at this; cases this
      rw [if_pos q, this]; rfl
    · have : ltI y k = true := by
        rcases ltI_tri k y with z | z | z
        · exact absurd z q
        · exact absurd z h.1
        · exact z
      rw [if_neg q, this]
      simp only [Bool.not_true, Bool.false_eq_true, if_false, List.map_cons]
      rw [insBy_lot h.2]
theorem sortD_lots : ∀ {ks : List (List Int)}, ks.Nodup → sortD (ks.map lotD) = (sortI ks).map lotD
  | [], _ => rfl
  | k :: ks, h => by
    rw [List.nodup_cons] at h
    have ih := sortD_lots h.2
    unfold sortD at ih ⊢
    simp only [List.map_cons, PySem.W.sortBy, sortI]
    rw [ih]
    exact insBy_lot fun z => h.1 (sortI_mem.mp z)
theorem lots_ok : ∀ (ks : List (List Int)), okL 20 (ks.map lotD) = true ∧ (ks.map lotD).all isLotD = true ∧ (ks.map lotD).all isTupD = true ∧ immL (ks.map lotD) = true
  | [] => ⟨rfl, rfl, rfl, rfl⟩
  | k :: ks => by
    obtain ⟨h1, h2, h3, h4⟩ := lots_ok ks
    have a1 : ∀ k : List Int, okL 19 (k.map D.int) = true := by
      intro k; induction k with
      | nil => rfl
      | cons x xs ih => simp only [List.map_cons, okL, okD, ih, Bool.and_self]
    have a2 : ∀ k : List Int, (k.map D.int).all isIntD = true := by
      intro k; induction k with
      | nil => rfl
      | cons x xs ih => simp only [List.map_cons, List.all_cons, isIntD, ih, Bool.and_self]
    have a3 : ∀ k : List Int, immL (k.map D.int) = true := by
      intro k; induction k with
      | nil => rfl
      | cons x xs ih => simp only [List.map_cons, immL, imm, ih, Bool.and_self]
    refine ⟨?_, ?_, ?_, ?_⟩
    · simp only [List.map_cons, okL, lotD, okD, a1 k, Bool.true_and]; exact h1
    · simp only [List.map_cons, List.all_cons, lotD, isLotD, a2 k, Bool.true_and]; exact h2
    · simp only [List.map_cons, List.all_cons, lotD, isTupD, Bool.true_and]; exact h3
    · simp only [List.map_cons, immL, lotD, imm, a3 k, Bool.true_and]; exact h4
/-- a permutation of images is the image of a permutation -/
theorem perm_img {α β : Type} {f : α → β} {vs us : List β} (h : vs.Perm us) : ∀ {L : List α}, us = L.map f → ∃ L1 : List α, L1.Perm L ∧ vs = L1.map f := by
  induction h with
  | nil =>
    intro L e
    exact ⟨L, List.Perm.refl _, e⟩
  | cons x _ ih =>
    intro L e
    cases L with
    | nil => cases e
    | cons a L =>
      simp only [List.map_cons, List.cons.injEq] at e
      obtain ⟨L1, h1, h2⟩ := ih e.2
      exact ⟨a :: L1, h1.cons a, by rw [List.map_cons, e.1, h2]⟩
  | swap x y l =>
    intro L e
    match L, e with
    | a :: b :: L, e =>
      simp only [List.map_cons, List.cons.injEq] at e
      exact ⟨b :: a :: L, List.Perm.swap a b L, by rw [List.map_cons, List.map_cons, e.1, e.2.1, e.2.2]⟩
  | trans _ _ ih1 ih2 =>
    intro L e
    obtain ⟨L2, h1, h2⟩ := ih2 e
    obtain ⟨L1, h3, h4⟩ := ih1 h2
    exact ⟨L1, h3.trans h1, h4⟩
end TL
namespace L2
open PySem PySem.Spec PyProof.Rows TL
section
variable {P : Program} {w : PySem.World} {A : Around} {E : Value → Shared → Prop} {s : Shared}
/-- sorted(set), the set's tuples of any lengths -/
theorem sorted_setG {a : Addr} {L : List (Addr × List Int)} {es : Array (Int × Value)} {ep : Nat} {t : SetTable} {Q : Value → Shared → Prop} (R : SetTR P w s.heap a L es ep t) (hh : A.handled = none) (hu : A.units + 40 < cLine)
    (hR : ∀ q ∈ L, ∃ as, Reads s.heap (.ref q.1) (pdT (lotD q.2)) as)
    (hQ : ∀ s' p (out : Array Value) (c : Nat) (L' : List (Addr × List Int)), (∀ b o, s.heap.get? b = some o → s'.heap.get? b = some o) → s'.gens = s.gens → s'.os = s.os → s.heap.objs.size ≤ p →
      s'.heap.get? p = some (seqObj "list" out c) → out.toList = L'.map (fun q => Value.ref q.1) → L'.map (·.2) = sortI (L.map (·.2)) → (∀ q ∈ L', q ∈ L) → L'.length < 64 → Q (.ref p) s') :
    wpAny (model P w) A (call (.builtin "sorted") [.ref a]) Q E s := by
  obtain ⟨o, ho, hex, hd⟩ := R.ob
  have hsz := R.size
  have hfew := R.few
  refine Calls.call_function_entry kind_sorted plain_sorted entry_sorted (args_sorted1 _) ?_
  unfold Builtin.«sorted»
  refine wpAny_bind (m := checkCount "sorted" 1 1 _) (wpAny_pure ?_)
  refine wpAny_bind (collect_set (A := A.in1) hh ⟨o, ho, hex.1, hd⟩ R.fits (by unfold scanBound; omega) R.tab.ris R.led fun s1 vs k1 hz g1 o1 pm => ?_)
  have hes : es.toList.map (·.2) = L.map fun q => Value.ref q.1 := by
    rw [R.rows]
    unfold rowsOf
    rw [List.map_map] <;> rfl
  rw [hes] at pm
  have hvl : vs.length < 64 := by rw [pm.length_eq, List.length_map]; exact hfew
  obtain ⟨L1, pL1, ev⟩ := perm_img pm rfl
  have hs1 : ∀ q ∈ L1, q ∈ L := fun q hq => pL1.mem_iff.mp hq
  have hsl : sizeLine = 16777216 := sizeLine_eq
  refine wpAny_bind (wpAny_newList ?_ (by omega))
  let h1 := s1.heap.push (seqObj "list" vs.toArray 0)
  have hoL : h1.get? s1.heap.objs.size = some (seqObj "list" vs.toArray 0) := Heap.get?_push_size _ rfl
  have nd1 : (L1.map (·.2)).Nodup := (pL1.map (·.2)).nodup_iff.mpr R.nd
  obtain ⟨ok, al0, tu, _⟩ := lots_ok (L1.map (·.2))
  have al : alAll ((L1.map (·.2)).map lotD) = true := by unfold alAll; rw [al0]; simp
  have so : sortable ((L1.map (·.2)).map lotD) = true := by unfold sortable; rw [tu]; rfl
  have each : ∀ L1 : List (Addr × List Int), (∀ q ∈ L1, q ∈ L) → PySem.W.EachIs (fun u d => ∃ q ∈ L, u = Value.ref q.1 ∧ d = lotD q.2) (L1.map fun q => Value.ref q.1) ((L1.map (·.2)).map lotD) := by
    intro L1
    induction L1 with
    | nil => intro _; exact .nil
    | cons q L1 ih => intro h; exact .cons ⟨q, h q List.mem_cons_self, rfl, rfl⟩ (ih fun r hr => h r (List.mem_cons_of_mem _ hr))
  have e1 := each L1 hs1
  rw [← ev] at e1
  have keep1 : ∀ b u, s.heap.get? b = some u → h1.get? b = some u := fun b u e => Heap.get?_push_of_some _ (k1 b u e)
  have keepS : ∀ b u, s.heap.get? b = some u → (PySem.W.sortingHeap h1 s1.heap.objs.size vs).get? b = some u := fun b u e => PySem.W.sortingHeap_old (Nat.ne_of_lt (Heap.lt_size (k1 b u e))) (keep1 b u e)
  have e2 : PySem.W.EachIs (fun u d => ∃ as, Reads (PySem.W.sortingHeap h1 s1.heap.objs.size vs) u (pdT d) as) vs ((L1.map (·.2)).map lotD) := e1.mono fun u d ⟨q, hq, eu, ed⟩ => by
    obtain ⟨as, r⟩ := hR q hq
    rw [eu, ed]
    exact ⟨as, Reads.keeps keepS r⟩
  have e3 := PySem.W.each_map (R := fun u d => ∃ as, Reads (PySem.W.sortingHeap h1 s1.heap.objs.size vs) u d as) pdT e2
  have hal : PySem.W.AllAlike (((L1.map (·.2)).map lotD).map pdT) := by
    intro d hd d' hd'
    obtain ⟨x, hx, rfl⟩ := List.mem_map.mp hd
    obtain ⟨y, hy, rfl⟩ := List.mem_map.mp hd'
    exact pd_al _ _ (alAll_of al x hx y hy)
  have hu2 : ∀ d, d ∈ ((L1.map (·.2)).map lotD).map pdT → A.in1.in1.units + d.depth < cLine := by
    intro d hd
    obtain ⟨x, hx, rfl⟩ := List.mem_map.mp hd
    have h1 := (pd_can 20 x (okL_mem ok x hx)).2
    show A.units + 1 + 1 + _ < _
    omega
  have S : PySem.W.SortsAt P w A.in1.in1 { s1 with heap := PySem.W.sortingHeap h1 s1.heap.objs.size vs } (PySem.W.dataKind (PySem.W.sortingHeap h1 s1.heap.objs.size vs) (((L1.map (·.2)).map lotD).map pdT)) vs := by
    rcases sortable_of so with q | ⟨q1, q2⟩
    · exact PySem.W.SortsAt.data (s := { s1 with heap := PySem.W.sortingHeap h1 s1.heap.objs.size vs }) e3 hal q hu2
    · exact PySem.W.SortsAt.tups0 (s := { s1 with heap := PySem.W.sortingHeap h1 s1.heap.objs.size vs }) e3 hal q1 q2 hu2
  have out := PySem.W.sortVals_data false e1 e2 hal
  rw [sortD_eq ok al so, sortD_lots nd1] at out
  have same : sortI (L1.map (·.2)) = sortI (L.map (·.2)) := pw_eq (sortI_pw _) (sortI_pw _) fun x => by rw [sortI_mem, sortI_mem]; exact (pL1.map (·.2)).mem_iff
  rw [same] at out
  have pick : ∀ (us : List Value) (ks : List (List Int)), PySem.W.EachIs (fun u d => ∃ q ∈ L, u = Value.ref q.1 ∧ d = lotD q.2) us (ks.map lotD) → ∃ L' : List (Addr × List Int), us = L'.map (fun q => Value.ref q.1) ∧ L'.map (·.2) = ks ∧ ∀ q ∈ L', q ∈ L := by
    intro us ks
    induction ks generalizing us with
    | nil => intro h; cases h; exact ⟨[], rfl, rfl, fun q hq => (by cases hq)⟩
    | cons k ks ih =>
      intro h
      cases h with
      | cons f t =>
        obtain ⟨q, hq, eu, ed⟩ := f
        obtain ⟨L', e4, e5, e6⟩ := ih _ t
        refine ⟨q :: L', by rw [List.map_cons, eu, e4], by rw [List.map_cons, e5, lotD_inj ed], fun r hr => ?_⟩
        rcases List.mem_cons.mp hr with z | z
        · rw [z]; exact hq
        · exact e6 r z
  obtain ⟨L', e4, e5, e6⟩ := pick _ _ out
  have hlen : (PySem.W.sortVals (PySem.W.dataKind (PySem.W.sortingHeap h1 s1.heap.objs.size vs) (((L1.map (·.2)).map lotD).map pdT)) false vs vs).length = vs.length := PySem.W.sortVals_length false rfl
  obtain ⟨c, hc⟩ := sortedHeap_at (vs := vs) (out := (PySem.W.sortVals (PySem.W.dataKind (PySem.W.sortingHeap h1 s1.heap.objs.size vs) (((L1.map (·.2)).map lotD).map pdT)) false vs vs).toArray) hoL
  have fin : Q (.ref s1.heap.objs.size) { s1 with heap := sortedHeap h1 s1.heap.objs.size vs (PySem.W.sortVals (PySem.W.dataKind (PySem.W.sortingHeap h1 s1.heap.objs.size vs) (((L1.map (·.2)).map lotD).map pdT)) false vs vs).toArray } := by
    refine hQ _ s1.heap.objs.size _ c L' (fun b u e => ?_) g1 o1 hz hc (by simpa using e4) e5 e6 (by
      have : L'.length = vs.length := by
        have := congrArg List.length e4
        rw [hlen, List.length_map] at this
        omega
      omega)
    have q := k1 b u e
    have hlt := Heap.lt_size q
    show (sortedHeap h1 s1.heap.objs.size vs _).get? b = some u
    rw [sortedHeap_old (Nat.ne_of_lt hlt) (by show b < (s1.heap.push _).objs.size; rw [size_push']; exact Nat.lt_succ_of_lt hlt)]
    exact Heap.get?_push_of_some _ q
  refine wpAny_bind (wpAny_holding (wpAny_call_entry_kw slot_list_sort ⟨_, hoL, rfl⟩ entry_list_sort ?body (args_list_sort _)))
  case body =>
    show wpAny (model P w) A.in1.in1 (Builtin.«list.sort» ⟨[.ref s1.heap.objs.size], []⟩) _ _ _
    refine wpAny_mono (PySem.W.list_sort_vals (P := fun f s' => f = .done (.ret .none) ∧ Q (.ref s1.heap.objs.size) s') (E := fun _ _ => False) (s := { s1 with heap := h1 }) hoL S (by omega) ⟨rfl, fin⟩) (fun f s' hf => ?_) fun _ _ e => e.elim
    obtain ⟨rfl, hq⟩ := hf
    exact ⟨_, rfl, wpAny_pure ⟨_, rfl, hq⟩⟩
end
end L2
end
section
set_option maxRecDepth 100000
/-! The tree layer, part AD: set(t), t a tuple of tuples of ints (modelled on the library's rule for a list). -/
namespace L2
open PySem PySem.Spec PyProof.Rows PyProof
section
variable {P : Program} {w : PySem.World} {A : Around} {E : Value → Shared → Prop} {s : Shared}
abbrev freshSet (w : PySem.World) : Obj := { cls := .type "set", dict := none, data := .set #[] 0 (.fresh 0 0 (!w.params.followText "set-order")) }
set_option maxHeartbeats 3200000 in
theorem set_of_tuple {l : Addr} {items : Array Value} (ks : List (Addr × List Int)) {Q : Value → Shared → Prop} (hA : A.handled = none) (tup : s.heap.IsTuple l items) (same : items.toList = ks.map fun p => Value.ref p.1)
    (each : ∀ p ∈ ks, IsT P w s.heap p.2 p.1) (few : ks.length < 64) (room : A.units + 3 < cLine)
    (go : ∀ (h' : Heap) (tk : Nat) L es ep t, SetTR P w h' s.heap.objs.size L es ep t → Got ks ks.length L → (∀ b o, s.heap.get? b = some o → h'.get? b = some o) → Q (.ref s.heap.objs.size) { s with heap := h', toks := tk }) :
    wpAny (model P w) A (call (.type "set") [.ref l]) Q E s := by
  have sizes : items.size = ks.length := by simpa using congrArg List.length same
  obtain ⟨c, tl, hmro⟩ := F.called_set.mro
  have hmade := F.called_set.made
  have hsub := F.called_set.sub
  refine wpAny_call (codeAny_of_tree ?_)
  show wpAny _ _ (callAny (.type "set") _) _ _ _
  refine wpAny_pure ⟨Code.quiet_builtin _ (by decide +kernel), codeAny_builtin F.entry_type_call ?_⟩
  rw [Around.under_plain (weight_type_call_type "set" [.ref l] []) rfl]
  have h1 := F.called_set.notType
  have h2 := F.called_set.canCreate
  have hct := F.typeCall_set_1 (.ref l)
  repeat (any_goals (first | assumption | wp_step))
  refine codeAny_mono (code_set_led1 (.ref l) (E := E) (Q₁ := fun obj s₁ => obj = .ref s.heap.objs.size ∧ s₁ = { s with heap := s.heap.push (freshSet w) }) ⟨rfl, rfl⟩) fun r s₁ hr => ?_
  cases r with
  | error e => exact hr
  | ok fl =>
    cases fl with
    | ret obj =>
      obtain ⟨rfl, rfl⟩ := hr
      have hS : (s.heap.push (freshSet w)).get? s.heap.objs.size = some (freshSet w) := Heap.get?_push_size _ rfl
      have hT : Shared.TypeIs { s with heap := s.heap.push (freshSet w) } (.ref s.heap.objs.size) "set" := ⟨_, hS, rfl⟩
      have hli := F.called_set.init.lookup
      have hbi := F.called_set.init.bind (.ref s.heap.objs.size)
      repeat (any_goals (first | assumption | wp_step))
      refine codeAny_mono (codeAny_call_builtin (R := wants (fun r s₂ => r = .none ∧ ∃ h' tk L es ep t, s₂ = { s with heap := h', toks := tk } ∧ SetTR P w h' s.heap.objs.size L es ep t ∧ Got ks ks.length L ∧
          (∀ b o, s.heap.get? b = some o → h'.get? b = some o)) E) F.called_set.init.plain F.entry_set_init (check_set_init_1 hT ?_)) fun r₂ s₂ hr₂ => ?_
      · obtain ⟨⟨ocls, odict, odata, oslots⟩, there, isT, nl, dat⟩ := tup
        simp only at isT dat
        subst isT; subst dat
        have there' := Heap.get?_push_of_some (freshSet w) there
        have hsls := F.sub_tuple_set
        have hslf := F.sub_tuple_frozenset
        have hne : (Value.type "tuple" == Value.type "dict") = false := by decide
        have tup' : (s.heap.push (freshSet w)).IsTuple l items := ⟨_, there', rfl, nl, rfl⟩
        unfold Builtin.«set.__init__» noKeywords Builtin.Frozenset.updateFrom
        generalize hPI : pyIter = PI
        wp_walk
        subst hPI
        refine wpAny_pyIter_tuple tup' ?_
        refine wpAny_bind (wpAny_runValue ?_)
        have below : l < s.heap.objs.size := Heap.lt_size there
        have size1 : (s.heap.push (freshSet w)).objs.size = s.heap.objs.size + 1 := Heap.size_push ..
        have none3 : A.in1.in1.in1.handled = none := by simp [hA]
        have apart : l ≠ (s.heap.push (freshSet w)).objs.size := by rw [size1]; exact Nat.ne_of_lt (Nat.lt_succ_of_lt below)
        have notIt : s.heap.objs.size ∉ [(s.heap.push (freshSet w)).objs.size, l] := by
          simp only [List.mem_cons, List.not_mem_nil, or_false, not_or]
          rw [size1]
          exact ⟨Nat.ne_of_lt (Nat.lt_succ_self _), Nat.ne_of_gt below⟩
        have which : ∀ (i : Nat) (v : Value), items[i]? = some v → ∃ p, ks[i]? = some p ∧ v = .ref p.1 := fun i v hv => by
          have q : (ks.map fun p => Value.ref p.1)[i]? = some v := by rw [← same, Array.getElem?_toList]; exact hv
          rw [List.getElem?_map, Option.map_eq_some_iff] at q
          obtain ⟨p, hp, e⟩ := q
          exact ⟨p, hp, e.symm⟩
        have free : ∀ b, s.heap.objs.size ≤ b → s.heap.get? b = none := fun b hb => Classical.byContradiction fun z => by
          obtain ⟨o, ho⟩ := Option.ne_none_iff_exists'.mp z
          exact absurd (Nat.lt_of_lt_of_le (Heap.lt_size ho) hb) (Nat.lt_irrefl _)
        refine set_update_tups ((Walks.tuple none3 _ l apart items).toS) s.heap.objs.size notIt ks sizes few which s.heap each (free _ (Nat.le_refl _)) (fun b hb => free b (by rw [List.mem_singleton.mp hb, size1]; exact Nat.le_succ _)) room (items.size - 0) 0 _ (by omega) (Nat.zero_le _)
          ⟨⟨_, Heap.get?_push_size _ rfl, rfl, rfl⟩, tup'.push _⟩ (fun b o e => Heap.get?_push_of_some _ (Heap.get?_push_of_some _ e)) ?start ?final
        case start => exact ⟨[], #[], 0, _, setTR_fresh (Heap.get?_push_of_some _ hS), Got.zero ks⟩
        case final =>
          intro s' L es ep t moved R got kept
          obtain ⟨h', g2, d', tk', os'⟩ := s'
          obtain rfl : g2 = s.gens := moved.gens
          obtain rfl : d' = s.drawn := moved.drawn
          obtain rfl : os' = s.os := moved.os
          rw [sizes] at got
          exact wpAny_pure (wpAny_pure ⟨rfl, h', tk', L, es, ep, t, rfl, R, got, kept⟩)
      · cases r₂ with
        | error e => exact hr₂
        | ok fl₂ =>
          cases fl₂ with
          | ret r =>
            obtain ⟨rfl, h', tk, L, es, ep, t, rfl, hS', g', hk'⟩ := hr₂
            repeat (any_goals (first | assumption | wp_step))
            exact go h' tk L es ep t hS' g' hk'
          | next => exact hr₂.elim
          | brk => exact hr₂.elim
          | cont => exact hr₂.elim
    | next => exact hr.elim
    | brk => exact hr.elim
    | cont => exact hr.elim
end
end L2
end
section
set_option maxRecDepth 100000
/-! The tree layer, part AE: the rule for sorted(set(xs)). -/
namespace TL
open PySem PySem.Spec PyProof.Rows L2
section
variable {X : Cx} {G : Gen} {ro fx : Nat → Bool} {w : Wd} {a : Expr} {f : Ev} {p p2 q pos : Pos}
/-- set(xs), xs a list or a tuple of tuples of ints -/
def rSetX (X : Cx) : List V → Hp → VK → Prop := fun xs H Q => ∃ (l : Addr) (ks : List (Addr × List Int)), xs = [V.ref l] ∧ (SqL X.K H l (ks.map fun p => V.ref p.1) ∨ SqT X.K H l (ks.map fun p => V.ref p.1)) ∧ (∀ p ∈ ks, SqT X.K H p.1 (p.2.map V.int)) ∧ ks.length < 64 ∧
  ∀ a L, H a = none → (∀ p ∈ L, p ∈ ks) → (∀ p ∈ ks, p.2 ∈ L.map (·.2)) → Q (.ref a) (upd H a (SetTO X.prog X.w a L))
theorem cr_setX (F : Fit X G) : CallR X (.type "set") (rSetX X) := by
  intro pins s σ H xs us Q I r ⟨l, ks, e1, hl, hk, hf, k⟩
  subst e1
  have hu := F.units
  rcases hl with hl | hl
  · exact cr_setOfT F.calm (by omega) pins s σ H _ us Q I r ⟨l, ks, rfl, hl, hk, hf, k⟩
  · rw [Vals.ref1 r]
    obtain ⟨its, rv, pl, hz⟩ := I.tuple hl
    have hn : H s.heap.objs.size = none := I.hok.fresh (Nat.le_refl _)
    refine set_of_tuple (P := X.prog) (w := X.w) ks (I.ok.hd F.calm) (show s.heap.IsTuple l its.toArray from pl) (by simpa using refs_of_vals rv) (fun p hp => Inv.isT I (hk p hp)) hf (by omega) fun h' tk L es ep t R g kp => ?_
    refine ⟨.ref s.heap.objs.size, upd H s.heap.objs.size (SetTO X.prog X.w s.heap.objs.size L), I.laid (t' := tk) kp (Nat.le_refl _) (setTO_new R.t0), rfl, k _ L hn (fun p hp => List.mem_of_mem_take (g.sub p hp)) fun p hp => g.all p (by rw [List.take_length]; exact hp)⟩
theorem c_sortedSet (F : Fit X G) : CallR X (.builtin "sorted") (fun vs H Q => ∃ w a L, w.h = H ∧ World G w ∧ vs = [V.ref a] ∧ H a = some (SetTO X.prog X.w a L) ∧ (∀ p ∈ L, SqT G.K w.h p.1 (p.2.map V.int)) ∧ Done G w (.lst true ((sortI (L.map (·.2))).map lotD)) Q) := by
  intro pins s σ H vs us Q I r ⟨w, a, L, e0, W, e1, ha, hk, k⟩
  subst e0; subst e1
  rw [Vals.ref1 r]
  have hu := F.units
  have hk' : ∀ p ∈ L, SqT X.K w.h p.1 (p.2.map V.int) := fun p hp => by rw [F.K]; exact hk p hp
  have R0 : SetT0 X.prog X.w s.heap a L := (I.hok a _ ha).1
  obtain ⟨es, ep, t, R⟩ := R0.full fun p hp => Inv.isT I (hk' p hp)
  have rep : ∀ q ∈ L, Rep G w (lotD q.2) (.ref q.1) Fp.zero := fun q hq => by
    unfold lotD
    simp only [Rep]
    exact ⟨q.1, _, rfl, hk q hq, RepL.ints q.2⟩
  refine sorted_setG R (I.ok.hd F.calm) (by omega) (fun q hq => ?_) fun s' p out c L' kp g o hp hg hout hs hin hfew => ?_
  · have ok : okD 20 (lotD q.2) = true := by
      have := (lots_ok [q.2]).1
      simp only [List.map_cons, List.map_nil, okL, Bool.and_true] at this
      exact this
    exact Dp.reads I (pdT (lotD q.2)) (.ref q.1) (.ref q.1) (by rw [F.K]; exact Rep.dp 20 _ _ _ ok (rep q hq)) rfl
  · have hlen : (L'.map fun q => V.ref q.1).length ≤ sizeLine := by rw [List.length_map, sizeLine_eq]; omega
    have hn : w.h p = none := I.hok.fresh hp
    have hv : Vals (L'.map fun q => V.ref q.1) out.toList := by rw [hout]; exact vals_of_refs L'
    have J : Inv X pins σ (upd w.h p (.lst (L'.map fun q => V.ref q.1))) { s with heap := s'.heap, gens := s'.gens, drawn := s'.drawn, toks := s'.toks } :=
      I.call (ch := []) (Un.laid kp hp hn) (I.hok.laid kp hp ⟨hlen, out.toList, c, hv, hg⟩) (by rw [g]; exact I.bare) (fun _ z => nomatch z)
    have e : s' = { s with heap := s'.heap, gens := s'.gens, drawn := s'.drawn, toks := s'.toks } := by
      cases s'; cases s; cases o; rfl
    rw [e]
    refine ⟨.ref p, _, J, rfl, Done.lst k W hn ?_ (HOk.bd J.hok)⟩
    rw [← hs]
    have gen : ∀ L' : List (Addr × List Int), (∀ q ∈ L', q ∈ L) → RepL G w ((L'.map (·.2)).map lotD) (L'.map fun q => V.ref q.1) Fp.zero := by
      intro L'
      induction L' with
      | nil => intro _; exact RepL.nil
      | cons q L' ih =>
        intro h
        simp only [List.map_cons, RepL]
        exact ⟨_, _, Fp.zero, Fp.zero, rfl, rep q (h q List.mem_cons_self), ih fun r hr => h r (List.mem_cons_of_mem _ hr), by simp⟩
    exact gen L' hin
/-- lots as they stand -/
theorem lots_rep (F : Fit X G) : ∀ {ds : List D} {ks : List (List Int)} {vs : List V} {m : Fp}, lotsI ds = some ks → RepL G w ds vs m → ∃ ps : List (Addr × List Int), vs = ps.map (fun p => V.ref p.1) ∧ ps.map (·.2) = ks ∧ ∀ p ∈ ps, SqT G.K w.h p.1 (p.2.map V.int)
  | [], ks, vs, m, h, r => by
    cases h
    simp only [RepL] at r
    exact ⟨[], r.1, rfl, fun p hp => by simp at hp⟩
  | d :: ds, ks, vs, m, h, r => by
    simp only [lotsI] at h
    split at h
    · rename_i k ks' h1 h2
      cases h
      simp only [RepL] at r
      obtain ⟨v, vs', m1, m2, rfl, r1, r2, rfl⟩ := r
      obtain ⟨ps, e1, e2, e3⟩ := lots_rep F h2 r2
      cases d <;> simp only [lotI] at h1 <;> try cases h1
      simp only [Rep] at r1
      obtain ⟨a, us, rfl, q1, q2⟩ := r1
      have eu := intL_rep h1 q2
      subst eu
      refine ⟨(a, k) :: ps, by rw [e1]; rfl, by rw [← e2]; rfl, fun p hp => ?_⟩
      rcases List.mem_cons.mp hp with e | hp
      · subst e; exact q1
      · exact e3 p hp
    · cases h
def dSortSet2 : D → Option D := fun d => match seqOf d with
  | some xs => match lotsI xs with
    | some ks => if decide (ks.length < 64) = true then some (.lst true ((sortI ks).map lotD)) else none
    | none => none
  | none => none
def dLenSet2 : D → Option D := fun d => match seqOf d with
  | some xs => match lotsI xs with
    | some ks => if decide (ks.length < 64) = true then some (.int (sortI ks).length) else none
    | none => none
  | none => none
theorem Rep.seq (F : Fit X G) {d : D} {xs : List D} {v : V} {m : Fp} (h : seqOf d = some xs) (r : Rep G w d v m) : ∃ a vs m', v = .ref a ∧ (SqL X.K w.h a vs ∨ SqT X.K w.h a vs) ∧ RepL G w xs vs m' := by
  cases d <;> simp only [seqOf, Option.some.injEq] at h <;> try cases h
  · simp only [Rep] at r
    obtain ⟨a, vs, rfl, h1, h2⟩ := r
    exact ⟨a, vs, m, rfl, .inr (by rw [F.K]; exact h1), h2⟩
  · simp only [Rep] at r
    obtain ⟨a, vs, m', rfl, h1, h2, rfl⟩ := r
    exact ⟨a, vs, m', rfl, .inl (SqL.of h1.1), h2⟩
theorem r_sortedSet (F : Fit X G) (hg : Gl X "sorted") (hm : X.mg "sorted" = none) (hg2 : Gl X "set") (hm2 : X.mg "set" = none) (ha : PE X a (tB G ro f))
    (hv : bootBuiltins "sorted" = some (.builtin "sorted") := by rfl) (hv2 : bootBuiltins "set" = some (.type "set") := by rfl)
    (he : starEach [.Call (.Name "set" p2) [a] [] q] X.env = (false, eval (.Call (.Name "set" p2) [a] [] q) X.env) :: starEach [] X.env := by rfl) (he2 : starEach [a] X.env = (false, eval a X.env) :: starEach [] X.env := by rfl)
    (hpl : (backTo pos (starEach [] X.env)).any (·.1) = false := by rfl) (hpl2 : (backTo q (starEach [] X.env)).any (·.1) = false := by rfl) :
    PE X (.Call (.Name "sorted" p) [.Call (.Name "set" p2) [a] [] q] [] pos) (tP G ro (p1 dSortSet2 f)) :=
  PE.weak (pe_callB (c_sortedSet (G := G) F) hg hm hv (pa_cons (pe_callTy (cr_setX F) hg2 hm2 hv2 (pa_cons ha pa_nil he2) (by decide) (by decide) he2 hpl2) pa_nil he) (by decide) (by decide) he hpl) fun σ H Q ⟨R, w, e, m, d, e0, S, hf, k⟩ => by
    unfold p1 at hf
    split at hf
    · rename_i d0 hd0
      unfold dSortSet2 at hf
      split at hf
      · rename_i xs hs
        split at hf
        · rename_i ks hks
          split at hf
          · rename_i hl
            cases hf
            refine ⟨R, w, e, m, d0, e0, S, hd0, fun v w1 mb S1 r1 o1 x1 => ?_⟩
            obtain ⟨l, vs, m', rfl, hq, rl⟩ := Rep.seq F hs r1
            obtain ⟨ps, rfl, e2, e3⟩ := lots_rep F hks rl
            have hl' := of_decide_eq_true hl
            refine ⟨l, ps, rfl, hq, fun p hp => by rw [F.K]; exact e3 p hp, by rw [← e2, List.length_map] at hl'; exact hl', fun a L hn hin hall => ?_⟩
            have x2 : Ext Fp.zero w1 (w1.new a (SetTO X.prog X.w a L)) Fp.zero := Ext.new hn fun b q => absurd rfl q
            have W2 : World G (w1.new a (SetTO X.prog X.w a L)) := S1.world.new hn (Nat.zero_le _)
            have S2 := S1.step x2 W2 Own.zero
            refine ⟨w1.new a (SetTO X.prog X.w a L), a, L, rfl, W2, rfl, upd_same, fun p hp => SqT.ext x2 (e3 p (hin p hp)), fun v w' md W' r o x => ?_⟩
            have same : sortI (L.map (·.2)) = sortI ks := pw_eq (sortI_pw _) (sortI_pw _) fun z => by
              rw [sortI_mem, sortI_mem, ← e2]
              constructor
              · intro h
                obtain ⟨p, hp, rfl⟩ := List.mem_map.mp h
                exact List.mem_map.mpr ⟨p, hin p hp, rfl⟩
              · intro h
                obtain ⟨p, hp, rfl⟩ := List.mem_map.mp h
                exact hall p hp
            rw [same] at r
            exact k v w' md (S2.step x W' o) r ((x1.trans x2).trans x)
          · cases hf
        · cases hf
      · cases hf
    · cases hf
end
end TL
end
section
set_option maxRecDepth 100000
/-! The tree layer, part AF: targets o.f among several. -/
namespace TL
open PySem PySem.Spec PyProof.Rows L2
section
variable {X : Cx} {G : Gen} {ro fx : Nat → Bool} {w : Wd} {o : Expr} {f x : Str} {p pos : Pos} {ta : TE}
def gFldV (K : PySem.W.Frag) (ta : TE) (f : Str) : TG := fun v σ H Q => ta σ H fun x H2 => ∃ a C dx fs, x = .ref a ∧ H2 a = some (.ins C dx fs) ∧ Cls K C ∧ NoAttr K C f ∧ fs.length < 1000 ∧ Q σ (upd H2 a (.ins C dx (putF f v fs)))
theorem pg_fld (ho : PE X o ta) : PG X (.Attribute o f pos) (gFldV X.K ta f) := by
  refine ⟨fun pins s σ H v u Q I r h => ?_⟩
  rw [assign_Attribute]
  refine wpAny_bind (wpAny_holding (thn (ho.run pins s σ H _ I h) fun ov s1 ⟨z, H1, I1, r1, a, C, dx, fs, ez, ea, c, n, l, q⟩ => ?_))
  subst ez
  obtain rfl : ov = Value.ref a := r1
  exact wpAny_bind (wpAny_standAt (wpAny_bind (wpAny_holding (setattr_ok I1 ea c n l r fun s3 I3 => wpAny_release ⟨σ, _, I3, q⟩))))
/-- one field stored -/
theorem fld_step {i c j : Nat} (cf : ClsF X.K G c) (hx : (G.flds c)[j]? = some f) (hr : ro i = false) {R : List RoE} {w1 : Wd} {e1 : List D} {σ : L2.St} {m1 md : Fp} {d oo o' : D} {y : V} {Q : L2.St → Hp → Prop} (S1 : SK G ro R w1 e1 σ m1 md) (r1 : Rep G w1 d y md) (hs1 : slot e1 i = some oo) (hset : setFd c j d oo = some o')
    (k : ∀ w' m'', SK G ro R w' (e1.set i o') σ m'' Fp.zero → Ext (Fp.add m1 md) w1 w' m'' → Q σ w'.h) : gFldV X.K (tVar i) f y σ w1.h Q := by
  obtain ⟨vc, mc, m2, h1, rc, rfl, kk⟩ := (place_slot (G := G) i hr).ok S1 hs1
  refine h1 _ ?_
  unfold setFd at hset
  split at hset
  · rename_i c' ds
    split at hset
    · rename_i hc
      have ec : c' = c := by simpa using hc
      subst ec
      have rc0 := rc
      simp only [Rep] at rc
      obtain ⟨a, dx, vs, m', rfl, g1, g2, g3, rfl⟩ := rc
      have lv := g3.len
      have om : Own w1 (Fp.add (fl true a m') md) := S1.own.le fun b => by simp <;> omega
      have jl : j ≤ vs.length := by
        split at hset
        · omega
        · split at hset
          · rename_i q; have : j = ds.length := by simpa using q
            omega
          · cases hset
      have jf : j < (G.flds c').length := (List.getElem?_eq_some_iff.mp hx).1
      have hz : ((G.flds c').zip vs).length < 1000 := by
        have := cf.le
        have e : ((G.flds c').zip vs).length = vs.length := by rw [List.length_zip]; omega
        omega
      refine ⟨a, _, dx, _, rfl, g1.1, cf.cl, cf.no f (List.mem_of_getElem? hx), hz, ?_⟩
      rw [putF_zip cf.nd hx g2 jl]
      obtain ⟨W', X', OK, RL, RD⟩ := Rep.rewrite (o := .ins (G.cls c') dx ((G.flds c').zip (if j < vs.length then vs.set j y else vs ++ [y]))) S1.world g1.1 rfl om (Nat.zero_le _)
      have gg := RL _ _ m' (fun b => by omega) g3
      have gd := RD _ _ md (fun b => by omega) r1
      have fin : ∃ (vs' : List V) (ds' : List D) (m3 : Fp), (if j < vs.length then vs.set j y else vs ++ [y]) = vs' ∧ o' = .ins true c' ds' ∧ vs'.length ≤ (G.flds c').length ∧ RepL G (w1.new a (.ins (G.cls c') dx ((G.flds c').zip (if j < vs.length then vs.set j y else vs ++ [y])))) ds' vs' m3 ∧ ∀ b, m3 b ≤ m' b + md b := by
        by_cases z : j < ds.length
        · rw [if_pos z] at hset
          cases hset
          rw [if_pos (by omega)] at gg gd ⊢
          obtain ⟨m3, q1, q2⟩ := gg.setAt (j := j) z gd
          exact ⟨_, _, m3, rfl, rfl, by rw [List.length_set]; exact g2, q1, q2⟩
        · rw [if_neg z] at hset
          split at hset
          · cases hset
            rw [if_neg (by omega)] at gg gd ⊢
            exact ⟨_, _, Fp.add m' md, rfl, rfl, by simp; omega, RepL.app gg (RepL.one gd), fun b => by simp⟩
          · cases hset
      obtain ⟨vs', ds', m3, e1, rfl, q0, q1, q2⟩ := fin
      rw [e1] at q1 W' X' OK ⊢
      have O' : Own (w1.new a (.ins (G.cls c') dx ((G.flds c').zip vs'))) (fl true a m3) := OK (om.le fun b => by have := q2 b; simp [fl] <;> omega)
      have x' : Ext (Fp.add (fl true a m') md) w1 (w1.new a (.ins (G.cls c') dx ((G.flds c').zip vs'))) (fl true a m3) := (X' _ (by simp [fl, Fp.one_same])).less fun b q => by have := q2 b; simp [fl] at * <;> omega
      obtain ⟨m'', S', l'⟩ := kk _ md Fp.zero Fp.zero (.ins true c' ds') (fl true a m3) (by rw [Fp.add_zero]) (by rw [Fp.add_zero]; exact x') W' (by rw [Fp.add_zero]; exact O') (by
        simp only [Rep]
        exact ⟨a, dx, vs', m3, rfl, ⟨upd_same, fun q => nomatch q⟩, q0, q1, rfl⟩) (fun b q => absurd rfl q)
      rw [Fp.add_zero] at S'
      have y' : Ext (Fp.add m2 (Fp.add (fl true a m') md)) w1 _ (Fp.add m2 (fl true a m3)) := x'.frame
      refine k _ m'' S' ((y'.more (k0 := Fp.add (Fp.add (fl true a m') m2) md) fun b q => by simp at *; omega).less fun b q => ?_)
      have := l' b; simp at *; omega
    · cases hset
  · cases hset
def putsF (c i : Nat) : List Nat → List D → List D → Option (List D)
  | [], [], e => some e
  | j :: js, d :: ds, e => match slot e i with
    | some o => match setFd c j d o with
      | some o' => putsF c i js ds (e.set i o')
      | none => none
    | none => none
  | _, _, _ => none
def gFs (K : PySem.W.Frag) (i : Nat) : List Str → TGs
  | [] => gNil
  | f :: fs => gCons (gFldV K (tVar i) f) (gFs K i fs)
theorem flds_ok {c i : Nat} (cf : ClsF X.K G c) (hr : ro i = false) {e' : List D} {Q : L2.St → Hp → Prop} : ∀ {js : List Nat} {fs : List Str} {R : List RoE} {w : Wd} {ds : List D} {vs : List V} {e : List D} {σ : L2.St} {m : Fp}, js.map (fun j => (G.flds c)[j]?) = fs.map some → SK G ro R w e σ m Fp.zero → RepL G w ds vs Fp.zero → putsF c i js ds e = some e' →
    (∀ w' m', SK G ro R w' e' σ m' Fp.zero → Ext m w w' m' → Q σ w'.h) → gFs X.K i fs vs σ w.h Q
  | [], [], R, w, ds, vs, e, σ, m, hj, S, r, hp, k => by
    cases ds with
    | nil =>
      cases hp
      simp only [RepL] at r
      obtain ⟨rfl, _⟩ := r
      exact ⟨rfl, k w m S (Ext.refl _ _)⟩
    | cons d ds => simp [putsF] at hp
  | [], f :: fs, R, w, ds, vs, e, σ, m, hj, S, r, hp, k => by simp at hj
  | j :: js, [], R, w, ds, vs, e, σ, m, hj, S, r, hp, k => by simp at hj
  | j :: js, f :: fs, R, w, ds, vs, e, σ, m, hj, S, r, hp, k => by
    cases ds with
    | nil => simp [putsF] at hp
    | cons d ds =>
      simp only [List.map_cons, List.cons.injEq] at hj
      simp only [putsF] at hp
      split at hp
      · rename_i oo hs
        split at hp
        · rename_i o' hset
          simp only [RepL] at r
          obtain ⟨v, vs', m1, m2, rfl, r1, r2, ez⟩ := r
          obtain ⟨rfl, rfl⟩ := Fp.eq_zero_of_add ez.symm
          refine ⟨v, vs', rfl, fld_step cf hj.1 hr S r1 hs hset fun w' m'' S' x' => ?_⟩
          rw [Fp.add_zero] at x'
          have r2' : RepL G w' ds vs' Fp.zero := RepL.ext x' S.world S.own.left _ _ _ Apart.zero Own.zero r2
          exact flds_ok cf hr hj.2 S' r2' hp fun w2 m2 S2 x2 => k w2 m2 S2 (x'.trans x2)
        · cases hp
      · cases hp
/-- (o.f, o.g, ..) = a tuple of things that own nothing -/
def gFT (c i : Nat) (js : List Nat) : EvG := fun d e => match d with
  | .tup ds => if immL ds = true then putsF c i js ds e else none
  | _ => none
theorem putsF_len {c i : Nat} : ∀ {js : List Nat} {ds e e' : List D}, putsF c i js ds e = some e' → ds.length = js.length
  | [], [], _, _, _ => rfl
  | [], d :: ds, _, _, h => by simp [putsF] at h
  | j :: js, [], _, _, h => by simp [putsF] at h
  | j :: js, d :: ds, e, e', h => by
    simp only [putsF] at h
    split at h
    · split at h
      · simp [putsF_len h]
      · cases h
    · cases h
theorem g_flds {es : List Expr} {k n c : Nat} (i : Nat) (js : List Nat) (fs : List Str) (F : Fit X G) (cf : ClsF X.K G c) (hj : js.map (fun j => (G.flds c)[j]?) = fs.map some) (hp : PGs X es (gFs X.K i fs)) (hn : n = js.length := by rfl) (hr : ro i = false := by rfl)
    (hn' : (assignEach es X.env).length = n := by rfl) (hst : (assignEach es X.env).findIdx? (·.1) = none := by rfl) : PG X (.Tuple es k pos) (tGt G ro fx (gFT c i js)) := PG.weak (pg_tup F.calm hp hn' hst) fun v σ H Q ⟨R, w, e, m, d, md, e', e0, S, r, hg, kk⟩ => by
  unfold gFT at hg
  split at hg
  · rename_i ds
    split at hg
    · rename_i hi
      subst e0
      simp only [Rep] at r
      obtain ⟨a, vs, rfl, ha, r2⟩ := r
      obtain ⟨r3, rfl⟩ := r2.immM hi
      exact ⟨a, vs, rfl, by rw [F.K]; exact ha, by rw [hn, ← r3.len, putsF_len hg], flds_ok cf hr hj S r3 hg fun w' m' S' x => kk w' σ m' S' (by rw [Fp.add_zero]; exact x) fun _ _ => rfl⟩
    · cases hg
  · cases hg
theorem gfs_nil (i : Nat) : PGs X [] (gFs X.K i []) := pgs_nil
theorem gfs_cons {es : List Expr} {fs : List Str} (i : Nat) (h2 : PGs X es (gFs X.K i fs)) (hN : X.N[i]? = some x := by rfl) (hv : Vis X.env.scope x := by first | exact Or.inl rfl | exact Or.inr (Or.inl rfl) | exact Or.inr (Or.inr rfl)) (hd : (x == ("__debug__" : Str)) = false := by decide) (hcd : (x == ("__classdict__" : Str)) = false := by decide)
    (hs : (assignEach (.Attribute (.Name x p) f pos :: es) X.env).map (·.2) = assign (.Attribute (.Name x p) f pos) X.env :: (assignEach es X.env).map (·.2) := by rfl) : PGs X (.Attribute (.Name x p) f pos :: es) (gFs X.K i (f :: fs)) := pgs_cons (pg_fld (pe_var (i := i) hN hv hd hcd)) h2 hs

/-! ### a family: the instance made, then frozen; its dict of kept answers set apart -/
def toFam (c : Nat) : D → Option D
  | .ins true c' ds => match ds with
    | [.int n, .tup ls, .dct true false [] []] => if (c' == c && immL ls) = true then some (.fam n ls) else none
    | _ => none
  | _ => none
def Wd.fam (w : Wd) (a b : Addr) (n : Int) (ls : List D) : Wd := ⟨w.h, fun c => w.z c ∨ c = a, fun c => if c = b then some (n, ls) else w.y c⟩
theorem Ext.fam {a b : Addr} {n : Int} {ls : List D} {k k' : Fp} (ha : k a ≠ 0) (hb : k b ≠ 0) (hbn : w.y b = none) (hk : ∀ c, k' c ≠ 0 → k c ≠ 0) : Ext k w (w.fam a b n ls) k' := by
  refine ⟨fun c o h _ _ => h, fun c vs h => h, fun c o u h => h, fun c h => h, fun c h => .inl h, fun c h => ?_, fun c f h => ?_, fun c h => ?_, fun c h => .inl (hk c h)⟩
  · rcases h with h | h
    · exact .inl h
    · exact .inr (.inl (by rw [h]; exact ha))
  · show (if c = b then some (n, ls) else w.y c) = some f
    by_cases q : c = b
    · subst q; rw [hbn] at h; cases h
    · rw [if_neg q]; exact h
  · by_cases q : c = b
    · exact .inr (.inl (by rw [q]; exact hb))
    · refine .inl ?_
      have h' : (if c = b then some (n, ls) else w.y c) ≠ none := h
      rwa [if_neg q] at h'
theorem World.fam {a b : Addr} {n : Int} {ls : List D} (W : World G w) (ha : w.h a ≠ none) (ya : w.y a = none) (hab : a ≠ b) (hb : w.h b = some (.dK [])) (yb : w.y b = none) (zb : ¬ w.z b) (za : ¬ w.z a) : World G (w.fam a b n ls) := by
  have O : Own w (Fp.add (Fp.one a) (Fp.one b)) := fun c => by
    by_cases q : c = a
    · subst q; exact ⟨by simp [Fp.one_same, Fp.one_ne hab], fun _ => ⟨za, ya⟩⟩
    · by_cases q2 : c = b
      · subst q2; exact ⟨by simp [Fp.one_same, Fp.one_ne q], fun _ => ⟨zb, yb⟩⟩
      · exact ⟨by simp [Fp.one_ne q, Fp.one_ne q2], fun z => absurd (by simp [Fp.one_ne q, Fp.one_ne q2]) z⟩
  have x : Ext (Fp.add (Fp.one a) (Fp.one b)) w (w.fam a b n ls) Fp.zero := Ext.fam (by simp [Fp.one_same]) (by simp [Fp.one_same]) yb fun c q => absurd rfl q
  refine ⟨W.len, fun c h => ?_, fun c n' ls' h => ?_⟩
  · rcases h with h | h
    · have hc := W.z c h
      refine ⟨hc.1, ?_⟩
      show (if c = b then some (n, ls) else w.y c) = none
      rw [if_neg fun (e : c = b) => zb (by rw [← e]; exact h)]; exact hc.2
    · subst h
      refine ⟨ha, ?_⟩
      show (if c = b then some (n, ls) else w.y c) = none
      rw [if_neg hab]; exact ya
  · have h' : (if c = b then some (n, ls) else w.y c) = some (n', ls') := h
    by_cases q : c = b
    · subst q
      exact ⟨[], hb, fun p hp => by simp at hp⟩
    · rw [if_neg q] at h'
      obtain ⟨kvs, h1, h2⟩ := W.y c n' ls' h'
      refine ⟨kvs, h1, fun p hp => ?_⟩
      obtain ⟨s, d, e1, e2, e3⟩ := h2 p hp
      exact ⟨s, d, e1, e2, Rep.ext x W O _ _ _ Apart.zero Own.zero e3⟩
/-- the class of families among the text's classes -/
structure FamC (G : Gen) (c : Nat) : Prop where
  cl : G.cls c = G.famC
  fl : G.flds c = (["points", "lots", "looked"] : List Str)
theorem toFam_ok {c : Nat} (fc : FamC G c) {d d' : D} {v : V} {m : Fp} (h : toFam c d = some d') (W : World G w) (r : Rep G w d v m) (O : Own w m) : ∃ w', w'.h = w.h ∧ World G w' ∧ Rep G w' d' v Fp.zero ∧ Ext m w w' Fp.zero := by
  unfold toFam at h
  split at h
  · rename_i c' ds
    split at h
    · rename_i n ls
      split at h
      · rename_i hq
        cases h
        rw [Bool.and_eq_true] at hq
        have ec : c' = c := by simpa using hq.1
        subst ec
        simp only [Rep, RepL] at r
        obtain ⟨a, dx, vs, m', rfl, h1, h2, ⟨v1, vs1, m1, m2, rfl, ⟨rfl, rfl⟩, ⟨v2, vs2, m3, m4, rfl, ⟨t, us, rfl, q1, q2⟩, ⟨v3, vs3, m5, m6, rfl, ⟨b, kvs, m7, rfl, q3, q4, q5, rfl⟩, ⟨rfl, rfl⟩, rfl⟩, rfl⟩, rfl⟩, rfl⟩ := r
        have ek : kvs = [] := List.map_eq_nil_iff.mp (keysD_nil _ q4)
        subst ek
        obtain ⟨_, rfl⟩ := q5
        obtain ⟨q6, rfl⟩ := RepL.immM hq.2 q2
        have oa := (O a).2 (by simp [fl, Fp.one_same])
        have ob := (O b).2 (by simp [fl, Fp.one_same])
        have hab : a ≠ b := fun e => by
          subst e
          have := (O a).1
          simp [fl, Fp.one_same] at this
        have x : Ext (fl true a (Fp.add Fp.zero (Fp.add Fp.zero (Fp.add (fl true b Fp.zero) Fp.zero)))) w (w.fam a b n ls) Fp.zero := Ext.fam (by simp [fl, Fp.one_same]) (by simp [fl, Fp.one_same]) ob.2 fun c q => absurd rfl q
        refine ⟨w.fam a b n ls, rfl, W.fam (by rw [h1.1]; simp) oa.2 hab q3.1 ob.2 ob.1 oa.1, ?_, x⟩
        simp only [Rep]
        refine ⟨trivial, a, dx, t, us, b, rfl, ⟨?_, fun _ => .inr rfl⟩, ?_, q1, RepL.ext x W O _ _ _ Apart.zero Own.zero q6⟩
        · have := h1.1
          rw [fc.cl, fc.fl] at this
          exact this
        · show (if b = b then some (n, ls) else w.y b) = some (n, ls)
          rw [if_pos rfl]
      · cases h
    · cases h
  · cases h
/-- a family made -/
def pFam (c : Nat) (f : Ev) : Ev := fun e => match f e with
  | some d => toFam c d
  | none => none
theorem r_fam {e : Expr} {fe : Ev} {c : Nat} (fc : FamC G c) (h : PE X e (tP G ro fe)) : PE X e (tP G ro (pFam c fe)) := PE.weak h fun σ H Q ⟨R, w, e, m, d, e0, S, hf, k⟩ => by
  unfold pFam at hf
  split at hf
  · rename_i d0 hd0
    refine ⟨R, w, e, m, d0, e0, S, hd0, fun v w1 md S1 r1 x1 => ?_⟩
    obtain ⟨w2, eh, W2, r2, x2⟩ := toFam_ok fc hf S1.world r1 S1.own.right
    rw [← eh]
    exact k v w2 Fp.zero (S1.step x2 W2 Own.zero) r2 (x1.trans x2)
  · cases hf
end
end TL
end
section
set_option maxRecDepth 100000
/-! The tree layer, part AG: a family's kept answers. -/
namespace TL
open PySem PySem.Spec PyProof.Rows L2
theorem len_le_nodup {α : Type} [DecidableEq α] : ∀ {l m : List α}, l.Nodup → (∀ x ∈ l, x ∈ m) → l.length ≤ m.length
  | [], m, _, _ => Nat.zero_le _
  | x :: l, m, hn, hs => by
    rw [List.nodup_cons] at hn
    have hx := hs x List.mem_cons_self
    have ih := len_le_nodup (m := m.erase x) hn.2 fun y hy => (List.mem_erase_of_ne (fun e => hn.1 (by rw [← e]; exact hy))).mpr (hs y (List.mem_cons_of_mem _ hy))
    rw [List.length_erase_of_mem hx] at ih
    have := List.length_pos_of_mem hx
    simp only [List.length_cons]
    omega
def NdK (H : Hp) : Prop := ∀ a kvs, H a = some (.dK kvs) → (kvs.map (·.1)).Nodup
theorem HOk.nd {P : Program} {w : PySem.World} {H : Hp} {h : Heap} (k : HOk P w H h) : NdK H := fun a kvs e => by
  obtain ⟨_, _, vs, rel, dd⟩ := dk_of k e
  obtain ⟨_, _, _, _, _, _, _, _, nd⟩ := dd
  rwa [rel.keys]
section
variable {X : Cx} {G : Gen} {ro fx : Nat → Bool} {w : Wd}
theorem PE.nd {e : Expr} {t : TE} (h : PE X e t) : PE X e (fun σ H Q => t σ H fun v H' => NdK H' → Q v H') := ⟨fun pins s σ H Q I q =>
  thn (h.run pins s σ H _ I q) fun u s' ⟨v, H', I', r, k⟩ => ⟨v, H', I', r, k (HOk.nd I'.hok)⟩⟩
/-- a key that is a text, not in a dict -/
theorem op_dni (F : Fit X G) : OpR X (compareOp .NotIn) (fun x y H Q => ∃ a kvs k, y = .ref a ∧ x = .str k ∧ H a = some (.dK kvs) ∧ Q (.bl (!(valV kvs (.inr k)).isSome)) H) := by
  intro pins s σ H x y v u Q I rx ry ⟨a, kvs, k, ey, ex, ha, q⟩
  subst ey; subst ex
  cases ry
  have hu := F.units
  exact d_notIn (o := valV kvs (.inr k)) (by omega) I (DGet.k (k := .inr k) ha) rx fun s' I' => ⟨.bl _, H, I', rfl, q⟩
/-- the names under which answers are kept are few -/
structure MemF (G : Gen) : Prop where
  few : ∃ names : List Str, names.length < 1000 ∧ ∀ s n ls d, G.memo s n ls = some d → s ∈ names
/-- the kept answer d stands under K -/
def Kept (G : Gen) (w : Wd) (σ : L2.St) (i : Nat) (K : Str) (d : D) : Prop := ∃ a dx n t b kvs v, σ[i]? = some (some (.ref a)) ∧ w.h a = some (.ins G.famC dx [("points", .int n), ("lots", .ref t), ("looked", .ref b)]) ∧ w.h b = some (.dK kvs) ∧ valV kvs (.inr K) = some v ∧ Rep G w d v Fp.zero
def Wd.put (w : Wd) (b : Addr) (o : HO) (m : Fp) : Wd := ⟨upd w.h b o, fun c => w.z c ∨ m c ≠ 0, w.y⟩
theorem looked_of {i : Nat} {n : Int} {ls : List D} {R : List RoE} {e : List D} {σ : L2.St} {m k : Fp} (S : SK G ro R w e σ m k) (hs : slot e i = some (.fam n ls)) : ∃ a dx t b kvs, σ[i]? = some (some (.ref a)) ∧ w.h a = some (.ins G.famC dx [("points", .int n), ("lots", .ref t), ("looked", .ref b)]) ∧ w.y b = some (n, ls) ∧ w.h b = some (.dK kvs) ∧ w.z a ∧ a ≠ b ∧
    ∀ p ∈ kvs, ∃ s d, p.1 = .inr s ∧ G.memo s n ls = some d ∧ Rep G w d p.2 Fp.zero := by
  obtain ⟨v, mb, e1, r, _⟩ := S.slot hs
  simp only [Rep] at r
  obtain ⟨_, a, dx, t, vs, b, rfl, h1, h2, _⟩ := r
  obtain ⟨kvs, h3, h4⟩ := S.world.y b n ls h2
  refine ⟨a, dx, t, b, kvs, e1, h1.1, h2, h3, h1.2 rfl, fun z => ?_, h4⟩
  subst z
  rw [h1.1] at h3; cases h3
theorem look_lookup {n : Int} {t b : Addr} : ([("points", V.int n), ("lots", .ref t), ("looked", .ref b)] : List (Str × V)).lookup ("looked" : Str) = some (.ref b) := by
  simp only [List.lookup, str_ne2, str_ne3]
  simp
/-- the store of an answer -/
theorem keep_put {R : List RoE} {e : List D} {σ : L2.St} {m md : Fp} {b : Addr} {n : Int} {ls : List D} {kvs : List (Key × V)} {K : Str} {d : D} {v : V} (S : SK G ro R w e σ m md) (r : Rep G w d v md) (hy : w.y b = some (n, ls)) (hb : w.h b = some (.dK kvs)) (hk : ∀ p ∈ kvs, ∃ s d, p.1 = .inr s ∧ G.memo s n ls = some d ∧ Rep G w d p.2 Fp.zero)
    (hm : G.memo K n ls = some (frz d)) (hl : (putK kvs (.inr K) v).length ≤ sizeLine) : World G (w.put b (.dK (putK kvs (.inr K) v)) md) ∧ Rep G (w.put b (.dK (putK kvs (.inr K) v)) md) (frz d) v Fp.zero ∧ Ext md w (w.put b (.dK (putK kvs (.inr K) v)) md) Fp.zero := by
  have x : Ext md w (w.put b (.dK (putK kvs (.inr K) v)) md) Fp.zero := by
    refine ⟨fun c o h _ y => ?_, fun c vs h => ?_, fun c o u h => ?_, fun c h => ?_, fun c h => .inl h, fun c h => h.elim .inl fun h => .inr (.inl h), fun c f h => h, fun c h => .inl h, fun c h => absurd rfl h⟩
    · exact (upd_ne fun z => by rw [z, hy] at y; cases y).trans h
    · exact (upd_ne fun z => by rw [z, hb] at h; cases h).trans h
    · exact (upd_ne fun z => by rw [z, hb] at h; cases h).trans h
    · show upd w.h b _ c ≠ none
      by_cases q : c = b
      · rw [q, upd_same]; simp
      · rw [upd_ne q]; exact h
  -- first frozen, then stored
  have rf := Rep.frz d v md (k := md) (fun b q => q) r
  have wf : Ext Fp.zero (w.frz md) (w.put b (.dK (putK kvs (.inr K) v)) md) Fp.zero := by
    refine ⟨fun c o h _ y => ?_, fun c vs h => ?_, fun c o u h => ?_, fun c h => ?_, fun c h => h, fun c h => .inl h, fun c f h => h, fun c h => .inl h, fun c h => absurd rfl h⟩
    · exact (upd_ne fun z => by
        have y' : w.y c = none := y
        rw [z, hy] at y'; cases y').trans h
    · exact (upd_ne fun z => by
        have h' : w.h c = some (.tup vs) := h
        rw [z, hb] at h'; cases h').trans h
    · exact (upd_ne fun z => by
        have h' : w.h c = some (.frz o u) := h
        rw [z, hb] at h'; cases h').trans h
    · show upd w.h b _ c ≠ none
      by_cases q : c = b
      · rw [q, upd_same]; simp
      · rw [upd_ne q]; exact h
  have WF : World G (w.frz md) := S.world.frz S.own.right (Rep.there _ _ _ r)
  have rn : Rep G (w.put b (.dK (putK kvs (.inr K) v)) md) (frz d) v Fp.zero := Rep.ext wf WF Own.zero _ _ _ Apart.zero Own.zero rf
  have keepR : ∀ d' v', Rep G w d' v' Fp.zero → Rep G (w.put b (.dK (putK kvs (.inr K) v)) md) d' v' Fp.zero := fun d' v' r' => Rep.ext wf WF Own.zero _ _ _ Apart.zero Own.zero (Rep.zmono d' v' _ r')
  refine ⟨⟨fun c o h => ?_, fun c h => ⟨x.all c ?_, ?_⟩, fun c n' ls' h => ?_⟩, rn, x⟩
  · by_cases q : c = b
    · subst q
      have h' : upd w.h c (HO.dK (putK kvs (.inr K) v)) c = some o := h
      rw [upd_same] at h'; cases h'; exact hl
    · have h' : upd w.h b (HO.dK (putK kvs (.inr K) v)) c = some o := h
      rw [upd_ne q] at h'; exact S.world.len c o h'
  · rcases h with h | h
    · exact (S.world.z c h).1
    · exact Rep.there _ _ _ r c h
  · rcases h with h | h
    · exact (S.world.z c h).2
    · exact ((S.own.right c).2 h).2
  · have h0 : w.y c = some (n', ls') := h
    by_cases q : c = b
    · subst q
      have e : some (n', ls') = some (n, ls) := h0.symm.trans hy
      cases e
      refine ⟨putK kvs (.inr K) v, upd_same, fun p hp => ?_⟩
      unfold putK at hp
      split at hp
      · obtain ⟨p0, hp0, rfl⟩ := List.mem_map.mp hp
        split
        · rename_i ek
          exact ⟨K, frz d, ek, hm, rn⟩
        · obtain ⟨s, d', e1, e2, e3⟩ := hk p0 hp0
          exact ⟨s, d', e1, e2, keepR _ _ e3⟩
      · rcases List.mem_append.mp hp with hp | hp
        · obtain ⟨s, d', e1, e2, e3⟩ := hk p hp
          exact ⟨s, d', e1, e2, keepR _ _ e3⟩
        · rw [List.mem_singleton.mp hp]
          exact ⟨K, frz d, rfl, hm, rn⟩
    · obtain ⟨kvs', h1, h2⟩ := S.world.y c n' ls' h0
      refine ⟨kvs', (upd_ne q).trans h1, fun p hp => ?_⟩
      obtain ⟨s, d', e1, e2, e3⟩ := h2 p hp
      exact ⟨s, d', e1, e2, keepR _ _ e3⟩
end
end TL
end
section
set_option maxRecDepth 100000
/-! The tree layer, part AH: the statements that keep an answer and read it. -/
namespace TL
open PySem PySem.Spec PyProof.Rows L2
theorem valV_self {κ : Type} [DecidableEq κ] (k : κ) (v : V) : ∀ kvs : List (κ × V), valV kvs k = none → valV (putK kvs k v) k = some v := by
  intro kvs h
  have e : (kvs.any fun kv => decide (kv.1 = k)) = false := by rw [any_val, h]; rfl
  unfold putK
  rw [e, if_neg Bool.false_ne_true]
  have gen : ∀ kvs : List (κ × V), valV kvs k = none → valV (kvs ++ [(k, v)]) k = some v := by
    intro kvs
    induction kvs with
    | nil => intro _; rw [List.nil_append, valV_cons, if_pos rfl]
    | cons p kvs ih =>
      intro h
      obtain ⟨p1, p2⟩ := p
      rw [List.cons_append, valV_cons]
      rw [valV_cons] at h
      by_cases q : p1 = k
      · rw [if_pos q] at h; cases h
      · rw [if_neg q] at h ⊢; exact ih h
  exact gen kvs h
theorem valV_mem {κ : Type} [DecidableEq κ] {k : κ} {v : V} : ∀ {kvs : List (κ × V)}, valV kvs k = some v → ∃ p ∈ kvs, p.1 = k ∧ p.2 = v
  | [], h => by cases h
  | (p1, p2) :: kvs, h => by
    rw [valV_cons] at h
    by_cases q : p1 = k
    · rw [if_pos q] at h; cases h; exact ⟨_, List.mem_cons_self, q, rfl⟩
    · rw [if_neg q] at h
      obtain ⟨p, hp, h1⟩ := valV_mem h
      exact ⟨p, List.mem_cons_of_mem _ hp, h1⟩
section
variable {X : Cx} {G : Gen} {ro fx : Nat → Bool} {w : Wd} {K x : Str} {i : Nat} {fE : Ev}
abbrev rDni : R2 := fun x y H Q => ∃ a kvs k, y = .ref a ∧ x = .str k ∧ H a = some (.dK kvs) ∧ Q (.bl (!(valV kvs (.inr k)).isSome)) H
abbrev tLooked (K : PySem.W.Frag) (i : Nat) : TE := tFld K (tVar i) "looked"
abbrev tLookNd (K : PySem.W.Frag) (i : Nat) : TE := fun σ H Q => tLooked K i σ H fun v H' => NdK H' → Q v H'
theorem look_go {n : Int} {ls : List D} {R : List RoE} {e : List D} {σ : L2.St} {m k : Fp} {Kf : PySem.W.Frag} (cf : FamF Kf G) (S : SK G ro R w e σ m k) (hs : slot e i = some (.fam n ls)) {Q : VK}
    (q : ∀ a dx t b kvs, σ[i]? = some (some (.ref a)) → w.h a = some (.ins G.famC dx [("points", .int n), ("lots", .ref t), ("looked", .ref b)]) → w.y b = some (n, ls) → w.h b = some (.dK kvs) → a ≠ b → (∀ p ∈ kvs, ∃ s d, p.1 = .inr s ∧ G.memo s n ls = some d ∧ Rep G w d p.2 Fp.zero) → Q (.ref b) w.h) : tLooked Kf i σ w.h Q := by
  obtain ⟨a, dx, t, b, kvs, e1, h1, h2, h3, h4, h5, h6⟩ := looked_of S hs
  exact ⟨.ref a, e1, a, _, dx, _, .ref b, rfl, h1, cf.cl, cf.no _ (by simp), look_lookup, q a dx t b kvs e1 h1 h2 h3 h5 h6⟩
theorem memo_if {n : Int} {ls : List D} {R : List RoE} {e : List D} {σ : L2.St} {m : Fp} {d : D} {Dn : Ends} {Kf : PySem.W.Frag} (cf : FamF Kf G) (MF : MemF G) (S : SK G ro R w e σ m Fp.zero) (hs : slot e i = some (.fam n ls)) (hf : fE e = some d) (hm : G.memo K n ls = some (frz d))
    (k : ∀ w', SK G ro R w' e σ m Fp.zero → Ext Fp.zero w w' Fp.zero → Kept G w' σ i K (frz d) → Dn.nx σ w'.h) :
    tIfS (tTest (tOp rDni (tC (.str K)) (tLooked Kf i))) (sDPut (tLookNd Kf i) (tC (.str K)) (tP G ro fE)) tNext Dn σ w.h := by
  refine (look_go (Q := fun y H2 => rDni (.str K) y H2 fun z H3 => ∃ k, z = .bl k ∧ (if k = true then sDPut (tLookNd Kf i) (tC (.str K)) (tP G ro fE) Dn σ H3 else tNext Dn σ H3)) cf S hs fun a dx t b kvs e1 h1 h2 h3 h5 h6 => ?_)
  refine ⟨b, kvs, K, rfl, rfl, h3, _, rfl, ?_⟩
  cases hv : valV kvs (.inr K) with
  | some v0 =>
    refine iteF ?_
    obtain ⟨p, hp, p1, p2⟩ := valV_mem hv
    obtain ⟨s, d', g1, g2, g3⟩ := h6 p hp
    rw [p1] at g1
    cases g1
    rw [hm] at g2
    cases g2
    rw [p2] at g3
    exact k w S (Ext.refl _ _) ⟨a, dx, n, t, b, kvs, v0, e1, h1, h3, hv, g3⟩
  | none =>
    refine iteT ?_
    refine ⟨R, w, e, m, d, rfl, S, hf, fun v w1 md S1 r1 x1 => ?_⟩
    refine look_go cf S1 hs fun a dx t b kvs1 e1 h1 h2 h3 h5 h6 nd => ?_
    obtain ⟨names, fw, dom⟩ := MF.few
    have hl0 : kvs1.length ≤ names.length := by
      have := len_le_nodup (l := kvs1.map (·.1)) (m := names.map Sum.inr) (nd b kvs1 h3) fun y hy => by
        obtain ⟨p, hp, rfl⟩ := List.mem_map.mp hy
        obtain ⟨s, d', g1, g2, _⟩ := h6 p hp
        rw [g1]
        exact List.mem_map.mpr ⟨s, dom s n ls d' g2, rfl⟩
      rwa [List.length_map, List.length_map] at this
    have hsl : sizeLine = 16777216 := sizeLine_eq
    have hl1 : kvs1.length < sizeLine := by omega
    have hl2 : (putK kvs1 (.inr K) v).length ≤ sizeLine := by have := length_putK kvs1 (.inr K) v; omega
    obtain ⟨W2, r2, x2⟩ := keep_put (K := K) S1 r1 h2 h3 h6 hm hl2
    refine ⟨b, _, rfl, DPut.k (k := .inr K) h3 hl1, ?_⟩
    have S2 := S1.step x2 W2 Own.zero
    refine k (w1.put b (.dK (putK kvs1 (.inr K) v)) md) S2 (x1.trans x2) ⟨a, dx, n, t, b, _, v, e1, (upd_ne h5).trans h1, upd_same, ?_, r2⟩
    rw [valV_put, if_pos rfl]
theorem kept_read {σ : L2.St} {d : D} {Kf : PySem.W.Frag} (cf : FamF Kf G) (h : Kept G w σ i K d) {Q : VK} (q : ∀ v, Rep G w d v Fp.zero → Q v w.h) : tDGet (tLooked Kf i) (tC (.str K)) σ w.h Q := by
  obtain ⟨a, dx, n, t, b, kvs, v, e1, h1, h2, h3, h4⟩ := h
  exact ⟨.ref a, e1, a, _, dx, _, .ref b, rfl, h1, cf.cl, cf.no _ (by simp), look_lookup, b, v, rfl, by rw [← h3]; exact DGet.k (k := .inr K) h2, q v h4⟩
/-! ### the two forms -/
def undefAll : List D → Bool
  | [] => true
  | .undef :: ds => undefAll ds
  | _ :: _ => false
theorem undefAll_eq : ∀ {ds : List D}, undefAll ds = true → ds = List.replicate ds.length .undef
  | [], _ => rfl
  | d :: ds, h => by
    cases d <;> simp only [undefAll] at h <;> try cases h
    rw [List.length_cons, List.replicate_succ, ← undefAll_eq h]
def memAt (loc : Nat) (fE : Ev) (e : List D) : Option D := match e with
  | .fam n ls :: rest => if (undefAll rest && rest.length == loc) = true then match fE (.fam n ls :: rest) with
      | some d => some (frz d)
      | none => none
    else none
  | _ => none
theorem memAt_some {loc : Nat} {e : List D} {d : D} (h : memAt loc fE e = some d) : ∃ n ls d0, e = .fam n ls :: List.replicate loc .undef ∧ fE e = some d0 ∧ d = frz d0 := by
  unfold memAt at h
  split at h
  · rename_i n ls rest
    split at h
    · rename_i hq
      rw [Bool.and_eq_true] at hq
      have hl : rest.length = loc := by simpa using hq.2
      have er := undefAll_eq hq.1
      rw [hl] at er
      split at h
      · rename_i d0 hd
        cases h
        exact ⟨n, ls, d0, by rw [← er], hd, rfl⟩
      · cases h
    · cases h
  · cases h
def sMemR (loc : Nat) (fE : Ev) : EvS := fun e => match memAt loc fE e with
  | some d => some (.rt d, e)
  | none => none
def sMemN (loc : Nat) (fE : Ev) : EvS := fun e => match memAt loc fE e with
  | some (.bl true) => some (.nx, e)
  | _ => none
/-- what the keeping table says of K -/
abbrev MemK (G : Gen) (K : Str) (loc : Nat) (fE : Ev) : Prop := ∀ n ls d, fE (.fam n ls :: List.replicate loc .undef) = some d → G.memo K n ls = some (frz d)
variable {E : Expr} {p1 p2 p3 p4 p5 p6 p7 p8 p9 pa pb pc pd q1 q2 q3 : Pos} {j1 j2 j3 : Nat} {sts rs : List Stmt} {g : EvS}
theorem memo_st (loc : Nat) (F : Fit X G) (hE : PE X E (tP G ro fE)) (hN : X.N[0]? = some x) (hv : Vis X.env.scope x) (hd : (x == ("__debug__" : Str)) = false) (hcd : (x == ("__classdict__" : Str)) = false)
    (hb : ∀ pz : Pos, attributeBase (.Name x pz) "looked" X.env (eval (.Name x pz) X.env) = eval (.Name x pz) X.env)
    (hs : swapsWith E (some (.Subscript (.Attribute (.Name x p4) "looked" p5) (.Constant (.str K) j2 p6) p7)) p8.line X.env = pure false) :
    PS X (.If (.Compare (.Constant (.str K) j1 p1) [.NotIn] [.Attribute (.Name x p2) "looked" p3] pa) [.Assign [.Subscript (.Attribute (.Name x p4) "looked" p5) (.Constant (.str K) j2 p6) p7] E p8] [] p9)
      (tIfS (tTest (tOp rDni (tC (.str K)) (tLooked X.K 0))) (sDPut (tLookNd X.K 0) (tC (.str K)) (tP G ro fE)) tNext) :=
  ps_if (pt_cmpR (op_dni F) pe_str (pe_fld (pe_var hN hv hd hcd) (hb p2)) rfl) (pss_one (ps_dput (by have := F.units; omega) (PE.nd (pe_fld (pe_var hN hv hd hcd) (hb p4))) pe_str hE hs)) pss_nil
theorem s_memR (loc : Nat) (F : Fit X G) (cf : FamF X.K G) (MF : MemF G) (hm : MemK G K loc fE) (hE : PE X E (tP G ro fE)) (hN : X.N[0]? = some x := by rfl) (hv : Vis X.env.scope x := by first | exact Or.inl rfl | exact Or.inr (Or.inl rfl) | exact Or.inr (Or.inr rfl)) (hd : (x == ("__debug__" : Str)) = false := by decide) (hcd : (x == ("__classdict__" : Str)) = false := by decide)
    (hb : ∀ pz : Pos, attributeBase (.Name x pz) "looked" X.env (eval (.Name x pz) X.env) = eval (.Name x pz) X.env := by intro _; rfl) (hs : swapsWith E (some (.Subscript (.Attribute (.Name x p4) "looked" p5) (.Constant (.str K) j2 p6) p7)) p8.line X.env = pure false := by rfl) (hn : NoSl (.Constant (.str K) j3 pb) := by intro _ _; rfl) :
    PSs X [.If (.Compare (.Constant (.str K) j1 p1) [.NotIn] [.Attribute (.Name x p2) "looked" p3] pa) [.Assign [.Subscript (.Attribute (.Name x p4) "looked" p5) (.Constant (.str K) j2 p6) p7] E p8] [] p9,
      .Return (some (.Subscript (.Attribute (.Name x pc) "looked" pd) (.Constant (.str K) j3 pb) q1)) q2] (tS G ro fx (sMemR loc fE)) :=
  PSs.weak (pss_cons (memo_st loc F hE hN hv hd hcd hb hs) (pss_one (ps_ret (pe_dget (by have := F.units; omega) (pe_fld (pe_var (i := 0) hN hv hd hcd) (hb pc)) pe_str hn)))) fun Dn σ H ⟨R, w, e, m, o, e', e0, S, hf, k⟩ => by
    unfold sMemR at hf
    split at hf
    · rename_i d hd'
      cases hf
      obtain ⟨n, ls, d0, rfl, hfe, rfl⟩ := memAt_some hd'
      subst e0
      have hsl : slot (.fam n ls :: List.replicate loc .undef) 0 = some (.fam n ls) := rfl
      refine memo_if cf MF S hsl hfe (hm n ls d0 hfe) fun w1 S1 x1 kp => ?_
      refine kept_read cf kp fun v r => ?_
      exact k v w1 σ m Fp.zero S1 r (by have := x1.frame (m := m); rwa [Fp.add_zero] at this) fun _ _ => rfl
    · cases hf
theorem s_memN (loc : Nat) (F : Fit X G) (cf : FamF X.K G) (MF : MemF G) (hm : MemK G K loc fE) (hE : PE X E (tP G ro fE)) (hr : PSs X rs (tS G ro fx g)) (hN : X.N[0]? = some x := by rfl) (hv : Vis X.env.scope x := by first | exact Or.inl rfl | exact Or.inr (Or.inl rfl) | exact Or.inr (Or.inr rfl)) (hd : (x == ("__debug__" : Str)) = false := by decide) (hcd : (x == ("__classdict__" : Str)) = false := by decide)
    (hb : ∀ pz : Pos, attributeBase (.Name x pz) "looked" X.env (eval (.Name x pz) X.env) = eval (.Name x pz) X.env := by intro _; rfl) (hs : swapsWith E (some (.Subscript (.Attribute (.Name x p4) "looked" p5) (.Constant (.str K) j2 p6) p7)) p8.line X.env = pure false := by rfl) (hn : NoSl (.Constant (.str K) j3 pb) := by intro _ _; rfl)
    (he : ∀ whole, isTrue (.Subscript (.Attribute (.Name x pc) "looked" pd) (.Constant (.str K) j3 pb) q1) X.env whole = (do let v ← whole; standAt (Expr.Subscript (.Attribute (.Name x pc) "looked" pd) (.Constant (.str K) j3 pb) q1).pos; holding [v] (truthy v)) := by intro _; rfl) :
    PSs X (.If (.Compare (.Constant (.str K) j1 p1) [.NotIn] [.Attribute (.Name x p2) "looked" p3] pa) [.Assign [.Subscript (.Attribute (.Name x p4) "looked" p5) (.Constant (.str K) j2 p6) p7] E p8] [] p9 ::
      .If (.UnaryOp .Not (.Subscript (.Attribute (.Name x pc) "looked" pd) (.Constant (.str K) j3 pb) q1) q2) sts [] q3 :: rs) (tS G ro fx (sSeq (sMemN loc fE) g)) :=
  PSs.weak (pss_cons (memo_st loc F hE hN hv hd hcd hb hs) (pss_cons (ps_if (pt_not (pt_val (pe_dget (by have := F.units; omega) (pe_fld (pe_var (i := 0) hN hv hd hcd) (hb pc)) pe_str hn) he)) pss_never pss_nil) hr)) fun Dn σ H ⟨R, w, e, m, o, e', e0, S, hf, k⟩ => by
    unfold sSeq sMemN at hf
    cases hd' : memAt loc fE e with
    | none => rw [hd'] at hf; cases hf
    | some d =>
      rw [hd'] at hf
      have hb1 : d = .bl true ∧ g e = some (o, e') := by
        cases d <;> try (cases hf; done)
        rename_i b
        cases b
        · cases hf
        · exact ⟨rfl, hf⟩
      obtain ⟨rfl, hg⟩ := hb1
      obtain ⟨n, ls, d0, rfl, hfe, ed⟩ := memAt_some hd'
      subst e0
      have hsl : slot (.fam n ls :: List.replicate loc .undef) 0 = some (.fam n ls) := rfl
      refine memo_if cf MF S hsl hfe (hm n ls d0 hfe) fun w1 S1 x1 kp => ?_
      refine kept_read cf kp fun v r => ?_
      rw [← ed] at r
      refine ⟨true, r.bl, iteF ?_⟩
      exact tS_from (by have := x1.frame (m := m); rwa [Fp.add_zero] at this) (fun _ _ => rfl) S1 hg k
end
end TL
end
section
set_option maxRecDepth 100000
/-! The tree layer, part AI: methods of families. -/
namespace TL
open PySem PySem.Spec PyProof.Rows L2
section
variable {X : Cx} {G : Gen} {ro fx : Nat → Bool} {w : Wd} {o : Expr} {mth : Str} {k j : Nat} {md : List Md} {f : Fn} {f0 : Ev} {pos apos : Pos}
def gMethF (md : List Md) (f : Fn) (f0 : Ev) : Ev := fun e => match f0 e with
  | some (.fam n ls) => gPure md f [.fam n ls]
  | _ => none
theorem fam_nolook {n : Int} {t b : Addr} (h : (["points", "lots", "looked"] : List Str).contains mth = false) : ([("points", V.int n), ("lots", .ref t), ("looked", .ref b)] : List (Str × V)).lookup mth = none := by
  simp only [List.contains_cons, Bool.or_eq_false_iff] at h
  simp only [List.lookup]
  rw [h.1, h.2.1, h.2.2.1]
theorem r_methF0 {pl : Sem Bool} (cc : C8.Met X.prog X.w X.K X.mg X.base k G.famC mth (spF G md f) []) (hr : Room j X.A) (hk : k ≤ j) (ho : PE X o (tB G ro f0)) (hm : (["points", "lots", "looked"] : List Str).contains mth = false)
    (ht : eval (.Call (.Attribute o mth apos) [] [] pos) X.env = (do
      let ov ← eval o X.env
      standAt apos.atName
      let (f, first) ← holding [ov] (getMethod ov mth pl)
      callWith pos f first (backTo pos (starEach [] X.env)) (backToKw pos (keywordEach [] X.env))) := by rfl) :
    PE X (.Call (.Attribute o mth apos) [] [] pos) (tP G ro (gMethF md f f0)) := PE.weak (C8.pe_mt0 (pl := pl) cc hr hk ho ht) fun σ H Q ⟨R, w, e, m, d, e0, S, hf, kk⟩ => by
  unfold gMethF at hf
  split at hf
  · rename_i n ls hd0
    refine ⟨R, w, e, m, _, e0, S, hd0, fun v w1 mb S1 r1 o1 x1 => ?_⟩
    have r0 := r1
    simp only [Rep] at r1
    obtain ⟨rfl, a, dx, t, vs, y, rfl, h1, h2, h3, h4⟩ := r1
    refine ⟨a, dx, _, rfl, h1.1, fam_nolook hm, ?_⟩
    exact sp_pure (E := E0) (ds := [.fam n ls]) (vs := [.ref a]) S1.world ⟨_, _, Fp.zero, rfl, r0, o1, rfl⟩ hf fun v w' md' W' rv o x => kk v w' md' (S1.step x W' o) rv (x1.trans x)
  · cases hf
end
end TL
end
section
set_option maxRecDepth 100000
/-! The tree layer, part AJ: == and != of instances whose class has its own __eq__ and no __ne__. -/
namespace TL
open PySem PySem.Spec PyProof.Rows L2 PySem.W PySem.Calls Builtin

theorem ne_slot : Slot "object" "__ne__" "object.__ne__" :=
  Slot.of (T := "object") (name := "__ne__") (owner := "object") (n := "__ne__") (by rw [typeLookup_type, builtinLookup_eq_fast]; kernel_rfl) (by decide +kernel) (by decide +kernel) (by decide +kernel)
    (.inl (by decide +kernel)) (by rw [isSubtype_type]; kernel_rfl)

section
variable {prog : Program} {w : PySem.World} {A : Around} {E : Value → Shared → Prop} {s : Shared} {K : Frag} {x C f : Addr} {ox : Obj} {od : Option Obj} {b : Value}
theorem ifBoundNe {M : Model} {args : List Value} {Q : Option Value → Shared → Prop} (X : K.In s.heap) (I : InstAt s.heap x ox C od) (hs : findIn K (.ref C) "__ne__" = some (some (.builtin "object.__ne__")))
    (h : wpAny M A (call (.builtin "object.__ne__") (.ref x :: args)) (fun v => Q (some v)) E s) : wpAny M A (callSpecialIfBound? (.ref x) "__ne__" args) Q E s := by
  simp only [callSpecialIfBound?, bindSpecialIfBound?]
  refine wpAny_holding (wpAny_bind (wpAny_bind (wpAny_bind (I.type.here ((looks_findIn X hs).here ?_)))))
  simp only [ne_slot.bind]
  refine wpAny_bind (wpAny_askSetting (wpAny_ite ?_))
  have fin : wpAny M A (call (.builtin "object.__ne__") ([.ref x] ++ args) >>= fun v => pure (some v)) Q E s := wpAny_bind (wpAny_mono h (fun v s' h' => wpAny_pure h') fun _ _ h' => h')
  split
  · exact wpAny_bind (wpAny_pure (wpAny_pure fin))
  · exact wpAny_tryCatch (wpAny_bind (wpAny_pure (wpAny_pure fin)))
theorem checkNe {M : Model} {Q : Unit → Shared → Prop} (X : K.In s.heap) (I : InstAt s.heap x ox C od) (hm : mroIn K C (.type "object") = some true) (hq : Q () s) :
    wpAny M A (checkBuiltinCall "object.__ne__" ⟨[.ref x, b], []⟩) Q E s := by
  obtain ⟨hh, g, dr, t, os⟩ := s
  have L0 := I.type (M := M)
  have L1 := looks_mroIn (M := M) X hm
  simp only [checkBuiltinCall, F.cmpKind_ne, F.cmpSplit_ne]
  refine wpAny_bind ?_
  unfold isInstance
  repeat lk
  exact hq
theorem objNe {Q : Fin → Shared → Prop} (hu : A.units < cLine) (X : K.In s.heap) (I : InstAt s.heap x ox C od) (hs : findIn K (.ref C) "__eq__" = some (some (.ref f))) (hf : isFn K (.ref f) = true)
    (h : wpAny (model prog w) A (call (.ref f) [.ref x, b]) (fun v s' => ∃ b, v = .bool b ∧ Q (.done (.ret (.bool (!b)))) s') E s) :
    wpAny (model prog w) A (Builtin.«object.__ne__» ⟨[.ref x, b], []⟩) Q E s := by
  unfold Builtin.«object.__ne__»
  repeat (first
    | with_reducible refine wpAny_cRoomFor hu ?_
    | (refine wpAny_bind (m := callSpecialIfBound? (.ref x) (Str.ofString "__eq__") [b])
        (ifBound_K X I hs hf (wpAny_mono h (fun r s' hr => by
          obtain ⟨b, rfl, hq⟩ := hr
          repeat (first | exact hq | exact wpAny_pure hq | exact wpAny_truthy_bool hq | (refine wpAny_bind (m := truthy (.bool _)) (wpAny_truthy_bool ?_)) | wp_step)) fun _ _ e => e)))
    | wp_step)
theorem tryNe {Q : Option Value → Shared → Prop} (hu : A.units + 1 < cLine) (X : K.In s.heap) (I : InstAt s.heap x ox C od) (hn : findIn K (.ref C) "__ne__" = some (some (.builtin "object.__ne__"))) (hm : mroIn K C (.type "object") = some true)
    (hs : findIn K (.ref C) "__eq__" = some (some (.ref f))) (hf : isFn K (.ref f) = true)
    (h : wpAny (model prog w) A.in1 (call (.ref f) [.ref x, b]) (fun v s' => ∃ b, v = .bool b ∧ Q (some (.bool (!b))) s') E s) : wpAny (model prog w) A (tryCompare (.ref x) "__ne__" b) Q E s := by
  simp only [tryCompare]
  refine wpAny_bind (ifBoundNe X I hn (wpAny_call (codeAny_call_builtin ne_slot.plain F.cmpEntry_ne (checkNe X I hm (objNe (A := A.in1) hu X I hs hf (wpAny_mono h (fun v s' hv => ?_) fun _ _ e => e))))))
  obtain ⟨b, rfl, hq⟩ := hv
  first | exact ⟨b, rfl, wpAny_pure hq⟩ | exact ⟨b, rfl, wpAny_pure (wpAny_pure hq)⟩ | exact ⟨b, rfl, hq⟩
theorem ne_K {y : Addr} {oy : Obj} {od' : Option Obj} {Q : Value → Shared → Prop} (hu : A.units + 1 < cLine) (X : K.In s.heap) (I : InstAt s.heap x ox C od) (J : InstAt s.heap y oy C od') (hn : findIn K (.ref C) "__ne__" = some (some (.builtin "object.__ne__"))) (hm : mroIn K C (.type "object") = some true)
    (hs : findIn K (.ref C) "__eq__" = some (some (.ref f))) (hf : isFn K (.ref f) = true)
    (h : wpAny (model prog w) A.in1 (call (.ref f) [.ref x, .ref y]) (fun v s' => ∃ b, v = .bool b ∧ Q (.bool (!b)) s') E s) : wpAny (model prog w) A (richCompare .NotEq (.ref x) (.ref y)) Q E s := by
  unfold richCompare
  simp only [oneThing_ref]
  refine wpAny_holding (wpAny_bind (wpAny_cRoomFor (Nat.lt_of_succ_lt hu) ?_))
  rw [cmpInfo_NotEq]
  dsimp only
  refine wpAny_bind (I.type.here (wpAny_bind (J.type.here ?_)))
  rw [show (Value.ref C != Value.ref C) = false from by simp]
  simp only [Bool.false_eq_true, if_false]
  refine wpAny_bind (wpAny_pure ?_)
  simp only [Bool.false_eq_true, if_false]
  refine wpAny_bind (tryNe hu X I hn hm hs hf (wpAny_mono h (fun v s' hv => ?_) fun _ _ e => e))
  obtain ⟨b, rfl, hq⟩ := hv
  first | exact ⟨b, rfl, wpAny_pure hq⟩ | exact ⟨b, rfl, wpAny_pure (wpAny_pure hq)⟩
end
end TL
end
section
set_option maxRecDepth 100000
/-! The tree layer, part AK: isinstance(x, Family); == and != of families. -/
namespace TL
open PySem PySem.Spec PyProof.Rows L2
section
variable {X : Cx} {G : Gen} {ro fx : Nat → Bool} {w : Wd} {a : Expr} {f : Ev} {p p2 pos : Pos} {k j : Nat} {mq : Fn}
/-- what the written part says of the families' class -/
structure FamK (K : PySem.W.Frag) (C : Addr) : Prop where
  isc : C8.InsC K C
  ne : PySem.W.findIn K (.ref C) "__ne__" = some (some (.builtin "object.__ne__"))
def dIsF : D → Option D
  | .fam _ _ => some (.bl true)
  | _ => none
/-- isinstance(x, Family) -/
theorem r_isF {x : Str} (c : C8.InsC X.K G.famC) (hg : Gl X "isinstance") (hm : X.mg "isinstance" = none) (hv : bootBuiltins "isinstance" = some (.builtin "isinstance")) (ha : PE X a (tB G ro f)) (hg2 : Gl X x) (hm2 : X.mg x = some (.ref G.famC)) (hdb2 : (x == ("__debug__" : Str)) = false := by decide)
    (hn : ("isinstance" : Str) ≠ "__name__" := by decide) (hdb : (("isinstance" : Str) == ("__debug__" : Str)) = false := by decide)
    (he : starEach [a, .Name x p2] X.env = (false, eval a X.env) :: starEach [.Name x p2] X.env := by rfl) (hs2 : starEach [.Name x p2] X.env = (false, eval (.Name x p2) X.env) :: starEach [] X.env := by rfl) (hpl : (backTo pos (starEach [.Name x p2] X.env)).any (·.1) = false := by rfl) :
    PE X (.Call (.Name "isinstance" p) [a, .Name x p2] [] pos) (tP G ro (p1 dIsF f)) :=
  PE.weak (pe_callB (C8.call_isC c) hg hm hv (pa_cons ha (pa_cons (pe_glob (v := .ref G.famC) hg2 hm2 rfl hdb2) pa_nil hs2) he) hn hdb he hpl) fun σ H Q ⟨R, w, e, m, d, e0, S, hf, k⟩ => by
    unfold p1 at hf
    split at hf
    · rename_i d0 hd0
      refine ⟨R, w, e, m, d0, e0, S, hd0, fun v w1 mb S1 r1 o1 x1 => ?_⟩
      unfold dIsF at hf
      split at hf
      · cases hf
        simp only [Rep] at r1
        obtain ⟨rfl, a, dx, t, vs, y, rfl, h1, h2, h3, h4⟩ := r1
        exact ⟨a, dx, _, rfl, h1.1, k _ w1 Fp.zero S1 Rep.mkBl x1⟩
      · cases hf
    · cases hf
/-- ==, families by their own __eq__ -/
def dEqF (mq : Fn) : D → D → Option D
  | .fam n ls, .fam n' ls' => match gPure [.ro, .ro] mq [.fam n ls, .fam n' ls'] with
    | some (.bl b) => some (.bl b)
    | _ => none
  | a, b => dEq a b
def dNeF (mq : Fn) : D → D → Option D
  | .fam n ls, .fam n' ls' => match gPure [.ro, .ro] mq [.fam n ls, .fam n' ls'] with
    | some (.bl b) => some (.bl (!b))
    | _ => none
  | a, b => dNe a b
theorem fam_pair {n n' : Int} {ls ls' : List D} {v v' : V} {m m' : Fp} (r1 : Rep G w (.fam n ls) v m) (o1 : Own w m) (r2 : Rep G w (.fam n' ls') v' m') (o2 : Own w m') : RepA G w [.fam n ls, .fam n' ls'] [v, v'] :=
  ⟨_, _, _, rfl, r1, o1, _, _, _, rfl, r2, o2, rfl⟩
theorem o_eqF (F : Fit X G) (cc : C8.Met X.prog X.w X.K X.mg X.base k G.famC "__eq__" (spF G [.ro, .ro] mq) []) (hr : Room j X.A) (hk : k ≤ j) : OpR X (compareOp .Eq) (r2 G (dEqF mq)) := by
  intro pins s σ H x y v u Q I rx ry h
  have h0 := h
  obtain ⟨w, d1, d2, m1, m2, d, e0, W, r1, o1, r2, o2, hf, kk⟩ := h
  unfold dEqF at hf
  split at hf
  · rename_i n ls n' ls'
    split at hf
    · rename_i b hb
      cases hf
      subst e0
      have rr := fam_pair r1 o1 r2 o2
      simp only [Rep] at r1 r2
      obtain ⟨rfl, a, dx, t, vs, z, rfl, h1, _⟩ := r1
      obtain ⟨rfl, a', dx', t', vs', z', rfl, h1', _⟩ := r2
      cases (show v = Value.ref a from rx)
      cases (show u = Value.ref a' from ry)
      obtain ⟨fa, fd, ps, ds, cl, me, Fn, bd, d⟩ := cc.ex
      obtain ⟨mA, J, _⟩ := ins_get I.hok h1.1
      obtain ⟨mB, J', _⟩ := ins_get I.hok h1'.1
      obtain ⟨od, J, _⟩ := J.look
      obtain ⟨od', J', _⟩ := J'.look
      obtain ⟨m, hF⟩ := I.fr
      show wpAny (model X.prog X.w) X.A (richCompare .Eq _ _) (EP X pins σ Q) X.xe s
      refine PySem.W.cmp_K (op := .Eq) (tb := .ref G.famC) hr.units0 hF I.ok.mod.kin J J'.type (by simp [PySem.W.notFirst]) me.at_ me.fn ?_
      refine wpAny_mono (run_fn (E := E0) Fn (hr.mono hk) bd d C8.pass0 I (vs := [V.ref a, V.ref a']) (Paired.cons (show L2.RelV (.ref a) (.ref a) from rfl) (.cons (show L2.RelV (.ref a') (.ref a') from rfl) .nil)) (sp_pure (Q := Q) W rr hb kk)) (fun c s' q => ?_) fun _ _ q => q
      obtain ⟨vv, H', I', rv, qv⟩ := q
      exact SlX.cmpback rv ⟨vv, H', I', rv, qv⟩
    · cases hf
  · exact o_eq F pins s σ H x y v u Q I rx ry ⟨w, _, _, m1, m2, d, e0, W, r1, o1, r2, o2, hf, kk⟩
theorem o_neF (F : Fit X G) (cK : FamK X.K G.famC) (cc : C8.Met X.prog X.w X.K X.mg X.base k G.famC "__eq__" (spF G [.ro, .ro] mq) []) (hr : Room j X.A) (hk : k + 1 ≤ j) : OpR X (compareOp .NotEq) (r2 G (dNeF mq)) := by
  intro pins s σ H x y v u Q I rx ry h
  have h0 := h
  obtain ⟨w, d1, d2, m1, m2, d, e0, W, r1, o1, r2, o2, hf, kk⟩ := h
  unfold dNeF at hf
  split at hf
  · rename_i n ls n' ls'
    split at hf
    · rename_i b hb
      cases hf
      subst e0
      have rr := fam_pair r1 o1 r2 o2
      simp only [Rep] at r1 r2
      obtain ⟨rfl, a, dx, t, vs, z, rfl, h1, _⟩ := r1
      obtain ⟨rfl, a', dx', t', vs', z', rfl, h1', _⟩ := r2
      cases (show v = Value.ref a from rx)
      cases (show u = Value.ref a' from ry)
      obtain ⟨fa, fd, ps, ds, cl, me, Fn, bd, d⟩ := cc.ex
      cases d
      obtain ⟨mA, J, _⟩ := ins_get I.hok h1.1
      obtain ⟨mB, J', _⟩ := ins_get I.hok h1'.1
      obtain ⟨od, J, _⟩ := J.look
      obtain ⟨od', J', _⟩ := J'.look
      have hj : Room (k + 1) X.A := hr.mono hk
      show wpAny (model X.prog X.w) X.A (richCompare .NotEq _ _) (EP X pins σ Q) X.xe s
      refine ne_K (by have := F.units; omega) I.kIn J J' cK.ne cK.isc.hm me.at_ me.fn ?_
      have FR := FnOk.raw Fn bd .nil
      have hsp : spF G [.ro, .ro] mq ([.ref a, .ref a'] ++ []) w.h (fun v H' => ∃ i, v = .bl i ∧ i = b ∧ Q (.bl (!b)) H') E0 := sp_pure W rr hb fun v w' md W' rv o x => by
        simp only [Rep] at rv
        obtain ⟨rfl, rfl⟩ := rv
        exact ⟨b, rfl, rfl, kk _ w' Fp.zero W' Rep.mkBl Own.zero x⟩
      refine wpAny_mono (wpAny_call (SlX.run_at FR (show Room k X.A.in1 from hj.in1) I.env0.in1 C8.pass0 I (ws := [V.ref a, V.ref a']) (Paired.cons (show L2.RelV (.ref a) (.ref a) from rfl) (.cons (show L2.RelV (.ref a') (.ref a') from rfl) .nil)) hsp)) (fun c s' q => ?_) fun _ _ q => q
      obtain ⟨vv, H', I', rv, i, rfl, rfl, qv⟩ := q
      cases rv
      exact ⟨i, rfl, .bl (!i), H', I', (show L2.RelV (.bl (!i)) (.bool (!i)) from rfl), qv⟩
    · cases hf
  · exact o_ne F pins s σ H x y v u Q I rx ry ⟨w, _, _, m1, m2, d, e0, W, r1, o1, r2, o2, hf, kk⟩
end
end TL
end
section
set_option maxRecDepth 100000
/-! The tree layer, part AL: the law's end; what the head tells. -/
namespace TL
open PySem PySem.Spec PyProof.Rows L2
section
variable {K : PySem.W.Frag} {x qual : Str} {st : Stmt} {f : Addr} {fd : FuncData}
theorem fun_of (F : FunD K x qual (defArgs st) (defBody st) (defScope st) [] [] f fd) : Fun K x qual st f fd := by
  obtain ⟨oc, od, dV, kV, doc, pm, an, cdv, ct, osl, e, l, c, hd, hk⟩ := F.ex
  rcases hd with ⟨_, rfl⟩ | ⟨q, _⟩
  · exact ⟨⟨oc, od, kV, doc, pm, an, cdv, ct, osl, e, l, c⟩, F.kp⟩
  · exact absurd rfl q
theorem fun_bindsA {ps : List Str} (F : Fun K x qual st f fd) (h : ∀ (kV doc pm : Value) (an : Option Addr) (cdv ct : Value) (us : List Value), us.length = ps.length → bindArgs (PySem.W.fnOf x qual (defArgs st) (defBody st) (defScope st) .none kV doc pm an cdv ct) ⟨us, []⟩ = pure (ps.zip us)) (s : Shared) (us : List Value) (hl : us.length = ps.length) : BindsTo s fd ⟨us, []⟩ (ps.zip us) := by
  obtain ⟨oc, od, kV, doc, pm, an, cdv, ct, osl, rfl, lk, hcd⟩ := F.ex
  exact .of_eq (h kV doc pm an cdv ct us hl)
end

/-! ### what the head tells: the library's facts, and those of the families' class -/
def famB (K : PySem.W.Frag) (C : Addr) : Bool :=
  decide (PySem.W.findIn K (.ref C) "__class__" = some (some (.builtin "object.__class__"))) && (decide (PySem.W.specialIn K (.builtin "object.__class__") "__get__" = some (some (.builtin "getset_descriptor.__get__"))) &&
  (decide (PySem.W.takesIn K (.builtin "object.__class__") = some true) && (decide (PySem.W.mroIn K C (.type "object") = some true) && (decide (PySem.W.kitOne K (.ref C) (.ref C) = some true) &&
   decide (PySem.W.findIn K (.ref C) "__ne__" = some (some (.builtin "object.__ne__")))))))
theorem famB_ok {K : PySem.W.Frag} {C : Addr} (cl : Cls K C) (h : famB K C = true) : FamK K C := by
  unfold famB at h
  simp only [Bool.and_eq_true, decide_eq_true_eq] at h
  exact ⟨⟨cl, h.1, h.2.1, h.2.2.1, h.2.2.2.1, h.2.2.2.2.1⟩, h.2.2.2.2.2⟩
abbrev AlX : Type := Bool × He.AlD
def obsX (fa : List He.Fa) (fn : List He.DefD) (ex : PySem.W.Frag → Bool) (K : PySem.W.Frag) : AlX := (ex K, He.obsD fa fn K)
def valX (fn : List He.DefD) : AlX := (true, He.valD fn)
def SaysX (fa : List He.Fa) (fn : List He.DefD) (ex : PySem.W.Frag → Bool) (K : PySem.W.Frag) : Prop := obsX fa fn ex K = valX fn
def obsXG (n : Nat) (fa : List He.Fa) (fn : List He.DefD) (ex : PySem.W.Frag → Bool) (g : Addr → Option Obj) : AlX := obsX fa fn ex (He.frG g (He.asD g n))
def hookX (n : Nat) (fa : List He.Fa) (fn : List He.DefD) (ex : PySem.W.Frag → Bool) : PySem.W.Hook where
  α := AlX
  obs := fun s => obsXG n fa fn ex s.heap.get?
  val := fun _ => valX fn
  says := fun _ h => ∃ K : PySem.W.Frag, K.In h ∧ SaysX fa fn ex K
  of := fun _ _ e => ⟨_, He.frG_in, e⟩
  keeps := fun _ _ _ ⟨K, hK, c⟩ k => ⟨K, PySem.W.Frag.In.keeps hK k, c⟩
theorem obsXG_eq {n : Nat} {fa : List He.Fa} {fn : List He.DefD} {ex : PySem.W.Frag → Bool} {g : Addr → Option Obj} {s : Shared} (h : ∀ a, g a = s.heap.get? a) : obsXG n fa fn ex g = (hookX n fa fn ex).obs s := by
  have e : g = s.heap.get? := funext h
  rw [e] <;> rfl
theorem SaysX.ex {fa : List He.Fa} {fn : List He.DefD} {ex : PySem.W.Frag → Bool} {K : PySem.W.Frag} (c : SaysX fa fn ex K) : ex K = true := congrArg (fun z : AlX => z.1) c
theorem SaysX.d {fa : List He.Fa} {fn : List He.DefD} {ex : PySem.W.Frag → Bool} {K : PySem.W.Frag} (c : SaysX fa fn ex K) : He.SaysD fa fn K := congrArg (fun z : AlX => z.2) c

/-! ### the law's promise -/
def spL (K : PySem.W.Frag) : Sp := fun vs H Q _ => ∃ (a : Addr) (ns : List Int), vs = [.ref a] ∧ ns.length ≤ 63 ∧ Only H ∧ SqL K H a (ns.map V.int) ∧ ∀ H', Q (.bl true) H'
theorem spL_spF {G : Gen} {f : Fn} (hf : ∀ ns : List Int, ns.length ≤ 63 → ∃ ds', f [.scr ns] = some (.bl true, ds')) (vs : List V) (H : Hp) (Q : VK) (E : XK) (h : spL G.K vs H Q E) : spF G [.ro] f vs H Q E := by
  obtain ⟨a, ns, rfl, hn, hO, hS, hQ⟩ := h
  obtain ⟨ds', e⟩ := hf ns hn
  have W : World G ⟨H, fun _ => False, fun _ => none⟩ := ⟨fun b o q => by
    rcases hO b with n | ⟨o', xs, n⟩
    · rw [show H b = some o from q] at n; cases n
    · rw [show H b = some o from q] at n; cases n; exact Nat.zero_le _, fun _ q => q.elim, fun _ _ _ q => nomatch q⟩
  have sc : ScrAt G ⟨H, fun _ => False, fun _ => none⟩ a (ns.map V.int) := by
    rcases hS with (q | ⟨o, q⟩) | q
    · rcases hO a with n | ⟨o', xs, n⟩
      · rw [q] at n; cases n
      · rw [q] at n; cases n
    · exact .inl ⟨o, q⟩
    · exact .inr q
  refine ⟨⟨H, fun _ => False, fun _ => none⟩, [.scr ns], Fp.zero, .bl true, ds', rfl, W, Own.zero, ?_, e, fun v w' mv mb W' r _ _ _ => ?_⟩
  · refine ⟨.scr ns, [], .ref a, [], Fp.zero, rfl, rfl, ?_, Own.zero, fun _ => .inl rfl, rfl, rfl, rfl⟩
    simp only [Rep]
    exact ⟨trivial, a, rfl, sc⟩
  · simp only [Rep] at r
    obtain ⟨rfl, _⟩ := r
    exact hQ _
theorem fnOk_law {P : Program} {w : PySem.World} {mg : Str → Option Value} {base : Heap} {k : Nat} {f : Addr} {fd : FuncData} {G : Gen} {m : Fn} {ps : List Str} (F : FnOk P w G.K mg base L2.CX0 k f fd ps (spF G [.ro] m))
    (hm : ∀ ns : List Int, ns.length ≤ 63 → ∃ ds', m [.scr ns] = some (.bl true, ds')) : FnOk P w G.K mg base L2.CX0 k f fd ps (spL G.K) := F.imp (spL_spF hm)
end TL
end
section
set_option maxRecDepth 100000
/-! The tree layer: enumerate over lists and tuples. -/
namespace TL
open PySem PySem.Spec PyProof.Rows L2
set_option maxHeartbeats 1000000 in
theorem meets_enum_new1 {v : Value} {o : Obj} {H : Heap → Prop} (B : Begins v o H) :
    Meets (Builtin.«enumerate.__new__» ⟨[.type "enumerate", v], []⟩) (fun _ R s => H s.heap ∧
      R (.ok (.ret (.ref (s.heap.push o).objs.size))) { s with heap := (s.heap.push o).push { cls := .type "enumerate", data := .fields #[.none, .bool false, .ref s.heap.objs.size, rawInt 0, .none, .none] } }) :=
  .of_wp fun prog w A R s h => by
    obtain ⟨hp, g, d, tk, os⟩ := s; obtain ⟨h1, h⟩ := h
    have hsub := sub_enumerate
    have q1 : ∀ {A' : Around} {E : Value → Shared → Prop} {Q : Value → Shared → Prop}, Q (.ref hp.objs.size) ⟨hp.push o, g, d, tk, os⟩ → wpAny (model prog w) A' (pyIter v) Q E ⟨hp, g, d, tk, os⟩ :=
      fun q => B.iter prog w _ _ ⟨hp, g, d, tk, os⟩ _ h1 q
    wp_walk using q1
    refine wpAny_stack_any fun st => wpAny_pure ?_
    split
    · rename_i c _ _ _ _ _
      cases (c == Value.type "enumerate")
      · wp_walk using q1
        exact ⟨_, rfl, h⟩
      · wp_walk using q1
        exact ⟨_, rfl, h⟩
    · wp_walk using q1
      exact ⟨_, rfl, h⟩
section
variable {prog : Program} {w : PySem.World} {A : Around} {E : Value → Shared → Prop} {s : Shared}
theorem call_enum_begins {v : Value} {o : Obj} {H : Heap → Prop} {Q : Value → Shared → Prop} (B : Begins v o H) (h1 : H s.heap)
    (h : ∀ h', IsEnum h' (s.heap.objs.size + 1) s.heap.objs.size 0 .none → h'.get? s.heap.objs.size = some o → h'.objs.size = s.heap.objs.size + 2 →
      (∀ b o, s.heap.get? b = some o → h'.get? b = some o) → Q (.ref (s.heap.objs.size + 1)) { s with heap := h' }) :
    wpAny (model prog w) A (call (.type "enumerate") [v]) Q E s := by
  refine callType_new F.called_enumerate (by decide) (F.typeCall_enumerate_1 _) (F.newCall_enumerate_1 _) (fun obj => F.args_object_init_2 obj _) F.entry_enumerate_new
    (meets_enum_new1 B) ⟨h1, ?_⟩
  have hz : (s.heap.push o).objs.size = s.heap.objs.size + 1 := Heap.size_push ..
  show _ ∧ _
  rw [hz]
  have he : IsEnum ((s.heap.push o).push { cls := .type "enumerate", data := .fields #[.none, .bool false, .ref s.heap.objs.size, rawInt 0, .none, .none] }) (s.heap.objs.size + 1) s.heap.objs.size 0 .none := by
    have := Heap.get?_push_size (s.heap.push o) (o := { cls := .type "enumerate", data := .fields #[.none, .bool false, .ref s.heap.objs.size, rawInt 0, .none, .none] }) rfl
    rw [hz] at this; exact this
  refine ⟨⟨_, he, rfl⟩, h _ he (Heap.get?_push_of_some _ (Heap.get?_push_size _ B.free)) (by rw [Heap.size_push, hz]) fun b o x => Heap.get?_push_of_some _ (Heap.get?_push_of_some _ x)⟩
theorem enumT_end {e it t : Addr} {i : Nat} {items : Array Value} {old : Value} {Q : Option Value → Shared → Prop} (hh : A.handled = none)
    (he : IsEnum s.heap e it i old) (hit : s.heap.IsTupleIter it t i) (hl : s.heap.IsTuple t items) (hx : items[i]? = none)
    (hQ : ∀ h', Heap.ExtBut it s.heap h' → Q none { s with heap := h' }) : wpAny (model prog w) A (pyNext (.ref e)) Q E s := by
  have hT : s.TypeIs (.ref e) "enumerate" := ⟨_, he, rfl⟩
  unfold pyNext
  refine wpAny_bind (wpAny_attempt (wpAny_callSpecial?_slot (name := Str.ofString "__next__") hT F.slot_enumerate_next
    (wpAny_call_entry F.slot_enumerate_next hT F.entry_enumerate_next ?_ (F.args_enumerate_next_1 _))))
  show wpAny _ _ (field (.ref e) 2 >>= _) _ _ _
  refine wpAny_bind (wpAny_field he rfl (x := .ref it) rfl ?_)
  refine wpAny_bind (wpAny_nextOf_tuple_end hh hit hl hx fun h' x he' hx' => ?_)
  obtain ⟨o, ho, hc⟩ := hx'
  refine wpAny_bind (wpAny_isInstance (T := "StopIteration") (b := true) ⟨o, ho, hc⟩ isSubtype_stop ?_)
  exact wpAny_pure (hQ _ he')
end
/-- the tuple at a, each item in a new pair -/
def IteT (K : PySem.W.Frag) (a : Addr) : It :=
  ⟨fun i H => ∃ (xs : List V) (x : V), SqT K H a xs ∧ xs[i]? = some x, fun i H v H' => ∃ T x, v = .ref T ∧ H T = none ∧ H' = upd H T (.tup [.int (i : Nat), x]) ∧ ∀ xs, SqT K H a xs → xs[i]? = some x, fun i H => ∃ xs : List V, SqT K H a xs ∧ xs.length ≤ i⟩
theorem turn_enumT {P : Program} {w : PySem.World} {K : PySem.W.Frag} {elts : List Expr} {kk : Nat} {tpos : Pos} (a e it : Addr) :
    Turn P w K (.Tuple elts kk tpos) (IteT K a) [e, it] e (fun i h => (∃ old, IsEnum h e it ((i : Nat) : Int) old) ∧ h.IsTupleIter it a i ∧ e ≠ it) where
  mem := by simp
  obj := fun i h st b hb => by
    obtain ⟨⟨old, he⟩, ⟨o, ho, hc, hd⟩, _⟩ := st
    have e' : b = e ∨ b = it := by simpa using hb
    rcases e' with z | z
    · rw [z]; exact ⟨_, he, fun v q => nomatch q⟩
    · rw [z]; exact ⟨o, ho, fun v q => by rw [hd] at q; cases q⟩
  keep := fun i h h' st k => let ⟨⟨old, he⟩, hi, hne⟩ := st; ⟨⟨old, k e (by simp) _ he⟩, hi.at fun o q => k it (by simp) o q, hne⟩
  item := by
    intro X hP hw hK hc i pins s σ H E I hf st hg
    subst hP hw hK
    obtain ⟨⟨old, he⟩, hit, hne⟩ := st
    obtain ⟨xs, x, hq, hx⟩ := hg
    obtain ⟨its, rv, p, hz⟩ := I.tuple hq
    obtain ⟨u, hu, ru⟩ := rv.get hx
    have p' : s.heap.IsTuple a its.toArray := p
    have hel : e < s.heap.objs.size := Heap.lt_size he
    have hil : it < s.heap.objs.size := by obtain ⟨_, q, _⟩ := hit; exact Heap.lt_size q
    have hea : e ≠ a := fun z => by
      subst z
      obtain ⟨o, ho, hcl, _⟩ := p'
      have he' : s.heap.get? e = some _ := he
      rw [ho] at he'
      cases he'
      exact absurd hcl (by simp)
    have hia : a ≠ it := fun z => by
      subst z
      obtain ⟨o, ho, hcl, _⟩ := p'
      obtain ⟨o', ho', hcl', _⟩ := hit
      rw [ho] at ho'
      cases ho'
      rw [hcl] at hcl'
      exact absurd hcl' (by simp)
    have hlt : i < its.toArray.size := by
      have := (List.getElem?_eq_some_iff.mp hu).1
      simpa using this
    refine wpAny_pyNext_enum_itemC (c := (i : Int)) (Draws.tuple (prog := X.prog) (w := X.w) (A := X.A.in1) (I.ok.hd hc) it a hia its.toArray) he ⟨hit, p'⟩ hlt hne (by simp [hne, hea]) fun x1 h' tk hP1 ho st' hT hsz hk => ?_
    obtain ⟨hit', _⟩ := st'
    have eu : x1 = u := by
      have h1 : its[i]? = some x1 := by simpa using hP1
      rw [hu] at h1
      exact (Option.some.inj h1).symm
    subst eu
    refine ⟨_, rfl, wpAny_letOwnedTupleGo_enum (s := { s with heap := h', toks := tk + 1 }) ho fun h'' he' sb => ?_⟩
    have hT2 : h''.get? s.heap.objs.size = some { cls := .type "tuple", data := .seq #[.int i tk, x1] } := (sb.2 _ (Nat.ne_of_gt hel)).trans hT
    have new : ObjOk X.prog X.w (upd H s.heap.objs.size (.tup [.int (i : Nat), x])) h'' s.heap.objs.size (.tup [.int (i : Nat), x]) :=
      ⟨by show 2 ≤ sizeLine; decide, [.int i tk, x1], .cons ⟨_, rfl⟩ (.cons ru .nil), ⟨_, hT2, rfl, _, rfl⟩⟩
    have I1 : Inv X pins σ (upd H s.heap.objs.size (.tup [.int (i : Nat), x])) { s with heap := h'', toks := tk + 1 } :=
      I.turnedNew (ch := [e, it]) (fun b ob hb q => (sb.2 b (fun z => hb (by simp [z]))).trans (hk b ob (fun z => hb (by simp [z])) (fun z => hb (by simp [z])) q)) hf (Nat.le_refl _) new
    refine ⟨.ref s.heap.objs.size, _, I1, rfl, ⟨_, x, rfl, I.hok.fresh (Nat.le_refl _), rfl, fun ys hy => by rw [I.tuple_inj hy hq]; exact hx⟩, ⟨⟨x1, ?_⟩, hit'.at fun o q => (sb.2 it (Ne.symm hne)).trans q, hne⟩, fun b hb => ?_⟩
    · have e1 : ((i + 1 : Nat) : Int) = (i : Int) + 1 := by omega
      rw [e1]; exact he'
    · have hb' : b < s.heap.objs.size := by
        have e' : b = e ∨ b = it := by simpa using hb
        rcases e' with z | z
        · rw [z]; exact hel
        · rw [z]; exact hil
      rw [upd_ne (Nat.ne_of_lt hb')]
      exact (hf b hb).1
  done := by
    intro X hP hw hK hc i pins s σ H E I hf st hg
    subst hP hw hK
    obtain ⟨⟨old, he⟩, hit, hne⟩ := st
    obtain ⟨xs, hq, hx⟩ := hg
    obtain ⟨its, rv, p, hz⟩ := I.tuple hq
    obtain ⟨f0, f1, f2, f3, f4, f5⟩ := hf it (by simp)
    have hl := rv.length
    exact enumT_end (I.ok.hd hc) he hit (show s.heap.IsTuple a its.toArray from p) (by simp; omega) fun h' eb => ⟨rfl, I.turned (t' := s.toks) (fun b o hb q => eb b o hb q) f0 f1 f3 f4 f5⟩
  self := fun A i s Q E st h => let ⟨⟨_, he⟩, _⟩ := st; wpAny_pyIter_enum he h
def iEnumT (K : PySem.W.Frag) (ta : TA) : TI := fun σ H R => ta σ H fun vs H1 => ∃ a xs, vs = [.ref a] ∧ SqT K H1 a xs ∧ R (IteT K a) H1
theorem pi_enumT {X : L2.Cx} {e : Expr} {ta : TA} {p pos tpos : Pos} {elts : List Expr} {kk : Nat} (hg : Gl X "enumerate") (hm : X.mg "enumerate" = none) (ha : PA X [e] ta) (hs : starEach [e] X.env = [(false, eval e X.env)] := by rfl) :
    PI X (.Tuple elts kk tpos) (.Call (.Name "enumerate" p) [e] [] pos) (iEnumT X.K ta) := by
  refine ⟨fun pins s σ H R I h => ?_⟩
  refine Call_ (ld_blt I hg hm boot_enumerate (PyProof.Rows.callWith_type1 (thn (ha.run pos pins s σ H _ I h) fun us s1 ⟨vs, H1, I1, r1, q1⟩ => ?_) hs rfl))
  obtain ⟨a, xs, ex, hq, q⟩ := q1
  subst ex
  cases r1 with
  | cons r rr =>
    cases rr
    cases r
    obtain ⟨its, rv, p', hz⟩ := I1.tuple hq
    refine call_enum_begins (begins_tuple a its.toArray) p' fun h' he hit hsz hk => wpAny_pyIter_enum he ?_
    have hit' : h'.IsTupleIter s1.heap.objs.size a 0 := ⟨_, hit, rfl, rfl⟩
    have I2 : Inv X pins σ H1 { s1 with heap := h' } := I1.kept (t' := s1.toks) hk
    refine ⟨s1.heap.objs.size + 1, [s1.heap.objs.size + 1, s1.heap.objs.size], _, _, H1, rfl, I2, turn_enumT a (s1.heap.objs.size + 1) s1.heap.objs.size, ⟨⟨.none, he⟩, hit', Nat.succ_ne_self _⟩, fun b hb => ?_, q⟩
    have e' : b = s1.heap.objs.size + 1 ∨ b = s1.heap.objs.size := by simpa using hb
    have hle : s1.heap.objs.size ≤ b := by
      rcases e' with z | z
      · rw [z]; exact Nat.le_add_right _ _
      · rw [z]; exact Nat.le_refl _
    exact I1.fpOk hle (I1.hok.fresh hle)
/-! ### by trees -/
def enumD (i : Int) : List D → List D
  | [] => []
  | x :: xs => .tup [.int i, x] :: enumD (i + 1) xs
theorem enumD_len : ∀ (i : Int) (xs : List D), (enumD i xs).length = xs.length
  | i, [] => rfl
  | i, x :: xs => by simp [enumD, enumD_len (i + 1) xs]
theorem enumD_get : ∀ {k : Int} {xs : List D} {i : Nat} {d : D}, (enumD k xs)[i]? = some d → ∃ x, xs[i]? = some x ∧ d = .tup [.int (k + i), x]
  | k, [], i, d, h => by simp [enumD] at h
  | k, x :: xs, 0, d, h => by simp [enumD] at h; exact ⟨x, rfl, by rw [← h]; simp⟩
  | k, x :: xs, i + 1, d, h => by
    obtain ⟨y, h1, h2⟩ := enumD_get (k := k + 1) (xs := xs) (i := i) (by simpa [enumD] using h)
    refine ⟨y, by simpa using h1, h2.trans ?_⟩
    have : k + 1 + (i : Int) = k + ((i + 1 : Nat) : Int) := by omega
    rw [this]
def enD (d : D) : Option (List D) := match seqOf d with
  | some xs => if immL xs = true then some (enumD 0 xs) else none
  | none => none
def iEnB (f : Ev) : EvI := fun e => match f e with
  | some d => enD d
  | none => none
def iEnM (f : EvM) : EvIM := fun e => match f e with
  | some (d, e1) => match enD d with
    | some xs => some (xs, e1)
    | none => none
  | none => none
section
variable {X : L2.Cx} {G : Gen} {ro : Nat → Bool}
theorem pairI_new {w : Wd} {p : Addr} {i : Int} {x : D} {u : V} (W : World G w) (hp : w.h p = none) (rx : Rep G w x u Fp.zero) :
    World G (w.new p (.tup [.int i, u])) ∧ Ext Fp.zero w (w.new p (.tup [.int i, u])) Fp.zero ∧ Rep G (w.new p (.tup [.int i, u])) (.tup [.int i, x]) (.ref p) Fp.zero := pair_new W hp Rep.mkInt rx
theorem ite_ok (F : X.K = G.K) {w : Wd} {a : Addr} {vs : List V} {xs : List D} {f : Bool} (h : At w f a (.lst vs)) (r : RepL G w xs vs Fp.zero) :
    ItOk G (Ite X.K a) (fl f a Fp.zero) (enumD 0 xs) (fun w => At w f a (.lst vs) ∧ RepL G w xs vs Fp.zero) := by
  refine ⟨fun w1 w2 k k' W1 O1 ⟨h1, r1⟩ x => ⟨At.ext x W1 O1.left (O1.apart.symm) O1.right h1, RepL.ext x W1 O1.left _ _ _ Apart.zero Own.zero r1⟩, fun w ⟨h1, _⟩ b q => ?_, fun w i d ⟨h1, r1⟩ W hi => ?_, fun w i d x H' ⟨h1, r1⟩ W hi y => ?_, fun w ⟨h1, r1⟩ W => ⟨vs, SqL.of h1.1, by rw [enumD_len, r1.len]; exact Nat.le_refl _⟩⟩
  · rcases fl_cases q with ⟨_, rfl⟩ | q
    · rw [h1.1]; simp
    · exact absurd rfl q
  · obtain ⟨x, hx, _⟩ := enumD_get hi
    obtain ⟨v, md, e1, _, _⟩ := r1.get i x hx
    exact ⟨vs, v, SqL.of h1.1, e1⟩
  · obtain ⟨y0, hx, rfl⟩ := enumD_get hi
    obtain ⟨T, u, rfl, hT, rfl, q1⟩ := y
    have z1 := r1.zero_iff i y0 u hx (q1 vs (SqL.of h1.1))
    obtain ⟨p1, p2, p3⟩ := pairI_new (i := (i : Int)) W hT z1
    rw [Int.zero_add]
    exact ⟨_, rfl, p1, p2, p3⟩
theorem itet_ok (F : X.K = G.K) {w : Wd} {a : Addr} {vs : List V} {xs : List D} (h : SqT G.K w.h a vs) (r : RepL G w xs vs Fp.zero) :
    ItOk G (IteT X.K a) Fp.zero (enumD 0 xs) (fun w => SqT G.K w.h a vs ∧ RepL G w xs vs Fp.zero) := by
  refine ⟨fun w1 w2 k k' W1 O1 ⟨h1, r1⟩ x => ⟨SqT.ext x h1, RepL.ext x W1 O1.left _ _ _ Apart.zero Own.zero r1⟩, fun w _ b q => absurd rfl q, fun w i d ⟨h1, r1⟩ W hi => ?_, fun w i d x H' ⟨h1, r1⟩ W hi y => ?_, fun w ⟨h1, r1⟩ W => ⟨vs, by rw [F]; exact h1, by rw [enumD_len, r1.len]; exact Nat.le_refl _⟩⟩
  · obtain ⟨x, hx, _⟩ := enumD_get hi
    obtain ⟨v, md, e1, _, _⟩ := r1.get i x hx
    exact ⟨vs, v, by rw [F]; exact h1, e1⟩
  · obtain ⟨y0, hx, rfl⟩ := enumD_get hi
    obtain ⟨T, u, rfl, hT, rfl, q1⟩ := y
    have z1 := r1.zero_iff i y0 u hx (q1 vs (by rw [F]; exact h1))
    obtain ⟨p1, p2, p3⟩ := pairI_new (i := (i : Int)) W hT z1
    rw [Int.zero_add]
    exact ⟨_, rfl, p1, p2, p3⟩
theorem enD_cases {d : D} {xs : List D} (h : enD d = some xs) : ∃ ys, immL ys = true ∧ xs = enumD 0 ys ∧ ((∃ m, d = .lst m ys) ∨ d = .tup ys) := by
  unfold enD at h
  split at h
  · rename_i ys hs
    split at h
    · rename_i hi
      cases h
      refine ⟨ys, hi, rfl, ?_⟩
      cases d <;> simp only [seqOf, Option.some.injEq] at hs <;> try cases hs
      · exact .inr rfl
      · exact .inl ⟨_, rfl⟩
    · cases h
  · cases h
theorem i_enumM {e : Expr} {f : EvM} {p pos tpos : Pos} {elts : List Expr} {kk : Nat} (F : Fit X G) (hg : Gl X "enumerate") (hm : X.mg "enumerate" = none) (ha : PE X e (tM G ro f))
    (hs : starEach [e] X.env = [(false, eval e X.env)] := by rfl) :
    PI X (.Tuple elts kk tpos) (.Call (.Name "enumerate" p) [e] [] pos) (tIM G ro (iEnM f)) :=
  PI.weak (PI.or (pi_enum hg hm (pa_cons ha pa_nil hs) hs) (pi_enumT hg hm (pa_cons ha pa_nil hs) hs)) fun σ H Rk ⟨R, w, e, m, xs, e', e0, S, hf, k⟩ => by
    unfold iEnM at hf
    split at hf
    · rename_i d e1 hd
      split at hf
      · rename_i xs' hen
        cases hf
        obtain ⟨ys, hi, rfl, ⟨mm, rfl⟩ | rfl⟩ := enD_cases hen
        · refine .inl ⟨R, w, e, m, _, _, e0, S, hd, fun v w1 md m1 S1 r1 x1 => ?_⟩
          simp only [Rep] at r1
          obtain ⟨a, vs, m', rfl, h1, h2, rfl⟩ := r1
          obtain ⟨h3, rfl⟩ := h2.immM hi
          exact ⟨a, vs, rfl, SqL.of h1.1, k _ w1 _ m1 _ S1 (ite_ok F.K h1 h3) ⟨h1, h3⟩ x1⟩
        · refine .inr ⟨R, w, e, m, _, _, e0, S, hd, fun v w1 md m1 S1 r1 x1 => ?_⟩
          simp only [Rep] at r1
          obtain ⟨a, vs, rfl, h1, h2⟩ := r1
          obtain ⟨h3, rfl⟩ := h2.immM hi
          exact ⟨a, vs, rfl, by rw [F.K]; exact h1, k _ w1 Fp.zero m1 _ S1 (itet_ok F.K h1 h3) ⟨h1, h3⟩ x1⟩
      · cases hf
    · cases hf
theorem i_enumB {e : Expr} {f : Ev} {p pos tpos : Pos} {elts : List Expr} {kk : Nat} (F : Fit X G) (hg : Gl X "enumerate") (hm : X.mg "enumerate" = none) (ha : PE X e (tB G ro f))
    (hs : starEach [e] X.env = [(false, eval e X.env)] := by rfl) :
    PI X (.Tuple elts kk tpos) (.Call (.Name "enumerate" p) [e] [] pos) (tIB G ro (iEnB f)) :=
  PI.weak (PI.or (pi_enum hg hm (pa_cons ha pa_nil hs) hs) (pi_enumT hg hm (pa_cons ha pa_nil hs) hs)) fun σ H Rk ⟨R, w, e, m, xs, e0, S, hf, k⟩ => by
    unfold iEnB at hf
    split at hf
    · rename_i d hd
      obtain ⟨ys, hi, rfl, ⟨mm, rfl⟩ | rfl⟩ := enD_cases hf
      · refine .inl ⟨R, w, e, m, _, e0, S, hd, fun v w1 mb S1 r1 o1 x1 => ?_⟩
        simp only [Rep] at r1
        obtain ⟨a, vs, m', rfl, h1, h2, rfl⟩ := r1
        obtain ⟨h3, rfl⟩ := h2.immM hi
        exact ⟨a, vs, rfl, SqL.of h1.1, k _ w1 _ _ S1 (ite_ok F.K h1 h3).to0 ⟨⟨h1, h3⟩, o1⟩ x1⟩
      · refine .inr ⟨R, w, e, m, _, e0, S, hd, fun v w1 mb S1 r1 o1 x1 => ?_⟩
        simp only [Rep] at r1
        obtain ⟨a, vs, rfl, h1, h2⟩ := r1
        obtain ⟨h3, _⟩ := h2.immM hi
        exact ⟨a, vs, rfl, by rw [F.K]; exact h1, k _ w1 _ _ S1 (itet_ok F.K h1 h3).to0 ⟨⟨h1, h3⟩, Own.zero⟩ x1⟩
    · cases hf
end
end TL
end
section
set_option maxRecDepth 100000
/-! The tree layer: xs.extend(ys), ys what owns nothing. -/
namespace TL
open PySem PySem.Spec PyProof.Rows L2
theorem extend_tuple (l : Addr) (items : Array Value) (n : Nat) (b : Addr) (items2 : Array Value) (n2 : Nat) (dct : Option Addr) (sl : Array (Option Value)) (hs0 : ¬(!items.isEmpty && Builtin.List.listTooLong (items.size + items2.size)) = true) (hs1 : items.size ≤ sizeLine) (hs2 : items.size + items2.size ≤ sizeLine + 1) :
    Meets (Builtin.«list.extend» ⟨[.ref l, .ref b], []⟩) (fun _ R s => s.heap.get? l = some { cls := .type "list", dict := none, data := .seq items n, slots := #[] } ∧ s.heap.get? b = some { cls := .type "tuple", dict := dct, data := .seq items2 n2, slots := sl } ∧ R (.ok (.ret Value.none)) { s with heap := s.heap.update l (Obj.mapSeq fun x => x ++ items2), toks := s.toks }) :=
  .of_wp fun prog w A R s h => by
    obtain ⟨hp, g, d, tk, os⟩ := s; obtain ⟨hl, hb, h⟩ := h; have f1 := AutoSeq1.idx_int; have f2 := AutoSeq1.sub_tuple_tuple; have f3 := AutoSeq1.sub_list_list; have f4 := AutoSeq1.sub_tuple_list; have f5 := AutoSeq1.sub_list_tuple
    have hz' : (items ++ items2).size ≤ sizeLine + 1 := by rw [Array.size_append]; exact hs2
    wp_walk using (wpAny_updateSeq hl rfl (hz := hs1) (_hz' := hz')), AutoSeq1.wpAny_loadPart' hl, AutoSeq1.wpAny_loadPart' hb; exact ⟨_, rfl, h⟩
section
variable {X : L2.Cx} {G : Gen} {ro fx : Nat → Bool} {w : Wd}
def rExtT (K : PySem.W.Frag) : V → List V → Hp → VK → Prop := fun x vs H Q => ∃ l b xs zs, x = .ref l ∧ vs = [.ref b] ∧ H l = some (.lst xs) ∧ SqT K H b zs ∧ xs.length + zs.length ≤ sizeLine ∧ Q .non (upd H l (.lst (xs ++ zs)))
theorem mt_extT : MtM X "list.extend" (rExtT X.K) := by
  intro pins s σ H x vs v us Q I rx rv h
  obtain ⟨l, b, xs, zs, rfl, rfl, hH, hB, hz, q⟩ := h
  cases rx
  obtain ⟨u, rfl, ru⟩ := rv.one
  cases ru
  obtain ⟨z, its, n, r, hl, e⟩ := I.lstM hH
  obtain ⟨its2, r2, ⟨⟨c2, d2, dt2, s2⟩, e2, hc2, n2, hd2⟩, hl2⟩ := I.tuple hB
  replace hc2 : c2 = .type "tuple" := hc2
  replace hd2 : dt2 = .seq its2.toArray n2 := hd2
  subst hc2 hd2
  have l1 := r.length
  have l2 := r2.length
  have hsz : its.toArray.size + its2.toArray.size ≤ sizeLine := by rw [List.size_toArray, List.size_toArray]; omega
  have hlong : ¬ (!its.toArray.isEmpty && Builtin.List.listTooLong (its.toArray.size + its2.toArray.size)) = true := by
    rw [notLongL hsz, Bool.and_false]
    exact Bool.false_ne_true
  refine call_meets PySem.F.slot_list_extend ⟨_, e, rfl⟩ PySem.F.entry_list_extend (PySem.F.args_list_extend_2 _ _)
    (extend_tuple l its.toArray n b its2.toArray n2 d2 s2 hlong (by rw [List.size_toArray]; omega) (by omega)) ⟨e, e2, ?_⟩
  refine ⟨.non, _, I.lset (its' := its ++ its2) hH e (by simp) (r.append r2) ?_, rfl, q⟩
  rw [List.length_append]
  omega
theorem MtM.or {id : String} {r r' : V → List V → Hp → VK → Prop} (h : MtM X id r) (h' : MtM X id r') : MtM X id (fun x vs H Q => r x vs H Q ∨ r' x vs H Q) := by
  intro pins s σ H x vs v us Q I rx rv q
  exact q.elim (h pins s σ H x vs v us Q I rx rv) (h' pins s σ H x vs v us Q I rx rv)
/-- xs.extend(ys) by trees -/
theorem Rep.extL {a : Addr} {xs zs : List D} {us : List V} {m : Fp} (W : World G w) (r : Rep G w (.lst true xs) (.ref a) m) (O : Own w m) (rd : RepL G w zs us Fp.zero) (hl : xs.length + zs.length ≤ sizeLine) :
    ∃ vs, w.h a = some (.lst vs) ∧ vs.length = xs.length ∧ m a ≠ 0 ∧ World G (w.new a (.lst (vs ++ us))) ∧ Rep G (w.new a (.lst (vs ++ us))) (.lst true (xs ++ zs)) (.ref a) m ∧ Own (w.new a (.lst (vs ++ us))) m ∧ ∀ k : Fp, k a ≠ 0 → Ext k w (w.new a (.lst (vs ++ us))) k := by
  simp only [Rep] at r
  obtain ⟨a', vs, m', ea, h1, h2, rfl⟩ := r
  cases ea
  have h := h1.1
  have oa := (O a).2 fl_at
  have x : Ext (Fp.one a) w (w.new a (.lst (vs ++ us))) (Fp.one a) := Ext.set h rfl (by rw [Fp.one_same]; decide)
  have O1 : Own w (Fp.one a) := Own.one oa.1 oa.2
  have a1 : Apart m' (Fp.one a) := fun b => by
    have := (O b).1
    by_cases e : b = a
    · subst e; simp [fl, Fp.one_same] at this; exact .inl (by omega)
    · exact .inr (Fp.one_ne e)
  have om : Own w m' := O.le fl_le
  have len1 := h2.len
  have len2 := rd.len
  refine ⟨vs, h, len1.symm, fl_at, W.set h rfl oa.1 oa.2 (by show (vs ++ us).length ≤ sizeLine; simp; omega), ?_, O.keep, fun k hk => Ext.set h rfl hk⟩
  have q := RepL.app (RepL.ext x W O1 _ _ _ a1 om h2) (RepL.ext x W O1 _ _ _ Apart.zero Own.zero rd)
  rw [Fp.add_zero] at q
  simp only [Rep]
  exact ⟨a, vs ++ us, m', rfl, ⟨upd_same, fun q => nomatch q⟩, q, rfl⟩
def dExt : D → D → Option D
  | .lst true xs, d => match seqOf d with
    | some zs => if (immL zs && lim (xs.length + zs.length)) = true then some (.lst true (xs ++ zs)) else none
    | none => none
  | _, _ => none
def mExt (get : List D → Option D) (put : List D → D → List D) (h : EvM) : EvM := fun e => match get e with
  | some c0 => if isLst c0 = true then match h e with
      | some (d, e1) => match get e1 with
        | some c => match dExt c d with
          | some c' => some (.non, put e1 c')
          | none => none
        | none => none
      | none => none
    else none
  | none => none
theorem dExt_some {c d c' : D} (h : dExt c d = some c') : ∃ xs zs, c = .lst true xs ∧ immL zs = true ∧ lim (xs.length + zs.length) = true ∧ c' = .lst true (xs ++ zs) ∧ ((∃ m, d = .lst m zs) ∨ d = .tup zs) := by
  unfold dExt at h
  split at h
  · rename_i xs
    split at h
    · rename_i zs hs
      split at h
      · rename_i hq
        cases h
        rw [Bool.and_eq_true] at hq
        refine ⟨xs, zs, rfl, hq.1, hq.2, rfl, ?_⟩
        cases d <;> simp only [seqOf, Option.some.injEq] at hs <;> try cases hs
        · exact .inr rfl
        · exact .inl ⟨_, rfl⟩
      · cases h
    · cases h
  · cases h
theorem ext_ok {get : List D → Option D} {put : List D → D → List D} {to : TE} {R : List RoE} {e : List D} {σ : L2.St} {m md : Fp} {c c' d : D} {v : V} {w0 : Wd} {m0 : Fp} {Q : VK} {K : PySem.W.Frag} (hK : K = G.K) (P : PlaceOk G ro get put to) (S : SK G ro R w e σ m md) (rd : Rep G w d v md) (hc : get e = some c) (hp : dExt c d = some c') (x0 : Ext m0 w0 w (Fp.add m md))
    (k : ∀ v w' md m', SK G ro R w' (put e c') σ m' md → Rep G w' .non v md → Ext m0 w0 w' (Fp.add m' md) → Q v w'.h) : ∃ vc, (∀ Q : VK, Q vc w.h → to σ w.h Q) ∧ (rExtend vc [v] w.h Q ∨ rExtT K vc [v] w.h Q) := by
  subst hK
  obtain ⟨vc, mc, m2, h1, r, rfl, kk⟩ := P.ok S hc
  refine ⟨vc, h1, ?_⟩
  obtain ⟨xs, zs, rfl, hi, hl, rfl, hd⟩ := dExt_some hp
  have r0 := r
  simp only [Rep] at r0
  obtain ⟨a, vs, m', rfl, g1, g2, rfl⟩ := r0
  have O1 : Own w (fl true a m') := S.own.le fun b => by simp <;> omega
  have hlen : xs.length + zs.length ≤ sizeLine := by have := lim_size hl; omega
  have fin : ∀ us, RepL G w zs us Fp.zero → Q .non (upd w.h a (.lst (vs ++ us))) := fun us rz => by
    obtain ⟨vs', hv1, hv2, hv3, W7, rc7, O7, X7⟩ := Rep.extL S.world r O1 rz hlen
    have ev : vs' = vs := by rw [g1.1] at hv1; cases hv1; rfl
    subst ev
    have x7 : Ext (fl true a m') w (w.new a (.lst (vs' ++ us))) (fl true a m') := X7 _ hv3
    have hmd : ∀ b, md b ≠ 0 → w.h b ≠ none := fun b q => Rep.there d v md rd b q
    obtain ⟨m'', S', l⟩ := kk _ Fp.zero md Fp.zero _ (fl true a m') (Fp.zero_add md).symm (by simp only [Fp.add_zero]; exact x7) W7 (by simp only [Fp.add_zero]; exact O7) rc7 hmd
    rw [Fp.add_zero] at S'
    refine k .non _ Fp.zero m'' S'.zero Rep.mkNon ?_
    have y : Ext (Fp.add m2 (fl true a m')) w _ (Fp.add m2 (fl true a m')) := x7.frame
    refine (x0.trans (y.more (k0 := Fp.add (Fp.add (fl true a m') m2) md) fun b q => by simp at *; omega)).less fun b q => ?_
    have := l b; simp at *; omega
  have l1 := g2.len
  rcases hd with ⟨mm, rfl⟩ | rfl
  · simp only [Rep] at rd
    obtain ⟨b, us, mb, rfl, hb1, hb2, rfl⟩ := rd
    obtain ⟨hb3, _⟩ := hb2.immM hi
    have l2 := hb3.len
    exact .inl ⟨a, b, vs, us, rfl, rfl, g1.1, hb1.1, by omega, fin us hb3⟩
  · simp only [Rep] at rd
    obtain ⟨b, us, rfl, hb1, hb2⟩ := rd
    obtain ⟨hb3, _⟩ := hb2.immM hi
    have l2 := hb3.len
    exact .inr ⟨a, b, vs, us, rfl, rfl, g1.1, hb1, by omega, fin us hb3⟩
end
end TL
end
section
set_option maxRecDepth 100000
/-! The tree layer: extend as a statement, max, min, list and tuple of a range. -/
namespace TL
open PySem PySem.Spec PyProof.Rows L2
section
variable {X : L2.Cx} {G : Gen} {ro fx : Nat → Bool} {w : Wd}
theorem mExt_some {get : List D → Option D} {put : List D → D → List D} {h : EvM} {e e' : List D} {d : D} (hh : mExt get put h e = some (d, e')) : ∃ c0 d1 e1 c c', get e = some c0 ∧ isLst c0 = true ∧ h e = some (d1, e1) ∧ get e1 = some c ∧ dExt c d1 = some c' ∧ d = .non ∧ e' = put e1 c' := by
  unfold mExt at hh
  split at hh
  · rename_i c0 h0
    split at hh
    · rename_i hl
      split at hh
      · rename_i d1 e1 h1
        split at hh
        · rename_i c hc
          split at hh
          · rename_i c' hp
            cases hh
            exact ⟨c0, d1, e1, c, c', h0, hl, h1, hc, hp, rfl, rfl⟩
          · cases hh
        · cases hh
      · cases hh
    · cases hh
  · cases hh
variable {e : Expr} {apos cpos p : Pos} {x : Str} {h : EvM} {f : Ev}
theorem rM_extend (i : Nat) (F : Fit X G) (he : PE X e (tM G ro h)) (hr : ro i = false := by rfl) (hN : X.N[i]? = some x := by rfl) (hv : Vis X.env.scope x := by first | exact Or.inl rfl | exact Or.inr (Or.inl rfl) | exact Or.inr (Or.inr rfl)) (hd : (x == ("__debug__" : Str)) = false := by decide) (hcd : (x == ("__classdict__" : Str)) = false := by decide)
    (hbase : attributeBase (.Name x p) "extend" X.env (eval (.Name x p) X.env) = eval (.Name x p) X.env := by rfl)
    (hfew : ((backTo cpos (starEach [e] X.env)).all (fun x => !x.1) && (backToKw cpos (keywordEach [] X.env)).all (fun x => x.1.isSome)
      && decide ([e].length + ([] : List Keyword).length + (if ([] : List Keyword).isEmpty then 0 else 1) < 30)) = true := by rfl)
    (hline : (apos.endLine == cpos.line) = true := by rfl) (hs : starEach [e] X.env = (false, eval e X.env) :: starEach [] X.env := by rfl) (hplain : (backTo cpos (starEach [] X.env)).any (·.1) = false := by rfl) :
    PE X (.Call (.Attribute (.Name x p) "extend" apos) [e] [] cpos) (tM G ro (mExt (fun e => slot e i) (fun e c => e.set i c) h)) :=
  PE.weak (pe_bm PySem.F.plainAttrs_list PySem.F.slot_list_extend PySem.F.type_list_extend (MtM.or mt_extend mt_extT) (pe_var (i := i) hN hv hd hcd) (pa_cons he pa_nil hs) hbase hfew hline hs hplain) fun σ H Q ⟨R, w, e, m, d, e', e0, S, hf, k⟩ => by
    subst e0
    obtain ⟨c0, d1, e1, c, c', h0, hl, h1, hc, hp, rfl, rfl⟩ := mExt_some hf
    obtain ⟨v0, mb, q1, r0, _⟩ := S.slot h0
    obtain ⟨a, vs, rfl, h2⟩ := r0.isL hl
    refine ⟨.ref a, q1, .inl ⟨rfl, vs, SqL.of h2⟩, R, w, e, m, d1, e1, rfl, S, h1, fun v w1 md m1 S1 r1 x1 => ?_⟩
    obtain ⟨vc, g1, g2⟩ := ext_ok F.K (place_slot i hr) S1 r1 hc hp x1 k
    have ev : vc = .ref a := by
      obtain ⟨u, z1, z2⟩ := g1 (fun v _ => v = vc) rfl
      rw [q1] at z1; cases z1; exact z2.symm
    subst ev
    exact g2
/-! ### max, min -/
def maxI : List Int → Int
  | [] => 0
  | [x] => x
  | x :: xs => if x < maxI xs then maxI xs else x
def minI : List Int → Int
  | [] => 0
  | [x] => x
  | x :: xs => if minI xs < x then minI xs else x
theorem maxI_spec : ∀ {xs : List Int}, 0 < xs.length → maxI xs ∈ xs ∧ ∀ y ∈ xs, y ≤ maxI xs
  | [], h => by simp at h
  | [x], _ => by simp [maxI]
  | x :: y :: xs, _ => by
    obtain ⟨h1, h2⟩ := maxI_spec (xs := y :: xs) (by simp)
    simp only [maxI]
    split
    · refine ⟨List.mem_cons_of_mem _ h1, fun z hz => ?_⟩
      rcases List.mem_cons.mp hz with rfl | hz
      · omega
      · exact h2 z hz
    · refine ⟨List.mem_cons_self .., fun z hz => ?_⟩
      rcases List.mem_cons.mp hz with rfl | hz
      · omega
      · have := h2 z hz; omega
theorem minI_spec : ∀ {xs : List Int}, 0 < xs.length → minI xs ∈ xs ∧ ∀ y ∈ xs, minI xs ≤ y
  | [], h => by simp at h
  | [x], _ => by simp [minI]
  | x :: y :: xs, _ => by
    obtain ⟨h1, h2⟩ := minI_spec (xs := y :: xs) (by simp)
    simp only [minI]
    split
    · refine ⟨List.mem_cons_of_mem _ h1, fun z hz => ?_⟩
      rcases List.mem_cons.mp hz with rfl | hz
      · omega
      · exact h2 z hz
    · refine ⟨List.mem_cons_self .., fun z hz => ?_⟩
      rcases List.mem_cons.mp hz with rfl | hz
      · omega
      · have := h2 z hz; omega
def dMax : D → Option D
  | .lst _ xs => match intL xs with
    | some (b :: bs) => some (.int (maxI (b :: bs)))
    | _ => none
  | _ => none
def dMin : D → Option D
  | .lst _ xs => match intL xs with
    | some (b :: bs) => some (.int (minI (b :: bs)))
    | _ => none
  | _ => none
theorem c_max (F : Fit X G) : CallR X (.builtin "max") (rC G (g1 dMax)) := rC_of1 (CallR.weak (cr_max F.calm) fun vs H Q ⟨v, e1, w, d1, m1, d, e0, W, r1, o1, hf, k⟩ => by
  subst e0; subst e1
  unfold dMax at hf
  split at hf
  · split at hf
    · rename_i b bs hb
      cases hf
      simp only [Rep] at r1
      obtain ⟨a, us, m', rfl, h1, h2, rfl⟩ := r1
      have e := intL_rep hb h2
      subst e
      have s := maxI_spec (xs := b :: bs) (by simp)
      refine ⟨a, b :: bs, rfl, SqL.of h1.1, by simp, fun m hm hm2 => ?_⟩
      have : m = maxI (b :: bs) := by have := s.2 m hm; have := hm2 _ s.1; omega
      subst this
      exact Done.flat k W Rep.mkInt
    · cases hf
  · cases hf)
theorem c_min (F : Fit X G) : CallR X (.builtin "min") (rC G (g1 dMin)) := rC_of1 (CallR.weak (cr_min F.calm) fun vs H Q ⟨v, e1, w, d1, m1, d, e0, W, r1, o1, hf, k⟩ => by
  subst e0; subst e1
  unfold dMin at hf
  split at hf
  · split at hf
    · rename_i b bs hb
      cases hf
      simp only [Rep] at r1
      obtain ⟨a, us, m', rfl, h1, h2, rfl⟩ := r1
      have e := intL_rep hb h2
      subst e
      have s := minI_spec (xs := b :: bs) (by simp)
      refine ⟨a, b :: bs, rfl, SqL.of h1.1, by simp, fun m hm hm2 => ?_⟩
      have : m = minI (b :: bs) := by have := s.2 m hm; have := hm2 _ s.1; omega
      subst this
      exact Done.flat k W Rep.mkInt
    · cases hf
  · cases hf)
def g2 (g : D → D → Option D) : List D → Option D
  | [a, b] => g a b
  | _ => none
def dMax2 : D → D → Option D
  | .int i, .int j => some (.int (if j > i then j else i))
  | _, _ => none
def dMin2 : D → D → Option D
  | .int i, .int j => some (.int (if j < i then j else i))
  | _, _ => none
theorem rC_two {vs : List V} {H : Hp} {Q : VK} {g : D → D → Option D} (h : rC G (g2 g) vs H Q) : ∃ w a b v u m1 m2 d, w.h = H ∧ World G w ∧ vs = [v, u] ∧ Rep G w a v m1 ∧ Own w m1 ∧ Rep G w b u m2 ∧ Own w m2 ∧ g a b = some d ∧ Done G w d Q := by
  obtain ⟨w, ds, d, e0, W, r, hg, k⟩ := h
  unfold g2 at hg
  split at hg
  · rename_i a b
    obtain ⟨v, vs', m, rfl, r1, o1, u, vs2, m2, rfl, r2, o2, rfl⟩ := r
    exact ⟨w, a, b, v, u, m, m2, d, e0, W, rfl, r1, o1, r2, o2, hg, k⟩
  · cases hg
theorem c_max2 (F : Fit X G) : CallR X (.builtin "max") (rC G (g2 dMax2)) := CallR.weak (call_max2 F.calm) fun vs H Q h => by
  obtain ⟨w, a, b, v, u, m1, m2, d, e0, W, rfl, r1, o1, r2, o2, hf, k⟩ := rC_two h
  subst e0
  unfold dMax2 at hf
  split at hf
  · cases hf
    exact ⟨_, _, by rw [r1.int, r2.int], Done.flat k W Rep.mkInt⟩
  · cases hf
theorem c_min2 (F : Fit X G) : CallR X (.builtin "min") (rC G (g2 dMin2)) := CallR.weak (call_min2 F.calm) fun vs H Q h => by
  obtain ⟨w, a, b, v, u, m1, m2, d, e0, W, rfl, r1, o1, r2, o2, hf, k⟩ := rC_two h
  subst e0
  unfold dMin2 at hf
  split at hf
  · cases hf
    exact ⟨_, _, by rw [r1.int, r2.int], Done.flat k W Rep.mkInt⟩
  · cases hf
end
end TL
end
section
set_option maxRecDepth 100000
/-! The tree layer: list and tuple of a range. -/
namespace TL
open PySem PySem.Spec PyProof.Rows L2
section
variable {X : L2.Cx} {G : Gen} {ro fx : Nat → Bool} {w : Wd}
def rgD1 (t : Bool) (d : D) : Option D := match d with
  | .int j => if rngOk j = true then some (if t = true then .tup (intsN 0 j.toNat) else .lst true (intsN 0 j.toNat)) else none
  | _ => none
def rgD2 (t : Bool) (a d : D) : Option D := match a, d with
  | .int i, .int j => if (rngOk i && rngOk j && decide (j - i ≤ 16000000)) = true then some (if t = true then .tup (intsN i (j - i).toNat) else .lst true (intsN i (j - i).toNat)) else none
  | _, _ => none
theorem repl_ints {w : Wd} : ∀ (lo : Int) (n : Nat), RepL G w (intsN lo n) ((List.range n).map fun i => V.int (lo + (i : Nat))) Fp.zero
  | lo, 0 => RepL.nil
  | lo, n + 1 => by
    rw [List.range_succ_eq_map, List.map_cons, List.map_map]
    simp only [intsN, RepL]
    refine ⟨_, _, Fp.zero, Fp.zero, rfl, by have := @Rep.mkInt G w lo; simpa using this, ?_, by simp⟩
    have := repl_ints (w := w) (lo + 1) n
    have e : ((fun i : Nat => V.int (lo + (i : Int))) ∘ Nat.succ) = fun i : Nat => V.int (lo + 1 + (i : Int)) := by
      funext i; simp only [Function.comp]; congr 1; omega
    rw [e]; exact this
theorem rg_len (a b : Int) (h : RgOk a b) : (intsN a (b - a).toNat).length ≤ sizeLine := by
  rw [intsN_len]; have := h.2.2.2.2; rw [sizeLine_eq]; omega
theorem rg_ok {a b : Int} (h1 : rngOk a = true) (h2 : rngOk b = true) : RgOk a b ∨ True := .inr trivial
theorem new_lst {R : List RoE} {w : Wd} {e : List D} {σ : L2.St} {m : Fp} {q : Addr} {a b : Int} (S : SK G ro R w e σ m Fp.zero) (hr : RgOk a b) (hq : w.h q = none) :
    SK G ro R (w.new q (.lst (rgV a b))) e σ m (Fp.one q) ∧ Ext Fp.zero w (w.new q (.lst (rgV a b))) (Fp.one q) ∧ Rep G (w.new q (.lst (rgV a b))) (.lst true (intsN a (b - a).toNat)) (.ref q) (Fp.one q) := by
  have hl : (rgV a b).length ≤ sizeLine := by rw [rgV_length]; have := hr.2.2.2.2; rw [sizeLine_eq]; omega
  obtain ⟨n1, n2, _, _⟩ := S.newO (o := .lst (rgV a b)) (fun b q => absurd rfl q) hq hl
  rw [Fp.zero_add] at n1 n2
  refine ⟨n1, n2, ?_⟩
  simp only [Rep]
  exact ⟨q, rgV a b, Fp.zero, rfl, ⟨upd_same, fun q => nomatch q⟩, repl_ints _ _, by simp [fl]⟩
theorem new_tup {R : List RoE} {w : Wd} {e : List D} {σ : L2.St} {m : Fp} {q : Addr} {a b : Int} (S : SK G ro R w e σ m Fp.zero) (hr : RgOk a b) (hq : w.h q = none) :
    SK G ro R (w.new q (.tup (rgV a b))) e σ m Fp.zero ∧ Ext Fp.zero w (w.new q (.tup (rgV a b))) Fp.zero ∧ Rep G (w.new q (.tup (rgV a b))) (.tup (intsN a (b - a).toNat)) (.ref q) Fp.zero := by
  have hl : (rgV a b).length ≤ sizeLine := by rw [rgV_length]; have := hr.2.2.2.2; rw [sizeLine_eq]; omega
  obtain ⟨n1, n2, _, _⟩ := S.newO (o := .tup (rgV a b)) (fun b q => absurd rfl q) hq hl
  rw [Fp.zero_add] at n1 n2
  refine ⟨n1.zero, n2.less fun b q => absurd rfl q, ?_⟩
  simp only [Rep]
  exact ⟨q, rgV a b, rfl, .inl (.inl upd_same), repl_ints _ _⟩
variable {a b : Expr} {f f1 f2 : Ev} {p p2 pos pos2 : Pos}
theorem r_listRg1 (F : Fit X G) (hg : Gl X "list") (hm : X.mg "list" = none) (hg2 : Gl X "range") (hm2 : X.mg "range" = none) (ha : PE X a (tP G ro f)) (na : starEach [a] X.env = (false, eval a X.env) :: starEach [] X.env := by rfl)
    (ne : starEach [Expr.Call (.Name "range" p2) [a] [] pos2] X.env = (false, eval (.Call (.Name "range" p2) [a] [] pos2) X.env) :: starEach [] X.env := by rfl) :
    PE X (.Call (.Name "list" p) [.Call (.Name "range" p2) [a] [] pos2] [] pos) (tP G ro (p1 (rgD1 false) f)) :=
  PE.weak (pe_listRg F.calm hg hm (prg_1 hg2 hm2 ha na) ne) fun σ H Q ⟨R, w, e, m, d, e0, S, hf, k⟩ => by
    unfold p1 at hf
    split at hf
    · rename_i d0 hd
      refine ⟨R, w, e, m, d0, e0, S, hd, fun v w' md S' r x => ?_⟩
      unfold rgD1 at hf
      split at hf
      · rename_i j
        split at hf
        · rename_i hj
          cases hf
          have hb := rngOk_le hj
          have hr : RgOk 0 j := ⟨by omega, by omega, by omega, by omega, by omega⟩
          refine ⟨j, r.int, hr, fun q hq => ?_⟩
          obtain ⟨n1, n2, n3⟩ := new_lst S'.zero hr hq
          have e3 : (j - 0).toNat = j.toNat := by rw [Int.sub_zero]
          rw [e3] at n3
          exact k (.ref q) _ _ n1 n3 (x.dropZ.trans n2)
        · cases hf
      · cases hf
    · cases hf
theorem r_tupRg1 (F : Fit X G) (hg : Gl X "tuple") (hm : X.mg "tuple" = none) (hg2 : Gl X "range") (hm2 : X.mg "range" = none) (ha : PE X a (tP G ro f)) (na : starEach [a] X.env = (false, eval a X.env) :: starEach [] X.env := by rfl)
    (ne : starEach [Expr.Call (.Name "range" p2) [a] [] pos2] X.env = (false, eval (.Call (.Name "range" p2) [a] [] pos2) X.env) :: starEach [] X.env := by rfl) :
    PE X (.Call (.Name "tuple" p) [.Call (.Name "range" p2) [a] [] pos2] [] pos) (tP G ro (p1 (rgD1 true) f)) :=
  PE.weak (pe_tupRg F.calm hg hm (prg_1 hg2 hm2 ha na) ne) fun σ H Q ⟨R, w, e, m, d, e0, S, hf, k⟩ => by
    unfold p1 at hf
    split at hf
    · rename_i d0 hd
      refine ⟨R, w, e, m, d0, e0, S, hd, fun v w' md S' r x => ?_⟩
      unfold rgD1 at hf
      split at hf
      · rename_i j
        split at hf
        · rename_i hj
          cases hf
          have hb := rngOk_le hj
          have hr : RgOk 0 j := ⟨by omega, by omega, by omega, by omega, by omega⟩
          refine ⟨j, r.int, hr, fun q hq => ?_⟩
          obtain ⟨n1, n2, n3⟩ := new_tup S'.zero hr hq
          have e3 : (j - 0).toNat = j.toNat := by rw [Int.sub_zero]
          rw [e3] at n3
          exact k (.ref q) _ _ n1 n3 (x.dropZ.trans n2)
        · cases hf
      · cases hf
    · cases hf
theorem r_listRg2 (F : Fit X G) (hg : Gl X "list") (hm : X.mg "list" = none) (hg2 : Gl X "range") (hm2 : X.mg "range" = none) (ha : PE X a (tP G ro f1)) (hb : PE X b (tP G ro f2)) (na : starEach [a, b] X.env = (false, eval a X.env) :: starEach [b] X.env := by rfl)
    (nb : starEach [b] X.env = (false, eval b X.env) :: starEach [] X.env := by rfl) (hp : (backTo pos2 (starEach [b] X.env)).any (·.1) = false := by rfl)
    (ne : starEach [Expr.Call (.Name "range" p2) [a, b] [] pos2] X.env = (false, eval (.Call (.Name "range" p2) [a, b] [] pos2) X.env) :: starEach [] X.env := by rfl) :
    PE X (.Call (.Name "list" p) [.Call (.Name "range" p2) [a, b] [] pos2] [] pos) (tP G ro (TL.p2 (rgD2 false) f1 f2)) :=
  PE.weak (pe_listRg F.calm hg hm (prg_2 hg2 hm2 ha hb na nb hp) ne) fun σ H Q ⟨R, w, e, m, d, e0, S, hf, k⟩ => by
    unfold TL.p2 at hf
    split at hf
    · rename_i d0 d1 hd hd1
      refine ⟨R, w, e, m, d0, e0, S, hd, fun v w' md S' r x => ?_⟩
      refine ⟨R, w', e, m, d1, rfl, S'.zero, hd1, fun v2 w2 md2 S2 r2 x2 => ?_⟩
      unfold rgD2 at hf
      split at hf
      · rename_i i j
        split at hf
        · rename_i hj
          cases hf
          rw [Bool.and_eq_true, Bool.and_eq_true] at hj
          have hb := rngOk_le hj.1.1
          have hb2 := rngOk_le hj.1.2
          have hb3 := of_decide_eq_true hj.2
          have hr : RgOk i j := ⟨by omega, by omega, by omega, by omega, by omega⟩
          refine ⟨i, j, r.int, r2.int, hr, fun q hq => ?_⟩
          obtain ⟨n1, n2, n3⟩ := new_lst S2.zero hr hq
          exact k (.ref q) _ _ n1 n3 ((x.dropZ.trans x2.dropZ).trans n2)
        · cases hf
      · cases hf
    · cases hf
end
end TL
end
section
set_option maxRecDepth 100000
/-! The tree layer: classes made of arguments that change trees. -/
namespace TL
open PySem PySem.Spec PyProof.Rows L2
section
variable {X : L2.Cx} {G : Gen} {ro fx : Nat → Bool} {w : Wd}
theorem RepL.toA : ∀ {ds : List D} {vs : List V}, RepL G w ds vs Fp.zero → immL ds = true → RepA G w ds vs
  | [], vs, h, _ => by simp only [RepL] at h; exact h.1
  | d :: ds, vs, h, hi => by
    simp only [immL, Bool.and_eq_true] at hi
    simp only [RepL] at h
    obtain ⟨v, vs', m1, m2, rfl, r1, r2, e⟩ := h
    obtain ⟨rfl, rfl⟩ := Fp.eq_zero_of_add e.symm
    exact ⟨v, vs', Fp.zero, rfl, r1, Own.zero, RepL.toA r2 hi.2⟩
def mMake (c : Nat) (md : List Md) (f : Fn) (l : EvLM) : EvM := fun e => match l e with
  | some (ds, e1) => if immL ds = true then match gMake c md f (fun _ => some ds) e1 with
      | some d => some (d, e1)
      | none => none
    else none
  | none => none
variable {c : Nat} {md : List Md} {f : Fn} {x : Str} {k j : Nat} {e : Expr} {es : List Expr} {p pos : Pos} {l : EvLM}
theorem rM_make (cc : C8.Mak X.prog X.w X.K X.mg X.base k x (G.cls c) (spF G (.io :: md) f) []) (hr : Room j X.A) (hk : k + 1 ≤ j) (hg : Gl X x) (ha : PA X (e :: es) (tMA G ro l))
    (hdb : (x == ("__debug__" : Str)) = false := by decide) (he : starEach (e :: es) X.env = (false, eval e X.env) :: starEach es X.env := by rfl) (hpl : (backTo pos (starEach es X.env)).any (·.1) = false := by rfl) :
    PE X (.Call (.Name x p) (e :: es) [] pos) (tM G ro (mMake c md f l)) := PE.weak (C8.pe_mk cc hr hk hg ha hdb he hpl) fun σ H Q ⟨R, w, e, m, d, e', e0, S, hf, kk⟩ => by
  unfold mMake at hf
  split at hf
  · rename_i ds e1 hd
    split at hf
    · rename_i hi
      split at hf
      · rename_i d1 hm
        cases hf
        obtain ⟨ds', rest, hd', hp, hf', hu⟩ := gMake_some hm
        cases hd'
        refine ⟨R, w, e, m, ds, _, e0, S, hd, fun vs w1 mds m1 S1 r1 x1 xa dx q1 q2 q3 => ?_⟩
        obtain ⟨r1', rfl⟩ := r1.immM hi
        simp only [List.append_nil]
        exact make_ok S1.world (r1'.toA hi) hp hf' hu q1 q2 q3 fun v w' md' W' rv o x => kk v w' md' m1 (S1.step x W' o) rv (by
          have y := x.frame (m := m1)
          rw [Fp.add_zero] at y x1
          exact x1.trans y)
      · cases hf
    · cases hf
  · cases hf
def mFam (c : Nat) (h : EvM) : EvM := fun e => match h e with
  | some (d, e1) => match toFam c d with
    | some d' => some (d', e1)
    | none => none
  | none => none
theorem rM_fam {h : EvM} (fc : FamC G c) (hh : PE X e (tM G ro h)) : PE X e (tM G ro (mFam c h)) := PE.weak hh fun σ H Q ⟨R, w, e, m, d, e', e0, S, hf, k⟩ => by
  unfold mFam at hf
  split at hf
  · rename_i d0 e1 hd0
    split at hf
    · rename_i d' ht
      cases hf
      refine ⟨R, w, e, m, d0, _, e0, S, hd0, fun v w1 md m1 S1 r1 x1 => ?_⟩
      obtain ⟨w2, eh, W2, r2, x2⟩ := toFam_ok fc ht S1.world r1 S1.own.right
      rw [← eh]
      exact k v w2 Fp.zero m1 (S1.step x2 W2 Own.zero) r2 (x1.trans (x2.frame (m := m1)))
    · cases hf
  · cases hf
end
end TL
end
section
set_option maxRecDepth 100000
/-! The tree layer: sets of many tuples of ints, fewer than 63 different ones. -/
namespace L2
open PySem PySem.Spec PyProof.Rows PyProof
section
variable {P : Program} {w : PySem.World} {A : Around} {E : Value → Shared → Prop} {s : Shared}
/-- however they are picked, fewer than 63 are unlike -/
def FewOf (ks : List (Addr × List Int)) : Prop := ∀ L : List (Addr × List Int), (∀ p ∈ L, p ∈ ks) → (L.map (·.2)).Nodup → L.length < 63
theorem set_many {I : Addr} {fp wr : List Addr} {G : Array GenState → Array GenState → Prop} {n : Nat} {Pv : Nat → Value → Prop} {St : Nat → Shared → Prop} {R : Result → Shared → Prop}
    (W : WalksS P w A.in1 I fp wr G n Pv St) (S : Addr) (apart : S ∉ fp) (ks : List (Addr × List Int)) (size : n = ks.length) (few : FewOf ks) (which : ∀ i v, Pv i v → ∃ p, ks[i]? = some p ∧ v = .ref p.1)
    (h0 : Heap) (each : ∀ p ∈ ks, IsT P w h0 p.2 p.1) (noS : h0.get? S = none) (nowr : ∀ b ∈ wr, h0.get? b = none) (units : A.in1.units < cLine) :
    ∀ (k i : Nat) (s : Shared), n - i = k → i ≤ n → St i s → (∀ b o, h0.get? b = some o → s.heap.get? b = some o) → (∃ L es ep t, SetTR P w s.heap S L es ep t ∧ Got ks i L) →
      (∀ s' L es ep t, Moved (S :: wr) G s s' → SetTR P w s'.heap S L es ep t → Got ks n L → (∀ b o, h0.get? b = some o → s'.heap.get? b = some o) → R (.ok (.ret .none)) s') →
      codeAny (model P w) A (.builtin "set.update.loop" ⟨[.ref S, .ref I], []⟩) R s := by
  have Swr : S ∉ wr := fun h => apart (W.sub _ h)
  have into : ∀ b ∈ wr, b ∈ S :: wr := fun b hb => List.mem_cons_of_mem _ hb
  have stays : ∀ {s s' : Shared}, Moved wr G s s' → (∀ b o, h0.get? b = some o → s.heap.get? b = some o) → ∀ b o, h0.get? b = some o → s'.heap.get? b = some o := fun hm old b o e =>
    hm.heap b o (fun hb => by rw [nowr b hb] at e; cases e) (old b o e)
  intro k
  induction k with
  | zero =>
    intro i s left le st old ⟨L, es, ep, t, set, got⟩ fin
    have ei : i = n := by omega
    subst ei
    refine codeAny_builtin F.entry_set_update_loop ?_
    rw [Around.under_plainId F.plain_set_update_loop _]
    show wpAny _ A.in1 (pyNext (.ref I) >>= _) _ _ s
    refine wpAny_bind (W.done s _ _ st fun s' hm => ?_)
    show wpAny _ A.in1 (ret Value.none) _ _ s'
    have old' := stays hm old
    have sub : ∀ p ∈ L, p ∈ ks := fun p hp => List.mem_of_mem_take (got.sub p hp)
    exact wpAny_pure (fin s' L es ep t (hm.mono into) (set.keep (fun o e => hm.heap S o Swr e) fun p hp => isT_keep (each p (sub p hp)) old') got old')
  | succ k ih =>
    intro i s left le st old ⟨L, es, ep, t, set, got⟩ fin
    have lt : i < n := by omega
    refine codeAny_builtin F.entry_set_update_loop ?_
    rw [Around.under_plainId F.plain_set_update_loop _]
    show wpAny _ A.in1 (pyNext (.ref I) >>= _) _ _ s
    refine wpAny_bind (W.item i s _ _ lt st fun v s' pv st' hm => ?_)
    obtain ⟨p, hp, rfl⟩ := which i v pv
    have old' := stays hm old
    have sub : ∀ p ∈ L, p ∈ ks := fun p hp => List.mem_of_mem_take (got.sub p hp)
    have set' : SetTR P w s'.heap S L es ep t := set.keep (fun o e => hm.heap S o Swr e) fun q hq => isT_keep (each q (sub q hq)) old'
    have room := few L sub set'.nd
    have hx : IsT P w s'.heap p.2 p.1 := isT_keep (each p (List.mem_of_getElem? hp)) old'
    show wpAny _ A.in1 (holding [Value.ref p.1] (setAdd S (.ref p.1)) >>= _) _ _ s'
    refine wpAny_bind (wpAny_holding ?_)
    unfold setAdd
    refine wpAny_holding ?_
    refine wpAny_bind (wpAny_pyHash_tuple units hx ?_)
    refine add_at (s := { s' with toks := s'.toks + (p.2.length + 1) }) set' hx units (by omega) fun b h' L' es' ep' t' but set2 c1 c2 => ?_
    have got' : Got ks (i + 1) L' := by
      rcases Classical.em (p.2 ∈ L.map (·.2)) with c | c
      · rw [c1 c]; exact got.same hp c
      · exact got.more hp (c2 c)
    have old2 : ∀ b o, h0.get? b = some o → h'.get? b = some o := fun b o e => (but.2 b (fun z => by rw [z, noS] at e; cases e)).trans (old' b o e)
    refine wpAny_pure ⟨plainId_quiet F.plain_set_update_loop _, ih (i + 1) _ (by omega) lt (W.frame _ s' _ _ st' (Nat.le_add_right _ _) fun b hb o e => ?_) old2 ⟨L', es', ep', t', set2, got'⟩ fun s'' L2 es2 ep2 t2 hm'' set3 got3 old3 => ?_⟩
    · rw [but.2 b (fun h : b = S => apart (by rw [← h]; exact hb))]; exact e
    · refine fin s'' L2 es2 ep2 t2 (Moved.trans W.gtrans ((hm.mono into).then_heap (Nat.le_add_right _ _) fun b o hb e => ?_) hm'') set3 got3 old3
      rw [but.2 b (fun h : b = S => hb (by rw [h]; exact List.mem_cons_self))]; exact e
set_option maxHeartbeats 3200000 in
theorem set_manyT {l : Addr} {items : Array Value} (ks : List (Addr × List Int)) {Q : Value → Shared → Prop} (hA : A.handled = none) (tup : s.heap.IsTuple l items) (same : items.toList = ks.map fun p => Value.ref p.1)
    (each : ∀ p ∈ ks, IsT P w s.heap p.2 p.1) (few : FewOf ks) (room : A.units + 3 < cLine)
    (go : ∀ (h' : Heap) (tk : Nat) L es ep t, SetTR P w h' s.heap.objs.size L es ep t → Got ks ks.length L → (∀ b o, s.heap.get? b = some o → h'.get? b = some o) → Q (.ref s.heap.objs.size) { s with heap := h', toks := tk }) :
    wpAny (model P w) A (call (.type "set") [.ref l]) Q E s := by
  have sizes : items.size = ks.length := by simpa using congrArg List.length same
  obtain ⟨c, tl, hmro⟩ := F.called_set.mro
  have hmade := F.called_set.made
  have hsub := F.called_set.sub
  refine wpAny_call (codeAny_of_tree ?_)
  show wpAny _ _ (callAny (.type "set") _) _ _ _
  refine wpAny_pure ⟨Code.quiet_builtin _ (by decide +kernel), codeAny_builtin F.entry_type_call ?_⟩
  rw [Around.under_plain (weight_type_call_type "set" [.ref l] []) rfl]
  have h1 := F.called_set.notType
  have h2 := F.called_set.canCreate
  have hct := F.typeCall_set_1 (.ref l)
  repeat (any_goals (first | assumption | wp_step))
  refine codeAny_mono (code_set_led1 (.ref l) (E := E) (Q₁ := fun obj s₁ => obj = .ref s.heap.objs.size ∧ s₁ = { s with heap := s.heap.push (freshSet w) }) ⟨rfl, rfl⟩) fun r s₁ hr => ?_
  cases r with
  | error e => exact hr
  | ok fl =>
    cases fl with
    | ret obj =>
      obtain ⟨rfl, rfl⟩ := hr
      have hS : (s.heap.push (freshSet w)).get? s.heap.objs.size = some (freshSet w) := Heap.get?_push_size _ rfl
      have hT : Shared.TypeIs { s with heap := s.heap.push (freshSet w) } (.ref s.heap.objs.size) "set" := ⟨_, hS, rfl⟩
      have hli := F.called_set.init.lookup
      have hbi := F.called_set.init.bind (.ref s.heap.objs.size)
      repeat (any_goals (first | assumption | wp_step))
      refine codeAny_mono (codeAny_call_builtin (R := wants (fun r s₂ => r = .none ∧ ∃ h' tk L es ep t, s₂ = { s with heap := h', toks := tk } ∧ SetTR P w h' s.heap.objs.size L es ep t ∧ Got ks ks.length L ∧
          (∀ b o, s.heap.get? b = some o → h'.get? b = some o)) E) F.called_set.init.plain F.entry_set_init (check_set_init_1 hT ?_)) fun r₂ s₂ hr₂ => ?_
      · obtain ⟨⟨ocls, odict, odata, oslots⟩, there, isT, nl, dat⟩ := tup
        simp only at isT dat
        subst isT; subst dat
        have there' := Heap.get?_push_of_some (freshSet w) there
        have hsls := F.sub_tuple_set
        have hslf := F.sub_tuple_frozenset
        have hne : (Value.type "tuple" == Value.type "dict") = false := by decide
        have tup' : (s.heap.push (freshSet w)).IsTuple l items := ⟨_, there', rfl, nl, rfl⟩
        unfold Builtin.«set.__init__» noKeywords Builtin.Frozenset.updateFrom
        generalize hPI : pyIter = PI
        wp_walk
        subst hPI
        refine wpAny_pyIter_tuple tup' ?_
        refine wpAny_bind (wpAny_runValue ?_)
        have below : l < s.heap.objs.size := Heap.lt_size there
        have size1 : (s.heap.push (freshSet w)).objs.size = s.heap.objs.size + 1 := Heap.size_push ..
        have none3 : A.in1.in1.in1.handled = none := by simp [hA]
        have apart : l ≠ (s.heap.push (freshSet w)).objs.size := by rw [size1]; exact Nat.ne_of_lt (Nat.lt_succ_of_lt below)
        have notIt : s.heap.objs.size ∉ [(s.heap.push (freshSet w)).objs.size, l] := by
          simp only [List.mem_cons, List.not_mem_nil, or_false, not_or]
          rw [size1]
          exact ⟨Nat.ne_of_lt (Nat.lt_succ_self _), Nat.ne_of_gt below⟩
        have which : ∀ (i : Nat) (v : Value), items[i]? = some v → ∃ p, ks[i]? = some p ∧ v = .ref p.1 := fun i v hv => by
          have q : (ks.map fun p => Value.ref p.1)[i]? = some v := by rw [← same, Array.getElem?_toList]; exact hv
          rw [List.getElem?_map, Option.map_eq_some_iff] at q
          obtain ⟨p, hp, e⟩ := q
          exact ⟨p, hp, e.symm⟩
        have free : ∀ b, s.heap.objs.size ≤ b → s.heap.get? b = none := fun b hb => Classical.byContradiction fun z => by
          obtain ⟨o, ho⟩ := Option.ne_none_iff_exists'.mp z
          exact absurd (Nat.lt_of_lt_of_le (Heap.lt_size ho) hb) (Nat.lt_irrefl _)
        refine set_many ((Walks.tuple none3 _ l apart items).toS) s.heap.objs.size notIt ks sizes few which s.heap each (free _ (Nat.le_refl _)) (fun b hb => free b (by rw [List.mem_singleton.mp hb, size1]; exact Nat.le_succ _)) room (items.size - 0) 0 _ (by omega) (Nat.zero_le _)
          ⟨⟨_, Heap.get?_push_size _ rfl, rfl, rfl⟩, tup'.push _⟩ (fun b o e => Heap.get?_push_of_some _ (Heap.get?_push_of_some _ e)) ?start ?final
        case start => exact ⟨[], #[], 0, _, setTR_fresh (Heap.get?_push_of_some _ hS), Got.zero ks⟩
        case final =>
          intro s' L es ep t moved R got kept
          obtain ⟨h', g2, d', tk', os'⟩ := s'
          obtain rfl : g2 = s.gens := moved.gens
          obtain rfl : d' = s.drawn := moved.drawn
          obtain rfl : os' = s.os := moved.os
          rw [sizes] at got
          exact wpAny_pure (wpAny_pure ⟨rfl, h', tk', L, es, ep, t, rfl, R, got, kept⟩)
      · cases r₂ with
        | error e => exact hr₂
        | ok fl₂ =>
          cases fl₂ with
          | ret r =>
            obtain ⟨rfl, h', tk, L, es, ep, t, rfl, hS', g', hk'⟩ := hr₂
            repeat (any_goals (first | assumption | wp_step))
            exact go h' tk L es ep t hS' g' hk'
          | next => exact hr₂.elim
          | brk => exact hr₂.elim
          | cont => exact hr₂.elim
    | next => exact hr.elim
    | brk => exact hr.elim
    | cont => exact hr.elim
set_option maxHeartbeats 3200000 in
theorem set_manyL {l : Addr} {items : Array Value} (ks : List (Addr × List Int)) {Q : Value → Shared → Prop} (hA : A.handled = none) (tup : s.heap.IsList l items) (same : items.toList = ks.map fun p => Value.ref p.1)
    (each : ∀ p ∈ ks, IsT P w s.heap p.2 p.1) (few : FewOf ks) (room : A.units + 3 < cLine)
    (go : ∀ (h' : Heap) (tk : Nat) L es ep t, SetTR P w h' s.heap.objs.size L es ep t → Got ks ks.length L → (∀ b o, s.heap.get? b = some o → h'.get? b = some o) → Q (.ref s.heap.objs.size) { s with heap := h', toks := tk }) :
    wpAny (model P w) A (call (.type "set") [.ref l]) Q E s := by
  have sizes : items.size = ks.length := by simpa using congrArg List.length same
  obtain ⟨c, tl, hmro⟩ := F.called_set.mro
  have hmade := F.called_set.made
  have hsub := F.called_set.sub
  refine wpAny_call (codeAny_of_tree ?_)
  show wpAny _ _ (callAny (.type "set") _) _ _ _
  refine wpAny_pure ⟨Code.quiet_builtin _ (by decide +kernel), codeAny_builtin F.entry_type_call ?_⟩
  rw [Around.under_plain (weight_type_call_type "set" [.ref l] []) rfl]
  have h1 := F.called_set.notType
  have h2 := F.called_set.canCreate
  have hct := F.typeCall_set_1 (.ref l)
  repeat (any_goals (first | assumption | wp_step))
  refine codeAny_mono (code_set_led1 (.ref l) (E := E) (Q₁ := fun obj s₁ => obj = .ref s.heap.objs.size ∧ s₁ = { s with heap := s.heap.push (freshSet w) }) ⟨rfl, rfl⟩) fun r s₁ hr => ?_
  cases r with
  | error e => exact hr
  | ok fl =>
    cases fl with
    | ret obj =>
      obtain ⟨rfl, rfl⟩ := hr
      have hS : (s.heap.push (freshSet w)).get? s.heap.objs.size = some (freshSet w) := Heap.get?_push_size _ rfl
      have hT : Shared.TypeIs { s with heap := s.heap.push (freshSet w) } (.ref s.heap.objs.size) "set" := ⟨_, hS, rfl⟩
      have hli := F.called_set.init.lookup
      have hbi := F.called_set.init.bind (.ref s.heap.objs.size)
      repeat (any_goals (first | assumption | wp_step))
      refine codeAny_mono (codeAny_call_builtin (R := wants (fun r s₂ => r = .none ∧ ∃ h' tk L es ep t, s₂ = { s with heap := h', toks := tk } ∧ SetTR P w h' s.heap.objs.size L es ep t ∧ Got ks ks.length L ∧
          (∀ b o, s.heap.get? b = some o → h'.get? b = some o)) E) F.called_set.init.plain F.entry_set_init (check_set_init_1 hT ?_)) fun r₂ s₂ hr₂ => ?_
      · obtain ⟨⟨ocls, odict, odata, oslots⟩, there, isT, nl, dat⟩ := tup
        simp only at isT dat
        subst isT; subst dat
        have there' := Heap.get?_push_of_some (freshSet w) there
        have hsls := F.sub_list_set
        have hslf := F.sub_list_frozenset
        have hne : (Value.type "list" == Value.type "dict") = false := by decide
        have tup' : (s.heap.push (freshSet w)).IsList l items := ⟨_, there', rfl, nl, rfl⟩
        unfold Builtin.«set.__init__» noKeywords Builtin.Frozenset.updateFrom
        generalize hPI : pyIter = PI
        wp_walk
        subst hPI
        refine wpAny_pyIter_list tup' ?_
        refine wpAny_bind (wpAny_runValue ?_)
        have below : l < s.heap.objs.size := Heap.lt_size there
        have size1 : (s.heap.push (freshSet w)).objs.size = s.heap.objs.size + 1 := Heap.size_push ..
        have none3 : A.in1.in1.in1.handled = none := by simp [hA]
        have apart : l ≠ (s.heap.push (freshSet w)).objs.size := by rw [size1]; exact Nat.ne_of_lt (Nat.lt_succ_of_lt below)
        have notIt : s.heap.objs.size ∉ [(s.heap.push (freshSet w)).objs.size, l] := by
          simp only [List.mem_cons, List.not_mem_nil, or_false, not_or]
          rw [size1]
          exact ⟨Nat.ne_of_lt (Nat.lt_succ_self _), Nat.ne_of_gt below⟩
        have which : ∀ (i : Nat) (v : Value), items[i]? = some v → ∃ p, ks[i]? = some p ∧ v = .ref p.1 := fun i v hv => by
          have q : (ks.map fun p => Value.ref p.1)[i]? = some v := by rw [← same, Array.getElem?_toList]; exact hv
          rw [List.getElem?_map, Option.map_eq_some_iff] at q
          obtain ⟨p, hp, e⟩ := q
          exact ⟨p, hp, e.symm⟩
        have free : ∀ b, s.heap.objs.size ≤ b → s.heap.get? b = none := fun b hb => Classical.byContradiction fun z => by
          obtain ⟨o, ho⟩ := Option.ne_none_iff_exists'.mp z
          exact absurd (Nat.lt_of_lt_of_le (Heap.lt_size ho) hb) (Nat.lt_irrefl _)
        refine set_many ((Walks.list none3 _ l apart items).toS) s.heap.objs.size notIt ks sizes few which s.heap each (free _ (Nat.le_refl _)) (fun b hb => free b (by rw [List.mem_singleton.mp hb, size1]; exact Nat.le_succ _)) room (items.size - 0) 0 _ (by omega) (Nat.zero_le _)
          ⟨⟨_, Heap.get?_push_size _ rfl, rfl, rfl⟩, tup'.push _⟩ (fun b o e => Heap.get?_push_of_some _ (Heap.get?_push_of_some _ e)) ?start ?final
        case start => exact ⟨[], #[], 0, _, setTR_fresh (Heap.get?_push_of_some _ hS), Got.zero ks⟩
        case final =>
          intro s' L es ep t moved R got kept
          obtain ⟨h', g2, d', tk', os'⟩ := s'
          obtain rfl : g2 = s.gens := moved.gens
          obtain rfl : d' = s.drawn := moved.drawn
          obtain rfl : os' = s.os := moved.os
          rw [sizes] at got
          exact wpAny_pure (wpAny_pure ⟨rfl, h', tk', L, es, ep, t, rfl, R, got, kept⟩)
      · cases r₂ with
        | error e => exact hr₂
        | ok fl₂ =>
          cases fl₂ with
          | ret r =>
            obtain ⟨rfl, h', tk, L, es, ep, t, rfl, hS', g', hk'⟩ := hr₂
            repeat (any_goals (first | assumption | wp_step))
            exact go h' tk L es ep t hS' g' hk'
          | next => exact hr₂.elim
          | brk => exact hr₂.elim
          | cont => exact hr₂.elim
    | next => exact hr.elim
    | brk => exact hr.elim
    | cont => exact hr.elim
end
end L2
end
section
set_option maxRecDepth 100000
/-! The tree layer: sorted(set(xs)), xs of any length, fewer than 63 unlike lots. -/
namespace TL
open PySem PySem.Spec PyProof.Rows L2
section
variable {X : L2.Cx} {G : Gen} {ro fx : Nat → Bool} {w : Wd} {a : Expr} {f : Ev} {h : EvM} {p p2 q pos : Pos}
theorem nodup_le {α : Type} [DecidableEq α] : ∀ (xs ys : List α), xs.Nodup → (∀ x ∈ xs, x ∈ ys) → xs.length ≤ ys.length
  | [], ys, _, _ => Nat.zero_le _
  | x :: xs, ys, nd, h => by
    have hx := h x (List.mem_cons_self ..)
    have ih := nodup_le xs (ys.erase x) (List.nodup_cons.mp nd).2 fun y hy => by
      have : y ≠ x := fun e => (List.nodup_cons.mp nd).1 (e ▸ hy)
      exact (List.mem_erase_of_ne this).mpr (h y (List.mem_cons_of_mem _ hy))
    rw [List.length_erase_of_mem hx] at ih
    have := List.length_pos_of_mem hx
    simp only [List.length_cons]; omega
def rSetM (X : L2.Cx) : List V → Hp → VK → Prop := fun xs H Q => ∃ (l : Addr) (ks : List (Addr × List Int)), xs = [V.ref l] ∧ (SqL X.K H l (ks.map fun p => V.ref p.1) ∨ SqT X.K H l (ks.map fun p => V.ref p.1)) ∧ (∀ p ∈ ks, SqT X.K H p.1 (p.2.map V.int)) ∧ FewOf ks ∧
  ∀ a L, H a = none → (∀ p ∈ L, p ∈ ks) → (∀ p ∈ ks, p.2 ∈ L.map (·.2)) → Q (.ref a) (upd H a (SetTO X.prog X.w a L))
theorem cr_setM (F : Fit X G) : CallR X (.type "set") (rSetM X) := by
  intro pins s σ H xs us Q I r ⟨l, ks, e1, hl, hk, hf, k⟩
  subst e1
  have hu := F.units
  have hn : H s.heap.objs.size = none := I.hok.fresh (Nat.le_refl _)
  rw [Vals.ref1 r]
  rcases hl with hl | hl
  · obtain ⟨its, rv, pl, hz⟩ := I.list hl
    refine set_manyL (P := X.prog) (w := X.w) ks (I.ok.hd F.calm) pl.isList (by simpa using refs_of_vals rv) (fun p hp => Inv.isT I (hk p hp)) hf (by omega) fun h' tk L es ep t R g kp => ?_
    refine ⟨.ref s.heap.objs.size, upd H s.heap.objs.size (SetTO X.prog X.w s.heap.objs.size L), I.laid (t' := tk) kp (Nat.le_refl _) (setTO_new R.t0), rfl, k _ L hn (fun p hp => List.mem_of_mem_take (g.sub p hp)) fun p hp => g.all p (by rw [List.take_length]; exact hp)⟩
  · obtain ⟨its, rv, pl, hz⟩ := I.tuple hl
    refine set_manyT (P := X.prog) (w := X.w) ks (I.ok.hd F.calm) (show s.heap.IsTuple l its.toArray from pl) (by simpa using refs_of_vals rv) (fun p hp => Inv.isT I (hk p hp)) hf (by omega) fun h' tk L es ep t R g kp => ?_
    refine ⟨.ref s.heap.objs.size, upd H s.heap.objs.size (SetTO X.prog X.w s.heap.objs.size L), I.laid (t' := tk) kp (Nat.le_refl _) (setTO_new R.t0), rfl, k _ L hn (fun p hp => List.mem_of_mem_take (g.sub p hp)) fun p hp => g.all p (by rw [List.take_length]; exact hp)⟩
/-- sorted(set(xs)) -/
def dSortSet3 : D → Option D := fun d => match seqOf d with
  | some xs => match lotsI xs with
    | some ks => if decide ((sortI ks).length < 63) = true then some (.lst true ((sortI ks).map lotD)) else none
    | none => none
  | none => none
theorem few_of {ks : List (Addr × List Int)} {ls : List (List Int)} (e : ks.map (·.2) = ls) (h : (sortI ls).length < 63) : FewOf ks := fun L hL nd => by
  have h1 := nodup_le (L.map (·.2)) (sortI ls) nd fun x hx => by
    obtain ⟨p, hp, rfl⟩ := List.mem_map.mp hx
    rw [sortI_mem, ← e]
    exact List.mem_map_of_mem (hL p hp)
  rw [List.length_map] at h1
  omega
theorem dSortSet3_some {d0 d : D} (hf : dSortSet3 d0 = some d) : ∃ xs ks, seqOf d0 = some xs ∧ lotsI xs = some ks ∧ (sortI ks).length < 63 ∧ d = .lst true ((sortI ks).map lotD) := by
  unfold dSortSet3 at hf
  split at hf
  · rename_i xs hs
    split at hf
    · rename_i ks hks
      split at hf
      · rename_i hl
        cases hf
        exact ⟨xs, ks, hs, hks, of_decide_eq_true hl, rfl⟩
      · cases hf
    · cases hf
  · cases hf
/-- what stands behind set(xs): the set beside the frame, and the way on -/
theorem set3_ok (F : Fit X G) {d0 d : D} (hf : dSortSet3 d0 = some d) {w1 : Wd} {v : V} {md : Fp} {Q : VK} (W1 : World G w1) (r1 : Rep G w1 d0 v md)
    (k : ∀ v w' m', World G w' → Rep G w' d v m' → Own w' m' → Ext Fp.zero w1 w' m' → Q v w'.h) :
    rSetM X [v] w1.h fun x H1 => ∃ w a L, w.h = H1 ∧ World G w ∧ [x] = [V.ref a] ∧ H1 a = some (SetTO X.prog X.w a L) ∧ (∀ p ∈ L, SqT G.K w.h p.1 (p.2.map V.int)) ∧ Done G w (.lst true ((sortI (L.map (·.2))).map lotD)) Q := by
  obtain ⟨xs, ks, hs, hks, hl, rfl⟩ := dSortSet3_some hf
  obtain ⟨l, vs, m', rfl, hq, rl⟩ := Rep.seq F hs r1
  obtain ⟨ps, rfl, e2, e3⟩ := lots_rep F hks rl
  refine ⟨l, ps, rfl, hq, fun p hp => by rw [F.K]; exact e3 p hp, few_of e2 hl, fun a L hn hin hall => ?_⟩
  have x2 : Ext Fp.zero w1 (w1.new a (SetTO X.prog X.w a L)) Fp.zero := Ext.new hn fun b q => absurd rfl q
  have W2 : World G (w1.new a (SetTO X.prog X.w a L)) := W1.new hn (Nat.zero_le _)
  refine ⟨w1.new a (SetTO X.prog X.w a L), a, L, rfl, W2, rfl, upd_same, fun p hp => SqT.ext x2 (e3 p (hin p hp)), fun v w' md W' r o x => ?_⟩
  have same : sortI (L.map (·.2)) = sortI ks := pw_eq (sortI_pw _) (sortI_pw _) fun z => by
    rw [sortI_mem, sortI_mem, ← e2]
    constructor
    · intro h
      obtain ⟨p, hp, rfl⟩ := List.mem_map.mp h
      exact List.mem_map.mpr ⟨p, hin p hp, rfl⟩
    · intro h
      obtain ⟨p, hp, rfl⟩ := List.mem_map.mp h
      exact hall p hp
  rw [same] at r
  exact k v w' md W' r o (x2.trans x)
theorem r_sortedSet3 (F : Fit X G) (hg : Gl X "sorted") (hm : X.mg "sorted" = none) (hg2 : Gl X "set") (hm2 : X.mg "set" = none) (ha : PE X a (tB G ro f))
    (hv : bootBuiltins "sorted" = some (.builtin "sorted") := by rfl) (hv2 : bootBuiltins "set" = some (.type "set") := by rfl)
    (he : starEach [.Call (.Name "set" p2) [a] [] q] X.env = (false, eval (.Call (.Name "set" p2) [a] [] q) X.env) :: starEach [] X.env := by rfl) (he2 : starEach [a] X.env = (false, eval a X.env) :: starEach [] X.env := by rfl)
    (hpl : (backTo pos (starEach [] X.env)).any (·.1) = false := by rfl) (hpl2 : (backTo q (starEach [] X.env)).any (·.1) = false := by rfl) :
    PE X (.Call (.Name "sorted" p) [.Call (.Name "set" p2) [a] [] q] [] pos) (tP G ro (p1 dSortSet3 f)) :=
  PE.weak (pe_callB (c_sortedSet (G := G) F) hg hm hv (pa_cons (pe_callTy (cr_setM F) hg2 hm2 hv2 (pa_cons ha pa_nil he2) (by decide) (by decide) he2 hpl2) pa_nil he) (by decide) (by decide) he hpl) fun σ H Q ⟨R, w, e, m, d, e0, S, hf, k⟩ => by
    unfold p1 at hf
    split at hf
    · rename_i d0 hd0
      refine ⟨R, w, e, m, d0, e0, S, hd0, fun v w1 mb S1 r1 o1 x1 => ?_⟩
      obtain ⟨l, ks, e1, h1, h2, h3, h4⟩ := set3_ok F hf S1.world r1 (Q := Q) fun v w' m' W' r o x => k v w' m' (S1.step x W' o) r (x1.trans x)
      refine ⟨l, ks, e1, h1, h2, h3, fun a L q1 q2 q3 => ?_⟩
      obtain ⟨w2, a2, L2, z1, z2, z3, z4, z5, z6⟩ := h4 a L q1 q2 q3
      cases z3
      exact ⟨w2, _, L2, z1, z2, rfl, z4, z5, z6⟩
    · cases hf
theorem rM_sortedSet3 (F : Fit X G) (hg : Gl X "sorted") (hm : X.mg "sorted" = none) (hg2 : Gl X "set") (hm2 : X.mg "set" = none) (ha : PE X a (tM G ro h))
    (hv : bootBuiltins "sorted" = some (.builtin "sorted") := by rfl) (hv2 : bootBuiltins "set" = some (.type "set") := by rfl)
    (he : starEach [.Call (.Name "set" p2) [a] [] q] X.env = (false, eval (.Call (.Name "set" p2) [a] [] q) X.env) :: starEach [] X.env := by rfl) (he2 : starEach [a] X.env = (false, eval a X.env) :: starEach [] X.env := by rfl)
    (hpl : (backTo pos (starEach [] X.env)).any (·.1) = false := by rfl) (hpl2 : (backTo q (starEach [] X.env)).any (·.1) = false := by rfl) :
    PE X (.Call (.Name "sorted" p) [.Call (.Name "set" p2) [a] [] q] [] pos) (tM G ro (m1 dSortSet3 h)) :=
  PE.weak (pe_callB (c_sortedSet (G := G) F) hg hm hv (pa_cons (pe_callTy (cr_setM F) hg2 hm2 hv2 (pa_cons ha pa_nil he2) (by decide) (by decide) he2 hpl2) pa_nil he) (by decide) (by decide) he hpl) fun σ H Q ⟨R, w, e, m, d, e', e0, S, hf, k⟩ => by
    unfold TL.m1 at hf
    split at hf
    · rename_i d0 e1 hd0
      split at hf
      · rename_i d1 hf1
        cases hf
        refine ⟨R, w, e, m, d0, _, e0, S, hd0, fun v w1 md m1 S1 r1 x1 => ?_⟩
        have S0 := S1.zero
        obtain ⟨l, ks, e1, h1, h2, h3, h4⟩ := set3_ok F hf1 S1.world r1 (Q := Q) fun v w' m' W' r o x => k v w' m' m1 (S0.step x W' o) r (by
          have y := x.frame (m := m1)
          rw [Fp.add_zero] at y
          exact (x1.dropM).trans y)
        refine ⟨l, ks, e1, h1, h2, h3, fun a L q1 q2 q3 => ?_⟩
        obtain ⟨w2, a2, L2, z1, z2, z3, z4, z5, z6⟩ := h4 a L q1 q2 q3
        cases z3
        exact ⟨w2, _, L2, z1, z2, rfl, z4, z5, z6⟩
      · cases hf
    · cases hf
end
end TL
end
section
set_option maxRecDepth 100000
/-! The tree layer: sorted(d), d a dict whose keys are tuples. -/
namespace TL
open PySem PySem.Spec PyProof.Rows L2
section
variable {X : L2.Cx} {G : Gen} {ro fx : Nat → Bool} {w : Wd}
def dSortedT : D → Option D
  | .dct _ t ks _ => if ((t || ks.isEmpty) && immL ks && okL 20 ks && alAll ks && sortable ks) = true then some (.lst true (sortD ks)) else none
  | _ => none
theorem vals_adr : ∀ {ys : YS} {xs : XS}, YX ys xs → Vals (ys.map fun y => V.ref y.2.1) (xs.map fun x => Value.ref x.2.1)
  | _, _, .nil => .nil
  | _, _, .cons f t => by
    simp only [List.map_cons]
    refine .cons ?_ (vals_adr t)
    show Value.ref _ = Value.ref _
    rw [f.2.1]
theorem c_sortedT (F : Fit X G) : CallR X (.builtin "sorted") (rC1 G dSortedT) := by
  intro pins s σ H vs us Q I rv h
  obtain ⟨v, rfl, w, d1, m1, d, e0, W, r1, o1, hf, k⟩ := h
  subst e0
  obtain ⟨u, rfl, ru⟩ := vals1 rv
  unfold dSortedT at hf
  split at hf
  · rename_i ff t ks vs0
    split at hf
    · rename_i hq
      cases hf
      simp only [Bool.and_eq_true] at hq
      obtain ⟨⟨⟨⟨te, im⟩, ok⟩, al⟩, so⟩ := hq
      obtain ⟨a, ys, xs, o, es, ep, rfl, rk, hl, hz, yx, g1, g2, g3, g4⟩ : ∃ a ys xs o es ep, v = .ref a ∧ RepL G w ks (ys.map fun y => V.ref y.2.1) Fp.zero ∧ ys.length ≤ sizeLine ∧ (a == sysModules) = false ∧ YX ys xs ∧ s.heap.get? a = some o ∧ o.ExactDict ∧ o.data = .dict es ep ∧ es.toList = xs.map (entryOfKey (nestedKind G.P G.W)) := by
        cases t with
        | true =>
          simp only [Rep] at r1
          obtain ⟨a, ys, m', rfl, h1, hk1, rk, _, rfl⟩ := r1
          obtain ⟨hl, hz, hdep, xs, yx, o, es, ep, g1, g2, g3, g4, _⟩ : RawT G a ys s.heap := (I.hok a _ h1.1).1
          exact ⟨a, ys, xs, o, es, ep, rfl, rk, hl, hz, yx, g1, g2, g3, g4⟩
        | false =>
          have e : ks = [] := by simpa using te
          subst e
          simp only [Rep] at r1
          obtain ⟨a, kvs, m', rfl, h1, h2, h3, rfl⟩ := r1
          have e2 : kvs = [] := List.map_eq_nil_iff.mp (keysD_nil _ h2)
          subst e2
          obtain ⟨z, o, es, ep, g1, g2, g3, g4, _⟩ := dk_empty_h I h1.1
          exact ⟨a, [], [], o, es, ep, rfl, by simp [RepL], Nat.zero_le _, z, .nil, g1, g2, g3, g4⟩
      cases ru
      have hsz : es.size = xs.length := size_of_entries g4
      have hyx := yx_len yx
      refine Calls.call_function_entry kind_sorted plain_sorted entry_sorted (args_sorted1 _) ?_
      unfold Builtin.«sorted»
      refine wpAny_bind (m := checkCount "sorted" 1 1 _) (wpAny_pure ?_)
      refine wpAny_bind (PySem.W.kdu_collect (A := X.A.in1) (KdlSrc.rawDict (es := es) (ep := ep) hz) (I.ok.hd F.calm) ⟨o, g1, g2, g3⟩ (by rw [hsz, ← hyx]; exact hl) fun h' tk acc hk hacc => ?_)
      have I1 : Inv X pins σ w.h { s with heap := h', toks := tk } := I.kept hk
      have eacc : acc.toList = xs.map fun x => Value.ref x.2.1 := by
        apply List.ext_getElem?
        intro j
        rw [Array.getElem?_toList, List.getElem?_map]
        cases hj : acc[j]? with
        | none =>
          have : ¬ j < acc.size := by rw [Array.getElem?_eq_none_iff] at hj; omega
          rw [hacc.1, hsz] at this
          rw [List.getElem?_eq_none (by omega)]; rfl
        | some z =>
          obtain ⟨hi, e⟩ := hacc.2 j z hj
          have := entry_at g4 j
          rw [Array.getElem?_eq_getElem hi] at this
          cases hx : xs[j]? with
          | none => rw [hx] at this; cases this
          | some x =>
            rw [hx] at this
            simp only [Option.map_some, Option.some.injEq] at this
            rw [e, this]; rfl
      have hv : Vals (ys.map fun y => V.ref y.2.1) acc.toList := by rw [eacc]; exact vals_adr yx
      obtain ⟨e1, e2⟩ := each_of_vals I1 F.K 20 ok rk hv
      have hal' : acc.toList.length ≤ sizeLine := by rw [eacc, List.length_map, ← hyx]; exact hl
      refine wpAny_bind (wpAny_newList ?_ hal')
      let hh := h'.push (seqObj "list" acc.toList.toArray 0)
      have hoL : hh.get? h'.objs.size = some (seqObj "list" acc.toList.toArray 0) := Heap.get?_push_size _ rfl
      have keepS : ∀ b u, h'.get? b = some u → (PySem.W.sortingHeap hh h'.objs.size acc.toList).get? b = some u := fun b u e => PySem.W.sortingHeap_old (Nat.ne_of_lt (Heap.lt_size e)) (Heap.get?_push_of_some _ e)
      have e2' : PySem.W.EachIs (fun u d => ∃ as, Reads (PySem.W.sortingHeap hh h'.objs.size acc.toList) u (pdT d) as) acc.toList ks := e2.mono fun _ _ ⟨as, r⟩ => ⟨as, Reads.keeps keepS r⟩
      have e3 := PySem.W.each_map (R := fun u d => ∃ as, Reads (PySem.W.sortingHeap hh h'.objs.size acc.toList) u d as) pdT e2'
      have hal : PySem.W.AllAlike (ks.map pdT) := by
        intro d hd d' hd'
        obtain ⟨x, hx, rfl⟩ := List.mem_map.mp hd
        obtain ⟨y, hy, rfl⟩ := List.mem_map.mp hd'
        exact pd_al _ _ (alAll_of al x hx y hy)
      have hu2 : ∀ d, d ∈ ks.map pdT → X.A.in1.in1.units + d.depth < cLine := by
        intro d hd
        obtain ⟨x, hx, rfl⟩ := List.mem_map.mp hd
        have h1 := (pd_can 20 x (okL_mem ok x hx)).2
        have h2 := F.units
        show X.A.units + 1 + 1 + _ < _
        omega
      have S : PySem.W.SortsAt X.prog X.w X.A.in1.in1 { s with heap := PySem.W.sortingHeap hh h'.objs.size acc.toList, toks := tk } (PySem.W.dataKind (PySem.W.sortingHeap hh h'.objs.size acc.toList) (ks.map pdT)) acc.toList := by
        rcases sortable_of so with q | ⟨q1, q2⟩
        · exact PySem.W.SortsAt.data (s := { s with heap := PySem.W.sortingHeap hh h'.objs.size acc.toList, toks := tk }) e3 hal q hu2
        · exact PySem.W.SortsAt.tups0 (s := { s with heap := PySem.W.sortingHeap hh h'.objs.size acc.toList, toks := tk }) e3 hal q1 q2 hu2
      have out := PySem.W.sortVals_data false e1 e2' hal
      rw [sortD_eq ok al so] at out
      obtain ⟨vo, q1, q2⟩ := vals_of_each out
      have hlen : (PySem.W.sortVals (PySem.W.dataKind (PySem.W.sortingHeap hh h'.objs.size acc.toList) (ks.map pdT)) false acc.toList acc.toList).length = acc.toList.length := PySem.W.sortVals_length false rfl
      obtain ⟨c, hc⟩ := sortedHeap_at (vs := acc.toList) (out := (PySem.W.sortVals (PySem.W.dataKind (PySem.W.sortingHeap hh h'.objs.size acc.toList) (ks.map pdT)) false acc.toList acc.toList).toArray) hoL
      have J : Inv X pins σ (upd w.h h'.objs.size (.lst vo)) { s with heap := sortedHeap hh h'.objs.size acc.toList (PySem.W.sortVals (PySem.W.dataKind (PySem.W.sortingHeap hh h'.objs.size acc.toList) (ks.map pdT)) false acc.toList acc.toList).toArray, toks := tk } := by
        refine I1.laid (o := .lst vo) (t' := tk) (fun b u e => ?_) (Nat.le_refl _) ⟨by rw [q1.length, hlen]; exact hal', _, c, q1, by simpa using hc⟩
        have hlt := Heap.lt_size e
        rw [sortedHeap_old (Nat.ne_of_lt hlt) (by show b < (h'.push _).objs.size; rw [size_push']; exact Nat.lt_succ_of_lt hlt)]
        exact Heap.get?_push_of_some _ e
      have fin : EP X pins σ Q (.ref h'.objs.size) { s with heap := sortedHeap hh h'.objs.size acc.toList (PySem.W.sortVals (PySem.W.dataKind (PySem.W.sortingHeap hh h'.objs.size acc.toList) (ks.map pdT)) false acc.toList acc.toList).toArray, toks := tk } :=
        ⟨.ref h'.objs.size, _, J, rfl, Done.lst k W (I1.hok.fresh (Nat.le_refl _)) q2 (HOk.bd J.hok)⟩
      refine wpAny_bind (wpAny_holding (wpAny_call_entry_kw slot_list_sort ⟨_, hoL, rfl⟩ entry_list_sort ?body (args_list_sort _)))
      case body =>
        show wpAny (model X.prog X.w) X.A.in1.in1 (Builtin.«list.sort» ⟨[.ref h'.objs.size], []⟩) _ _ _
        refine wpAny_mono (PySem.W.list_sort_vals (P := fun f s' => f = .done (.ret .none) ∧ EP X pins σ Q (.ref h'.objs.size) s') (E := fun _ _ => False) (s := { s with heap := hh, toks := tk }) hoL S hal' ⟨rfl, fin⟩) (fun f s' hf => ?_) fun _ _ e => e.elim
        obtain ⟨rfl, hq⟩ := hf
        exact ⟨_, rfl, wpAny_pure ⟨_, rfl, hq⟩⟩
    · cases hf
  · cases hf
/-- sorted of what is known by its items, or of a dict of tuples -/
def dSorted2 (d : D) : Option D := match d with
  | .dct f t ks vs => dSortedT (.dct f t ks vs)
  | d => dSorted d
theorem c_sorted2 (F : Fit X G) : CallR X (.builtin "sorted") (rC G (g1 dSorted2)) := rC_of1 (CallR.weak (CallR.or (c_sorted (G := G) F) (c_sortedT F)) fun vs H Q ⟨v, e1, w, d1, m1, d, e0, W, r1, o1, hf, k⟩ => by
  unfold dSorted2 at hf
  split at hf
  · exact .inr ⟨v, e1, w, _, m1, d, e0, W, r1, o1, hf, k⟩
  · exact .inl ⟨v, e1, w, d1, m1, d, e0, W, r1, o1, hf, k⟩)
end
end TL
end
section
set_option maxRecDepth 100000
namespace TL
open PySem PySem.Spec PyProof.Rows L2
def top (i : Nat) : Stmt := PySem.Challenge.pw_familyworks_k99_whole_bites_heaps_and_su.main.body.getD i (.Pass ⟨0, 0, 0, 0⟩)
structure Tx (P : Program) (wd : PySem.World) (K : PySem.W.Frag) (mg : Str → Option Value) (base : Heap) (G : Gen) : Prop where
  hG : K = G.K ∧ P = G.P ∧ wd = G.W
  b_abs : mg "abs" = none
  b_all : mg "all" = none
  b_any : mg "any" = none
  b_bool : mg "bool" = none
  b_dict : mg "dict" = none
  b_enumerate : mg "enumerate" = none
  b_int : mg "int" = none
  b_isinstance : mg "isinstance" = none
  b_len : mg "len" = none
  b_list : mg "list" = none
  b_range : mg "range" = none
  b_set : mg "set" = none
  b_sorted : mg "sorted" = none
  b_tuple : mg "tuple" = none
  b_zip : mg "zip" = none
  fam : FamF K G
  memf : MemF G
  famk : FamK K G.famC
  mg_Family : mg "Family" = some (.ref G.famC)
  famc : FamC G 0
  cf_Family : ClsF K G 0
  fx_Family_points : (G.flds 0)[0]? = some ("points" : Str)
  fx_Family_lots : (G.flds 0)[1]? = some ("lots" : Str)
  fx_Family_looked : (G.flds 0)[2]? = some ("looked" : Str)
  fm_Family___eq__ : (G.flds 0).contains ("__eq__" : Str) = false
  fm_Family_there : (G.flds 0).contains ("there" : Str) = false
  cf_Biter : ClsF K G 1
  fx_Biter_known : (G.flds 1)[0]? = some ("known" : Str)
  fm_Biter_number : (G.flds 1).contains ("number" : Str) = false
  cf_Winner : ClsF K G 2
  fx_Winner_known : (G.flds 2)[0]? = some ("known" : Str)
  fm_Winner_wins : (G.flds 2).contains ("wins" : Str) = false
  cf_Player : ClsF K G 3
  fx_Player_family : (G.flds 3)[0]? = some ("family" : Str)
  fx_Player_known : (G.flds 3)[1]? = some ("known" : Str)
  fm_Player_number : (G.flds 3).contains ("number" : Str) = false
section
variable {P : Program} {wd : PySem.World} {K : PySem.W.Frag} {mg : Str → Option Value} {base : Heap} {G : Gen}
abbrev s_is_integer : Stmt := top 10
theorem sc_is_integer : FnScope ["thing"] ["thing"] (defScope s_is_integer) := ⟨rfl, rfl, rfl, by decide +kernel, rfl, by decide +kernel, by decide +kernel⟩
def b_is_integer : EvS := (sRet (mP (pAnd (p1 (dIsi .int) (bVar 0)) (pNot (p1 (dIsi .bool) (bVar 0))))))
def m_is_integer : Fn := runF [.ro] 0 b_is_integer
set_option maxHeartbeats 0 in
theorem ok_is_integer {f : Addr} {fd : FuncData} (Fd : Fun K "is_integer" "is_integer" s_is_integer f fd) (T : Tx P wd K mg base G) : FnOk P wd K mg base L2.CX0 2 f fd ["thing"] (spF G [.ro] m_is_integer) := by
  refine fn_tree 0 Fd sc_is_integer T.hG rfl rfl fun cdv A outer s H E hr F => ?_
  exact (s_one (s_ret (PM (r_and (r_isi .int F rfl T.b_isinstance rfl (r_var 0) rfl T.b_int rfl) (r_one (r_not (r_isi .bool F rfl T.b_isinstance rfl (r_var 0) rfl T.b_bool rfl)))))))
abbrev s_is_within : Stmt := top 11
theorem sc_is_within : FnScope ["thing", "low", "high"] ["thing", "low", "high"] (defScope s_is_within) := ⟨rfl, rfl, rfl, by decide +kernel, rfl, by decide +kernel, by decide +kernel⟩
def b_is_within : EvS := (sRet (mP (pAnd (gCall [.ro] m_is_integer (lCons (bVar 0) lNil)) (pChain dLe dLe (bVar 1) (bVar 0) (bVar 2)))))
def m_is_within : Fn := runF [.ro, .ro, .ro] 0 b_is_within
set_option maxHeartbeats 0 in
theorem ok_is_within {f : Addr} {fd : FuncData} (Fd : Fun K "is_within" "is_within" s_is_within f fd) (T : Tx P wd K mg base G) (c_is_integer : C8.Cal P wd K mg base 2 "is_integer" (spF G [.ro] m_is_integer) []) : FnOk P wd K mg base L2.CX0 4 f fd ["thing", "low", "high"] (spF G [.ro, .ro, .ro] m_is_within) := by
  refine fn_tree 0 Fd sc_is_within T.hG rfl rfl fun cdv A outer s H E hr F => ?_
  exact (s_one (s_ret (PM (r_and (r_call c_is_integer hr (by omega) rfl (b_cons (r_var 0) b_nil)) (r_one (r_chain (o_le) (o_le) (r_var 1) (r_var 0) (r_var 2)))))))
abbrev s_is_tuple : Stmt := top 12
theorem sc_is_tuple : FnScope ["thing", "least", "most"] ["thing", "least", "most"] (defScope s_is_tuple) := ⟨rfl, rfl, rfl, by decide +kernel, rfl, by decide +kernel, by decide +kernel⟩
def b_is_tuple : EvS := (sRet (mP (pAnd (p1 (dIsi .tuple) (bVar 0)) (pChain dLe dLe (bVar 1) (gC (g1 dLen) (lCons (bVar 0) lNil)) (bVar 2)))))
def m_is_tuple : Fn := runF [.ro, .ro, .ro] 0 b_is_tuple
set_option maxHeartbeats 0 in
theorem ok_is_tuple {f : Addr} {fd : FuncData} (Fd : Fun K "is_tuple" "is_tuple" s_is_tuple f fd) (T : Tx P wd K mg base G) : FnOk P wd K mg base L2.CX0 2 f fd ["thing", "least", "most"] (spF G [.ro, .ro, .ro] m_is_tuple) := by
  refine fn_tree 0 Fd sc_is_tuple T.hG rfl rfl fun cdv A outer s H E hr F => ?_
  exact (s_one (s_ret (PM (r_and (r_isi .tuple F rfl T.b_isinstance rfl (r_var 0) rfl T.b_tuple rfl) (r_one (r_chain (o_le) (o_le) (r_var 1) (PB (r_callB (c_len F) T.b_len rfl rfl (b_cons (r_var 0) b_nil))) (r_var 2)))))))
abbrev s_is_lot : Stmt := top 13
theorem sc_is_lot : FnScope ["thing", "many", "one", "other"] ["thing", "many"] (defScope s_is_lot) := ⟨rfl, rfl, rfl, by decide +kernel, rfl, by decide +kernel, by decide +kernel⟩
def b_is_lot : EvS := (sSeq (sIf (mT (tOrF (tNotF (fT (p1 (dIsi .tuple) (bVar 0)))) (tNotF (fT (gC (g1 dAll) (lCons (pLc (iSeqB (bVar 0)) (.nm 2) [2] tYesT (gCall [.ro, .ro, .ro] m_is_within (lCons (bVar 2) (lCons (pC (.int 0)) (lCons (p2 dSub (bVar 1) (pC (.int 1))) lNil))))) lNil)))))) (sRet (mP (pC (.bl false)))) sNil) (sRet (mP (gC (g1 dAll) (lCons (pLc (iZipB (lCons (bVar 0) (lCons (pSl (bVar 0) (some (pC (.int 1))) none) lNil))) (.tp [2, 3]) [2, 3] tYesT (p2 dLt (bVar 2) (bVar 3))) lNil)))))
def m_is_lot : Fn := runF [.ro, .ro] 2 b_is_lot
set_option maxHeartbeats 0 in
theorem ok_is_lot {f : Addr} {fd : FuncData} (Fd : Fun K "is_lot" "is_lot" s_is_lot f fd) (T : Tx P wd K mg base G) (c_is_within : C8.Cal P wd K mg base 4 "is_within" (spF G [.ro, .ro, .ro] m_is_within) []) : FnOk P wd K mg base L2.CX0 6 f fd ["thing", "many"] (spF G [.ro, .ro] m_is_lot) := by
  refine fn_tree 2 Fd sc_is_lot T.hG rfl rfl fun cdv A outer s H E hr F => ?_
  exact (s_cons (s_if (QM (PW.pt (q_or (q_not (q_val (r_isi .tuple F rfl T.b_isinstance rfl (r_var 0) rfl T.b_tuple rfl))) (q_or1 (q_not (q_val (r_callB (c_all F) T.b_all rfl rfl (b_cons (PB (r_lc F sc_is_lot.nd (blkOk_by (own := [("one", 2)]) (by kernel_rfl)) (i_seqB F (r_var 0)) (fun _ _ _ _ _ F => (tg_nm 2 sc_is_lot.nd)) (fun _ _ _ _ _ F => ts_nil) (fun _ _ _ _ _ F => (r_call c_is_within hr (by omega) rfl (b_cons (r_var 2) (b_cons (PB r_int) (b_cons (PB (r_op (o_sub) (r_var 1) (PB r_int))) b_nil))))))) b_nil)))))))) (s_one (s_ret (PM r_bl))) s_nil) (s_one (s_ret (PM (r_callB (c_all F) T.b_all rfl rfl (b_cons (PB (r_lc F sc_is_lot.nd (blkOk_by (own := [("one", 2), ("other", 3)]) (by kernel_rfl)) (i_zip F rfl T.b_zip (b_cons (r_var 0) (b_cons (PB (r_slice F (r_var 0) (oi_some r_int) oi_none)) b_nil))) (fun _ _ _ _ _ F => (tg_tp [2, 3] F (tgs_cons 2 sc_is_lot.nd (tgs_cons 3 sc_is_lot.nd tgs_nil)))) (fun _ _ _ _ _ F => ts_nil) (fun _ _ _ _ _ F => (r_cmp (o_lt F) (r_var 2) (r_var 3))))) b_nil))))))
abbrev s_is_count : Stmt := top 16
theorem sc_is_count : FnScope ["thing"] ["thing"] (defScope s_is_count) := ⟨rfl, rfl, rfl, by decide +kernel, rfl, by decide +kernel, by decide +kernel⟩
def b_is_count : EvS := (sRet (mP (gCall [.ro, .ro, .ro] m_is_within (lCons (bVar 0) (lCons (pC (.int 1)) (lCons (pC (.int 7)) lNil))))))
def m_is_count : Fn := runF [.ro] 0 b_is_count
set_option maxHeartbeats 0 in
theorem ok_is_count {f : Addr} {fd : FuncData} (Fd : Fun K "is_count" "is_count" s_is_count f fd) (T : Tx P wd K mg base G) {u_MOST_POINTS : Value} (g_MOST_POINTS : mg "MOST_POINTS" = some u_MOST_POINTS) (r_MOST_POINTS : RelV (.int 7) u_MOST_POINTS) (c_is_within : C8.Cal P wd K mg base 4 "is_within" (spF G [.ro, .ro, .ro] m_is_within) []) : FnOk P wd K mg base L2.CX0 6 f fd ["thing"] (spF G [.ro] m_is_count) := by
  refine fn_tree 0 Fd sc_is_count T.hG rfl rfl fun cdv A outer s H E hr F => ?_
  exact (s_one (s_ret (PM (r_call c_is_within hr (by omega) rfl (b_cons (r_var 0) (b_cons (PB r_int) (b_cons (PB (r_gint (u := u_MOST_POINTS) rfl g_MOST_POINTS r_MOST_POINTS)) b_nil)))))))
abbrev s_check_count : Stmt := top 17
theorem sc_check_count : FnScope ["points"] ["points"] (defScope s_check_count) := ⟨rfl, rfl, rfl, by decide +kernel, rfl, by decide +kernel, by decide +kernel⟩
def b_check_count : EvS := (sIf (mT (tNotF (fT (gCall [.ro] m_is_count (lCons (bVar 0) lNil))))) sNever sNil)
def m_check_count : Fn := runF [.ro] 0 b_check_count
set_option maxHeartbeats 0 in
theorem ok_check_count {f : Addr} {fd : FuncData} (Fd : Fun K "check_count" "check_count" s_check_count f fd) (T : Tx P wd K mg base G) (c_is_count : C8.Cal P wd K mg base 6 "is_count" (spF G [.ro] m_is_count) []) : FnOk P wd K mg base L2.CX0 8 f fd ["points"] (spF G [.ro] m_check_count) := by
  refine fn_tree 0 Fd sc_check_count T.hG rfl rfl fun cdv A outer s H E hr F => ?_
  exact (s_one (s_if (QM (q_not (q_val (r_call c_is_count hr (by omega) rfl (b_cons (r_var 0) b_nil))))) (s_one s_never) s_nil))
abbrev s_is_lot_of : Stmt := top 18
theorem sc_is_lot_of : FnScope ["points", "thing"] ["points", "thing"] (defScope s_is_lot_of) := ⟨rfl, rfl, rfl, by decide +kernel, rfl, by decide +kernel, by decide +kernel⟩
def b_is_lot_of : EvS := (sRet (mP (gCall [.ro, .ro] m_is_lot (lCons (bVar 1) (lCons (bVar 0) lNil)))))
def m_is_lot_of : Fn := runF [.ro, .ro] 0 b_is_lot_of
set_option maxHeartbeats 0 in
theorem ok_is_lot_of {f : Addr} {fd : FuncData} (Fd : Fun K "is_lot_of" "is_lot_of" s_is_lot_of f fd) (T : Tx P wd K mg base G) (c_is_lot : C8.Cal P wd K mg base 6 "is_lot" (spF G [.ro, .ro] m_is_lot) []) : FnOk P wd K mg base L2.CX0 8 f fd ["points", "thing"] (spF G [.ro, .ro] m_is_lot_of) := by
  refine fn_tree 0 Fd sc_is_lot_of T.hG rfl rfl fun cdv A outer s H E hr F => ?_
  exact (s_one (s_ret (PM (r_call c_is_lot hr (by omega) rfl (b_cons (r_var 1) (b_cons (r_var 0) b_nil))))))
abbrev s_are_lots : Stmt := top 19
theorem sc_are_lots : FnScope ["points", "thing", "lot", "one", "other"] ["points", "thing"] (defScope s_are_lots) := ⟨rfl, rfl, rfl, by decide +kernel, rfl, by decide +kernel, by decide +kernel⟩
def b_are_lots : EvS := (sSeq (sIf (mT (tOrF (tNotF (fT (p1 (dIsi .tuple) (bVar 1)))) (tNotF (fT (gC (g1 dAll) (lCons (pLc (iSeqB (bVar 1)) (.nm 2) [2] tYesT (gCall [.ro, .ro] m_is_lot_of (lCons (bVar 0) (lCons (bVar 2) lNil)))) lNil)))))) (sRet (mP (pC (.bl false)))) sNil) (sRet (mP (gC (g1 dAll) (lCons (pLc (iZipB (lCons (bVar 1) (lCons (pSl (bVar 1) (some (pC (.int 1))) none) lNil))) (.tp [3, 4]) [3, 4] tYesT (p2 dLt (bVar 3) (bVar 4))) lNil)))))
def m_are_lots : Fn := runF [.ro, .ro] 3 b_are_lots
set_option maxHeartbeats 0 in
theorem ok_are_lots {f : Addr} {fd : FuncData} (Fd : Fun K "are_lots" "are_lots" s_are_lots f fd) (T : Tx P wd K mg base G) (c_is_lot_of : C8.Cal P wd K mg base 8 "is_lot_of" (spF G [.ro, .ro] m_is_lot_of) []) : FnOk P wd K mg base L2.CX0 10 f fd ["points", "thing"] (spF G [.ro, .ro] m_are_lots) := by
  refine fn_tree 3 Fd sc_are_lots T.hG rfl rfl fun cdv A outer s H E hr F => ?_
  exact (s_cons (s_if (QM (PW.pt (q_or (q_not (q_val (r_isi .tuple F rfl T.b_isinstance rfl (r_var 1) rfl T.b_tuple rfl))) (q_or1 (q_not (q_val (r_callB (c_all F) T.b_all rfl rfl (b_cons (PB (r_lc F sc_are_lots.nd (blkOk_by (own := [("lot", 2)]) (by kernel_rfl)) (i_seqB F (r_var 1)) (fun _ _ _ _ _ F => (tg_nm 2 sc_are_lots.nd)) (fun _ _ _ _ _ F => ts_nil) (fun _ _ _ _ _ F => (r_call c_is_lot_of hr (by omega) rfl (b_cons (r_var 0) (b_cons (r_var 2) b_nil)))))) b_nil)))))))) (s_one (s_ret (PM r_bl))) s_nil) (s_one (s_ret (PM (r_callB (c_all F) T.b_all rfl rfl (b_cons (PB (r_lc F sc_are_lots.nd (blkOk_by (own := [("one", 3), ("other", 4)]) (by kernel_rfl)) (i_zip F rfl T.b_zip (b_cons (r_var 1) (b_cons (PB (r_slice F (r_var 1) (oi_some r_int) oi_none)) b_nil))) (fun _ _ _ _ _ F => (tg_tp [3, 4] F (tgs_cons 3 sc_are_lots.nd (tgs_cons 4 sc_are_lots.nd tgs_nil)))) (fun _ _ _ _ _ F => ts_nil) (fun _ _ _ _ _ F => (r_cmp (o_lt F) (r_var 3) (r_var 4))))) b_nil))))))
abbrev s_Family_init : Stmt := inClass (top 20) 0
theorem sc_Family_init : FnScope ["self", "points", "lots"] ["self", "points", "lots"] (defScope s_Family_init) := ⟨rfl, rfl, rfl, by decide +kernel, rfl, by decide +kernel, by decide +kernel⟩
def b_Family_init : EvS := (sSeq (sIf (mT (tNotF (fT (gCall [.ro] m_is_count (lCons (bVar 1) lNil))))) sNever sNil) (sSeq (sIf (mT (tNotF (fT (gCall [.ro, .ro] m_are_lots (lCons (bVar 1) (lCons (bVar 2) lNil)))))) sNever sNil) (sSeq (sAsg (mP (pTup (lCons (pI (bVar 1)) (lCons (pI (bVar 2)) lNil)))) (gFT 0 0 [0, 1])) (sFldS 0 2 0 (mP pDct0)))))
def m_Family_init : Fn := runF [.io, .ro, .ro] 0 b_Family_init
set_option maxHeartbeats 0 in
theorem ok_Family_init {f : Addr} {fd : FuncData} (Fd : Fun K "__init__" "Family.__init__" s_Family_init f fd) (T : Tx P wd K mg base G) (c_is_count : C8.Cal P wd K mg base 6 "is_count" (spF G [.ro] m_is_count) []) (c_are_lots : C8.Cal P wd K mg base 10 "are_lots" (spF G [.ro, .ro] m_are_lots) []) : FnOk P wd K mg base L2.CX0 12 f fd ["self", "points", "lots"] (spF G [.io, .ro, .ro] m_Family_init) := by
  refine fn_tree 0 Fd sc_Family_init T.hG rfl rfl fun cdv A outer s H E hr F => ?_
  exact (s_cons (s_if (QM (q_not (q_val (r_call c_is_count hr (by omega) rfl (b_cons (r_var 1) b_nil))))) (s_one s_never) s_nil) (s_cons (s_if (QM (q_not (q_val (r_call c_are_lots hr (by omega) rfl (b_cons (r_var 1) (b_cons (r_var 2) b_nil)))))) (s_one s_never) s_nil) (s_cons (s_asg (PM (r_tup (a_cons (BP (r_var 1)) (a_cons (BP (r_var 2)) a_nil)))) (g_flds 0 [0, 1] ["points", "lots"] F T.cf_Family (by simp [T.fx_Family_points, T.fx_Family_lots]) (gfs_cons 0 (gfs_cons 0 (gfs_nil 0))))) (s_one (s_fld 0 0 2 T.cf_Family T.fx_Family_looked (PM r_dct0))))))
abbrev s_Family_eq : Stmt := inClass (top 20) 1
theorem sc_Family_eq : FnScope ["self", "other"] ["self", "other"] (defScope s_Family_eq) := ⟨rfl, rfl, rfl, by decide +kernel, rfl, by decide +kernel, by decide +kernel⟩
def b_Family_eq : EvS := (sRet (mP (pAnd (p1 dIsF (bVar 1)) (p2 dEq (pTup (lCons (p1 dPoints (bVar 0)) (lCons (p1 dLots (bVar 0)) lNil))) (pTup (lCons (p1 dPoints (bVar 1)) (lCons (p1 dLots (bVar 1)) lNil)))))))
def m_Family_eq : Fn := runF [.ro, .ro] 0 b_Family_eq
set_option maxHeartbeats 0 in
theorem ok_Family_eq {f : Addr} {fd : FuncData} (Fd : Fun K "__eq__" "Family.__eq__" s_Family_eq f fd) (T : Tx P wd K mg base G) : FnOk P wd K mg base L2.CX0 2 f fd ["self", "other"] (spF G [.ro, .ro] m_Family_eq) := by
  refine fn_tree 0 Fd sc_Family_eq T.hG rfl rfl fun cdv A outer s H E hr F => ?_
  exact (s_one (s_ret (PM (r_and (r_isF T.famk.isc rfl T.b_isinstance rfl (r_var 1) rfl T.mg_Family) (r_one (r_cmp (o_eq F) (PB (r_tup (a_cons (r_points T.fam (r_var 0)) (a_cons (r_lots T.fam (r_var 0)) a_nil)))) (PB (r_tup (a_cons (r_points T.fam (r_var 1)) (a_cons (r_lots T.fam (r_var 1)) a_nil))))))))))
abbrev s_Family_there : Stmt := inClass (top 20) 2
theorem sc_Family_there : FnScope ["self", "lot"] ["self"] (defScope s_Family_there) := ⟨rfl, rfl, rfl, by decide +kernel, rfl, by decide +kernel, by decide +kernel⟩
def b_Family_there : EvS := (sMemR 1 (gC (g1 dDict) (lCons (pLc (iSeqB (p1 dLots (bVar 0))) (.nm 1) [1] tYesT (pTup (lCons (pI (bVar 1)) (lCons (pC (.bl true)) lNil)))) lNil)))
def m_Family_there : Fn := runF [.ro] 1 b_Family_there
set_option maxHeartbeats 0 in
theorem ok_Family_there {f : Addr} {fd : FuncData} (Fd : Fun K "there" "Family.there" s_Family_there f fd) (T : Tx P wd K mg base G) (hm_there : MemK G "there" 1 (gC (g1 dDict) (lCons (pLc (iSeqB (p1 dLots (bVar 0))) (.nm 1) [1] tYesT (pTup (lCons (pI (bVar 1)) (lCons (pC (.bl true)) lNil)))) lNil))) : FnOk P wd K mg base L2.CX0 2 f fd ["self"] (spF G [.ro] m_Family_there) := by
  refine fn_tree 1 Fd sc_Family_there T.hG rfl rfl fun cdv A outer s H E hr F => ?_
  exact (s_memR 1 F T.fam T.memf hm_there (r_callT (c_dict F) T.b_dict rfl rfl (b_cons (PB (r_lc F sc_Family_there.nd (blkOk_by (own := [("lot", 1)]) (by kernel_rfl)) (i_seqB F (PB (r_lots T.fam (r_var 0)))) (fun _ _ _ _ _ F => (tg_nm 1 sc_Family_there.nd)) (fun _ _ _ _ _ F => ts_nil) (fun _ _ _ _ _ F => (r_tup (a_cons (BP (r_var 1)) (a_cons r_bl a_nil)))))) b_nil)))
abbrev s_made : Stmt := top 21
theorem sc_made : FnScope ["points", "lots"] ["points", "lots"] (defScope s_made) := ⟨rfl, rfl, rfl, by decide +kernel, rfl, by decide +kernel, by decide +kernel⟩
def b_made : EvS := (sRet (mP (pFam 0 (gMake 0 [.ro, .ro] m_Family_init (lCons (bVar 0) (lCons (gC (g1 dTuple) (lCons (p1 dSortSet3 (bVar 1)) lNil)) lNil))))))
def m_made : Fn := runF [.ro, .ro] 0 b_made
set_option maxHeartbeats 0 in
theorem ok_made {f : Addr} {fd : FuncData} (Fd : Fun K "made" "made" s_made f fd) (T : Tx P wd K mg base G) (c_Family_init : C8.Mak P wd K mg base 12 "Family" (G.cls 0) (spF G [.io, .ro, .ro] m_Family_init) []) : FnOk P wd K mg base L2.CX0 14 f fd ["points", "lots"] (spF G [.ro, .ro] m_made) := by
  refine fn_tree 0 Fd sc_made T.hG rfl rfl fun cdv A outer s H E hr F => ?_
  exact (s_one (s_ret (PM (r_fam T.famc (r_make c_Family_init hr (by omega) rfl (b_cons (r_var 0) (b_cons (PB (r_callT (c_tuple F) T.b_tuple rfl rfl (b_cons (PB (r_sortedSet3 F rfl T.b_sorted rfl T.b_set (r_var 1))) b_nil))) b_nil)))))))
abbrev s_lot_of : Stmt := top 22
theorem sc_lot_of : FnScope ["number", "found", "point"] ["number"] (defScope s_lot_of) := ⟨rfl, rfl, rfl, by decide +kernel, rfl, by decide +kernel, by decide +kernel⟩
def b_lot_of : EvS := (sSeq (sPar [1, 2] (kCons (mP (pLst lNil)) (kCons (mP (pC (.int 0))) kNil))) (sSeq (sWhile (mT (fT (p2 dGt (bVar 0) (pC (.int 0))))) (sSeq (sIf (mT (fT (p2 dEq (p2 dMod (bVar 0) (pC (.int 2))) (pC (.int 1))))) (sDrop (mPush (fun e => slot e 1) (fun e c => e.set 1 c) (mP (pI (bVar 2))))) sNil) (sPar [0, 2] (kCons (mP (p2 dDiv (bVar 0) (pC (.int 2)))) (kCons (mP (p2 dAdd (bVar 2) (pC (.int 1)))) kNil))))) (sRet (mP (gC (g1 dTuple) (lCons (bVar 1) lNil))))))
def m_lot_of : Fn := runF [.mv] 2 b_lot_of
set_option maxHeartbeats 0 in
theorem ok_lot_of {f : Addr} {fd : FuncData} (Fd : Fun K "lot_of" "lot_of" s_lot_of f fd) (T : Tx P wd K mg base G) : FnOk P wd K mg base L2.CX0 2 f fd ["number"] (spF G [.mv] m_lot_of) := by
  refine fn_tree 2 Fd sc_lot_of T.hG rfl rfl fun cdv A outer s H E hr F => ?_
  exact (s_cons (s_par 1 2 F sc_lot_of.nd (k_cons (PM (r_lst a_nil)) (k_cons (PM r_int) k_nil))) (s_cons (s_while PassesOwn.never (QM (q_cmp (o_gt) (r_var 0) (PB r_int))) (s_cons (s_if (QM (q_cmp (o_eq F) (PB (r_op (o_mod) (r_var 0) (PB r_int))) (PB r_int))) (s_one (s_expr (rM_append 1 (PM (BP (r_var 2)))))) s_nil) (s_one (s_par 0 2 F sc_lot_of.nd (k_cons (PM (r_op (o_div) (r_var 0) (PB r_int))) (k_cons (PM (r_op (o_add F) (r_var 2) (PB r_int))) k_nil)))))) (s_one (s_ret (PM (r_callT (c_tuple F) T.b_tuple rfl rfl (b_cons (r_var 1) b_nil)))))))
abbrev s_lots_of : Stmt := top 23
theorem sc_lots_of : FnScope ["points", "number"] ["points"] (defScope s_lots_of) := ⟨rfl, rfl, rfl, by decide +kernel, rfl, by decide +kernel, by decide +kernel⟩
def b_lots_of : EvS := (sRet (mP (pLc (iRng1B (lCons (p2 dShl (pC (.int 1)) (bVar 0)) lNil)) (.nm 1) [1] tYesT (gCall [.mv] m_lot_of (lCons (bVar 1) lNil)))))
def m_lots_of : Fn := runF [.ro] 1 b_lots_of
set_option maxHeartbeats 0 in
theorem ok_lots_of {f : Addr} {fd : FuncData} (Fd : Fun K "lots_of" "lots_of" s_lots_of f fd) (T : Tx P wd K mg base G) (c_lot_of : C8.Cal P wd K mg base 2 "lot_of" (spF G [.mv] m_lot_of) []) : FnOk P wd K mg base L2.CX0 4 f fd ["points"] (spF G [.ro] m_lots_of) := by
  refine fn_tree 1 Fd sc_lots_of T.hG rfl rfl fun cdv A outer s H E hr F => ?_
  exact (s_one (s_ret (PM (r_lc F sc_lots_of.nd (blkOk_by (own := [("number", 1)]) (by kernel_rfl)) (i_rng1 rfl T.b_range (a_cons (r_op (o_shl) (PB r_int) (r_var 0)) a_nil)) (fun _ _ _ _ _ F => (tg_nm 1 sc_lots_of.nd)) (fun _ _ _ _ _ F => ts_nil) (fun _ _ _ _ _ F => (r_call c_lot_of hr (by omega) rfl (b_cons (r_var 1) b_nil)))))))
abbrev s_is_inside : Stmt := top 24
theorem sc_is_inside : FnScope ["one", "other", "point"] ["one", "other"] (defScope s_is_inside) := ⟨rfl, rfl, rfl, by decide +kernel, rfl, by decide +kernel, by decide +kernel⟩
def b_is_inside : EvS := (sRet (mP (gC (g1 dAll) (lCons (pLc (iSeqB (bVar 0)) (.nm 2) [2] tYesT (p2 dIn (bVar 2) (bVar 1))) lNil))))
def m_is_inside : Fn := runF [.ro, .ro] 1 b_is_inside
set_option maxHeartbeats 0 in
theorem ok_is_inside {f : Addr} {fd : FuncData} (Fd : Fun K "is_inside" "is_inside" s_is_inside f fd) (T : Tx P wd K mg base G) : FnOk P wd K mg base L2.CX0 2 f fd ["one", "other"] (spF G [.ro, .ro] m_is_inside) := by
  refine fn_tree 1 Fd sc_is_inside T.hG rfl rfl fun cdv A outer s H E hr F => ?_
  exact (s_one (s_ret (PM (r_callB (c_all F) T.b_all rfl rfl (b_cons (PB (r_lc F sc_is_inside.nd (blkOk_by (own := [("point", 2)]) (by kernel_rfl)) (i_seqB F (r_var 0)) (fun _ _ _ _ _ F => (tg_nm 2 sc_is_inside.nd)) (fun _ _ _ _ _ F => ts_nil) (fun _ _ _ _ _ F => (r_cmp (o_in F) (r_var 2) (r_var 1))))) b_nil)))))
abbrev s_without_one : Stmt := top 25
theorem sc_without_one : FnScope ["lot", "point", "one"] ["lot", "point"] (defScope s_without_one) := ⟨rfl, rfl, rfl, by decide +kernel, rfl, by decide +kernel, by decide +kernel⟩
def b_without_one : EvS := (sRet (mP (gC (g1 dTuple) (lCons (pLc (iSeqB (bVar 0)) (.nm 2) [2] (fT (p2 dNe (bVar 2) (bVar 1))) (pI (bVar 2))) lNil))))
def m_without_one : Fn := runF [.ro, .ro] 1 b_without_one
set_option maxHeartbeats 0 in
theorem ok_without_one {f : Addr} {fd : FuncData} (Fd : Fun K "without_one" "without_one" s_without_one f fd) (T : Tx P wd K mg base G) : FnOk P wd K mg base L2.CX0 2 f fd ["lot", "point"] (spF G [.ro, .ro] m_without_one) := by
  refine fn_tree 1 Fd sc_without_one T.hG rfl rfl fun cdv A outer s H E hr F => ?_
  exact (s_one (s_ret (PM (r_callT (c_tuple F) T.b_tuple rfl rfl (b_cons (PB (r_lc F sc_without_one.nd (blkOk_by (own := [("one", 2)]) (by kernel_rfl)) (i_seqB F (r_var 0)) (fun _ _ _ _ _ F => (tg_nm 2 sc_without_one.nd)) (fun _ _ _ _ _ F => (ts_one (q_cmp (o_ne F) (r_var 2) (r_var 1)))) (fun _ _ _ _ _ F => (BP (r_var 2))))) b_nil)))))
abbrev s_all_of : Stmt := top 26
theorem sc_all_of : FnScope ["points"] ["points"] (defScope s_all_of) := ⟨rfl, rfl, rfl, by decide +kernel, rfl, by decide +kernel, by decide +kernel⟩
def b_all_of : EvS := (sSeq (sDrop (mP (gCall [.ro] m_check_count (lCons (bVar 0) lNil)))) (sRet (mP (gCall [.ro, .ro] m_made (lCons (bVar 0) (lCons (gCall [.ro] m_lots_of (lCons (bVar 0) lNil)) lNil))))))
def m_all_of : Fn := runF [.ro] 0 b_all_of
set_option maxHeartbeats 0 in
theorem ok_all_of {f : Addr} {fd : FuncData} (Fd : Fun K "all_of" "all_of" s_all_of f fd) (T : Tx P wd K mg base G) (c_check_count : C8.Cal P wd K mg base 8 "check_count" (spF G [.ro] m_check_count) []) (c_made : C8.Cal P wd K mg base 14 "made" (spF G [.ro, .ro] m_made) []) (c_lots_of : C8.Cal P wd K mg base 4 "lots_of" (spF G [.ro] m_lots_of) []) : FnOk P wd K mg base L2.CX0 16 f fd ["points"] (spF G [.ro] m_all_of) := by
  refine fn_tree 0 Fd sc_all_of T.hG rfl rfl fun cdv A outer s H E hr F => ?_
  exact (s_cons (s_expr (PM (r_call c_check_count hr (by omega) rfl (b_cons (r_var 0) b_nil)))) (s_one (s_ret (PM (r_call c_made hr (by omega) rfl (b_cons (r_var 0) (b_cons (PB (r_call c_lots_of hr (by omega) rfl (b_cons (r_var 0) b_nil))) b_nil)))))))
abbrev s_lower_lots : Stmt := top 28
theorem sc_lower_lots : FnScope ["points", "lots", "one", "lot"] ["points", "lots"] (defScope s_lower_lots) := ⟨rfl, rfl, rfl, by decide +kernel, rfl, by decide +kernel, by decide +kernel⟩
def b_lower_lots : EvS := (sRet (mP (pLc (iSeqB (gCall [.ro] m_lots_of (lCons (bVar 0) lNil))) (.nm 2) [2] (fT (gC (g1 dAny) (lCons (pLc (iSeqB (bVar 1)) (.nm 3) [3] tYesT (gCall [.ro, .ro] m_is_inside (lCons (bVar 2) (lCons (bVar 3) lNil)))) lNil))) (pI (bVar 2)))))
def m_lower_lots : Fn := runF [.ro, .ro] 2 b_lower_lots
set_option maxHeartbeats 0 in
theorem ok_lower_lots {f : Addr} {fd : FuncData} (Fd : Fun K "lower_lots" "lower_lots" s_lower_lots f fd) (T : Tx P wd K mg base G) (c_is_inside : C8.Cal P wd K mg base 2 "is_inside" (spF G [.ro, .ro] m_is_inside) []) (c_lots_of : C8.Cal P wd K mg base 4 "lots_of" (spF G [.ro] m_lots_of) []) : FnOk P wd K mg base L2.CX0 6 f fd ["points", "lots"] (spF G [.ro, .ro] m_lower_lots) := by
  refine fn_tree 2 Fd sc_lower_lots T.hG rfl rfl fun cdv A outer s H E hr F => ?_
  exact (s_one (s_ret (PM (r_lc F sc_lower_lots.nd (blkOk_by (own := [("one", 2)]) (by kernel_rfl)) (i_seqB F (PB (r_call c_lots_of hr (by omega) rfl (b_cons (r_var 0) b_nil)))) (fun _ _ _ _ _ F => (tg_nm 2 sc_lower_lots.nd)) (fun _ _ _ _ _ F => (ts_one (q_val (r_callB (c_any F) T.b_any rfl rfl (b_cons (PB (r_lc F sc_lower_lots.nd (blkOk_by (own := [("lot", 3)]) (by kernel_rfl)) (i_seqB F (r_var 1)) (fun _ _ _ _ _ F => (tg_nm 3 sc_lower_lots.nd)) (fun _ _ _ _ _ F => ts_nil) (fun _ _ _ _ _ F => (r_call c_is_inside hr (by omega) rfl (b_cons (r_var 2) (b_cons (r_var 3) b_nil)))))) b_nil))))) (fun _ _ _ _ _ F => (BP (r_var 2)))))))
abbrev s_lower : Stmt := top 29
theorem sc_lower : FnScope ["family"] ["family"] (defScope s_lower) := ⟨rfl, rfl, rfl, by decide +kernel, rfl, by decide +kernel, by decide +kernel⟩
def b_lower : EvS := (sRet (mP (gCall [.ro, .ro] m_made (lCons (p1 dPoints (bVar 0)) (lCons (gCall [.ro, .ro] m_lower_lots (lCons (p1 dPoints (bVar 0)) (lCons (p1 dLots (bVar 0)) lNil))) lNil)))))
def m_lower : Fn := runF [.ro] 0 b_lower
set_option maxHeartbeats 0 in
theorem ok_lower {f : Addr} {fd : FuncData} (Fd : Fun K "lower" "lower" s_lower f fd) (T : Tx P wd K mg base G) (c_made : C8.Cal P wd K mg base 14 "made" (spF G [.ro, .ro] m_made) []) (c_lower_lots : C8.Cal P wd K mg base 6 "lower_lots" (spF G [.ro, .ro] m_lower_lots) []) : FnOk P wd K mg base L2.CX0 16 f fd ["family"] (spF G [.ro] m_lower) := by
  refine fn_tree 0 Fd sc_lower T.hG rfl rfl fun cdv A outer s H E hr F => ?_
  exact (s_one (s_ret (PM (r_call c_made hr (by omega) rfl (b_cons (PB (r_points T.fam (r_var 0))) (b_cons (PB (r_call c_lower_lots hr (by omega) rfl (b_cons (PB (r_points T.fam (r_var 0))) (b_cons (PB (r_lots T.fam (r_var 0))) b_nil)))) b_nil))))))
abbrev s_is_lower : Stmt := top 30
theorem sc_is_lower : FnScope ["family", "lot", "point"] ["family"] (defScope s_is_lower) := ⟨rfl, rfl, rfl, by decide +kernel, rfl, by decide +kernel, by decide +kernel⟩
def b_is_lower : EvS := (sRet (mP (gC (g1 dAll) (lCons (pLc (iSeqB (p1 dLots (bVar 0))) (.nm 1) [1] tYesT (gC (g1 dAll) (lCons (pLc (iSeqB (bVar 1)) (.nm 2) [2] tYesT (p2 dIn (gCall [.ro, .ro] m_without_one (lCons (bVar 1) (lCons (bVar 2) lNil))) (gMethF [.ro] m_Family_there (bVar 0)))) lNil))) lNil))))
def m_is_lower : Fn := runF [.ro] 2 b_is_lower
set_option maxHeartbeats 0 in
theorem ok_is_lower {f : Addr} {fd : FuncData} (Fd : Fun K "is_lower" "is_lower" s_is_lower f fd) (T : Tx P wd K mg base G) (c_without_one : C8.Cal P wd K mg base 2 "without_one" (spF G [.ro, .ro] m_without_one) []) (c_Family_there : C8.Met P wd K mg base 2 G.famC "there" (spF G [.ro] m_Family_there) []) : FnOk P wd K mg base L2.CX0 4 f fd ["family"] (spF G [.ro] m_is_lower) := by
  refine fn_tree 2 Fd sc_is_lower T.hG rfl rfl fun cdv A outer s H E hr F => ?_
  exact (s_one (s_ret (PM (r_callB (c_all F) T.b_all rfl rfl (b_cons (PB (r_lc F sc_is_lower.nd (blkOk_by (own := [("lot", 1)]) (by kernel_rfl)) (i_seqB F (PB (r_lots T.fam (r_var 0)))) (fun _ _ _ _ _ F => (tg_nm 1 sc_is_lower.nd)) (fun _ _ _ _ _ F => ts_nil) (fun _ _ _ _ _ F => (r_callB (c_all F) T.b_all rfl rfl (b_cons (PB (r_lc F sc_is_lower.nd (blkOk_by (own := [("point", 2)]) (by kernel_rfl)) (i_seqB F (r_var 1)) (fun _ _ _ _ _ F => (tg_nm 2 sc_is_lower.nd)) (fun _ _ _ _ _ F => ts_nil) (fun _ _ _ _ _ F => (r_cmp (o_in F) (PB (r_call c_without_one hr (by omega) rfl (b_cons (r_var 1) (b_cons (r_var 2) b_nil)))) (PB (r_methF0 c_Family_there hr (by omega) (r_var 0) (by decide +kernel))))))) b_nil))))) b_nil)))))
abbrev s_check_complex : Stmt := top 32
theorem sc_check_complex : FnScope ["family"] ["family"] (defScope s_check_complex) := ⟨rfl, rfl, rfl, by decide +kernel, rfl, by decide +kernel, by decide +kernel⟩
def b_check_complex : EvS := (sSeq (sMemN 0 (pAnd (p2 dGt (gC (g1 dLen) (lCons (p1 dLots (bVar 0)) lNil)) (pC (.int 0))) (gCall [.ro] m_is_lower (lCons (bVar 0) lNil)))) sNil)
def m_check_complex : Fn := runF [.ro] 0 b_check_complex
set_option maxHeartbeats 0 in
theorem ok_check_complex {f : Addr} {fd : FuncData} (Fd : Fun K "check_complex" "check_complex" s_check_complex f fd) (T : Tx P wd K mg base G) (hm_complex : MemK G "complex" 0 (pAnd (p2 dGt (gC (g1 dLen) (lCons (p1 dLots (bVar 0)) lNil)) (pC (.int 0))) (gCall [.ro] m_is_lower (lCons (bVar 0) lNil)))) (c_is_lower : C8.Cal P wd K mg base 4 "is_lower" (spF G [.ro] m_is_lower) []) : FnOk P wd K mg base L2.CX0 6 f fd ["family"] (spF G [.ro] m_check_complex) := by
  refine fn_tree 0 Fd sc_check_complex T.hG rfl rfl fun cdv A outer s H E hr F => ?_
  exact (s_memN 0 F T.fam T.memf hm_complex (r_and (r_cmp (o_gt) (PB (r_callB (c_len F) T.b_len rfl rfl (b_cons (PB (r_lots T.fam (r_var 0))) b_nil))) (PB r_int)) (r_one (r_call c_is_lower hr (by omega) rfl (b_cons (r_var 0) b_nil)))) s_nil)
abbrev s_check_face : Stmt := top 33
theorem sc_check_face : FnScope ["family", "lot"] ["family", "lot"] (defScope s_check_face) := ⟨rfl, rfl, rfl, by decide +kernel, rfl, by decide +kernel, by decide +kernel⟩
def b_check_face : EvS := (sSeq (sDrop (mP (gCall [.ro] m_check_complex (lCons (bVar 0) lNil)))) (sIf (mT (tOrF (tNotF (fT (gCall [.ro, .ro] m_is_lot_of (lCons (p1 dPoints (bVar 0)) (lCons (bVar 1) lNil))))) (fT (p2 dNotIn (bVar 1) (gMethF [.ro] m_Family_there (bVar 0)))))) sNever sNil))
def m_check_face : Fn := runF [.ro, .ro] 0 b_check_face
set_option maxHeartbeats 0 in
theorem ok_check_face {f : Addr} {fd : FuncData} (Fd : Fun K "check_face" "check_face" s_check_face f fd) (T : Tx P wd K mg base G) (c_check_complex : C8.Cal P wd K mg base 6 "check_complex" (spF G [.ro] m_check_complex) []) (c_is_lot_of : C8.Cal P wd K mg base 8 "is_lot_of" (spF G [.ro, .ro] m_is_lot_of) []) (c_Family_there : C8.Met P wd K mg base 2 G.famC "there" (spF G [.ro] m_Family_there) []) : FnOk P wd K mg base L2.CX0 10 f fd ["family", "lot"] (spF G [.ro, .ro] m_check_face) := by
  refine fn_tree 0 Fd sc_check_face T.hG rfl rfl fun cdv A outer s H E hr F => ?_
  exact (s_cons (s_expr (PM (r_call c_check_complex hr (by omega) rfl (b_cons (r_var 0) b_nil)))) (s_one (s_if (QM (PW.pt (q_or (q_not (q_val (r_call c_is_lot_of hr (by omega) rfl (b_cons (PB (r_points T.fam (r_var 0))) (b_cons (r_var 1) b_nil))))) (q_or1 (q_cmp (o_notIn F) (r_var 1) (PB (r_methF0 c_Family_there hr (by omega) (r_var 0) (by decide +kernel)))))))) (s_one s_never) s_nil)))
abbrev s_without_star : Stmt := top 34
theorem sc_without_star : FnScope ["family", "lot", "one"] ["family", "lot"] (defScope s_without_star) := ⟨rfl, rfl, rfl, by decide +kernel, rfl, by decide +kernel, by decide +kernel⟩
def b_without_star : EvS := (sSeq (sDrop (mP (gCall [.ro, .ro] m_check_face (lCons (bVar 0) (lCons (bVar 1) lNil))))) (sRet (mP (gCall [.ro, .ro] m_made (lCons (p1 dPoints (bVar 0)) (lCons (pLc (iSeqB (p1 dLots (bVar 0))) (.nm 2) [2] (tNotF (fT (gCall [.ro, .ro] m_is_inside (lCons (bVar 1) (lCons (bVar 2) lNil))))) (pI (bVar 2))) lNil))))))
def m_without_star : Fn := runF [.ro, .ro] 1 b_without_star
set_option maxHeartbeats 0 in
theorem ok_without_star {f : Addr} {fd : FuncData} (Fd : Fun K "without_star" "without_star" s_without_star f fd) (T : Tx P wd K mg base G) (c_check_face : C8.Cal P wd K mg base 10 "check_face" (spF G [.ro, .ro] m_check_face) []) (c_made : C8.Cal P wd K mg base 14 "made" (spF G [.ro, .ro] m_made) []) (c_is_inside : C8.Cal P wd K mg base 2 "is_inside" (spF G [.ro, .ro] m_is_inside) []) : FnOk P wd K mg base L2.CX0 16 f fd ["family", "lot"] (spF G [.ro, .ro] m_without_star) := by
  refine fn_tree 1 Fd sc_without_star T.hG rfl rfl fun cdv A outer s H E hr F => ?_
  exact (s_cons (s_expr (PM (r_call c_check_face hr (by omega) rfl (b_cons (r_var 0) (b_cons (r_var 1) b_nil))))) (s_one (s_ret (PM (r_call c_made hr (by omega) rfl (b_cons (PB (r_points T.fam (r_var 0))) (b_cons (PB (r_lc F sc_without_star.nd (blkOk_by (own := [("one", 2)]) (by kernel_rfl)) (i_seqB F (PB (r_lots T.fam (r_var 0)))) (fun _ _ _ _ _ F => (tg_nm 2 sc_without_star.nd)) (fun _ _ _ _ _ F => (ts_one (q_not (q_val (r_call c_is_inside hr (by omega) rfl (b_cons (r_var 1) (b_cons (r_var 2) b_nil))))))) (fun _ _ _ _ _ F => (BP (r_var 2))))) b_nil)))))))
abbrev s_faces_to_bite : Stmt := top 37
theorem sc_faces_to_bite : FnScope ["lots", "lot"] ["lots"] (defScope s_faces_to_bite) := ⟨rfl, rfl, rfl, by decide +kernel, rfl, by decide +kernel, by decide +kernel⟩
def b_faces_to_bite : EvS := (sRet (mP (gC (g1 dSorted2) (lCons (pLc (iSeqB (bVar 0)) (.nm 1) [1] (fT (p2 dGt (gC (g1 dLen) (lCons (bVar 1) lNil)) (pC (.int 0)))) (pI (bVar 1))) lNil))))
def m_faces_to_bite : Fn := runF [.ro] 1 b_faces_to_bite
set_option maxHeartbeats 0 in
theorem ok_faces_to_bite {f : Addr} {fd : FuncData} (Fd : Fun K "faces_to_bite" "faces_to_bite" s_faces_to_bite f fd) (T : Tx P wd K mg base G) : FnOk P wd K mg base L2.CX0 2 f fd ["lots"] (spF G [.ro] m_faces_to_bite) := by
  refine fn_tree 1 Fd sc_faces_to_bite T.hG rfl rfl fun cdv A outer s H E hr F => ?_
  exact (s_one (s_ret (PM (r_callB (c_sorted2 F) T.b_sorted rfl rfl (b_cons (PB (r_lc F sc_faces_to_bite.nd (blkOk_by (own := [("lot", 1)]) (by kernel_rfl)) (i_seqB F (r_var 0)) (fun _ _ _ _ _ F => (tg_nm 1 sc_faces_to_bite.nd)) (fun _ _ _ _ _ F => (ts_one (q_cmp (o_gt) (PB (r_callB (c_len F) T.b_len rfl rfl (b_cons (r_var 1) b_nil))) (PB r_int)))) (fun _ _ _ _ _ F => (BP (r_var 1))))) b_nil)))))
abbrev s_behind : Stmt := top 38
theorem sc_behind : FnScope ["lots", "face", "lot"] ["lots", "face"] (defScope s_behind) := ⟨rfl, rfl, rfl, by decide +kernel, rfl, by decide +kernel, by decide +kernel⟩
def b_behind : EvS := (sRet (mP (gC (g1 dTuple) (lCons (pLc (iSeqB (bVar 0)) (.nm 2) [2] (tNotF (fT (gCall [.ro, .ro] m_is_inside (lCons (bVar 1) (lCons (bVar 2) lNil))))) (pI (bVar 2))) lNil))))
def m_behind : Fn := runF [.ro, .ro] 1 b_behind
set_option maxHeartbeats 0 in
theorem ok_behind {f : Addr} {fd : FuncData} (Fd : Fun K "behind" "behind" s_behind f fd) (T : Tx P wd K mg base G) (c_is_inside : C8.Cal P wd K mg base 2 "is_inside" (spF G [.ro, .ro] m_is_inside) []) : FnOk P wd K mg base L2.CX0 4 f fd ["lots", "face"] (spF G [.ro, .ro] m_behind) := by
  refine fn_tree 1 Fd sc_behind T.hG rfl rfl fun cdv A outer s H E hr F => ?_
  exact (s_one (s_ret (PM (r_callT (c_tuple F) T.b_tuple rfl rfl (b_cons (PB (r_lc F sc_behind.nd (blkOk_by (own := [("lot", 2)]) (by kernel_rfl)) (i_seqB F (r_var 0)) (fun _ _ _ _ _ F => (tg_nm 2 sc_behind.nd)) (fun _ _ _ _ _ F => (ts_one (q_not (q_val (r_call c_is_inside hr (by omega) rfl (b_cons (r_var 1) (b_cons (r_var 2) b_nil))))))) (fun _ _ _ _ _ F => (BP (r_var 2))))) b_nil)))))
abbrev s_bites : Stmt := top 39
theorem sc_bites : FnScope ["family"] ["family"] (defScope s_bites) := ⟨rfl, rfl, rfl, by decide +kernel, rfl, by decide +kernel, by decide +kernel⟩
def b_bites : EvS := (sSeq (sDrop (mP (gCall [.ro] m_check_complex (lCons (bVar 0) lNil)))) (sRet (mP (gC (g1 dTuple) (lCons (gCall [.ro] m_faces_to_bite (lCons (p1 dLots (bVar 0)) lNil)) lNil)))))
def m_bites : Fn := runF [.ro] 0 b_bites
set_option maxHeartbeats 0 in
theorem ok_bites {f : Addr} {fd : FuncData} (Fd : Fun K "bites" "bites" s_bites f fd) (T : Tx P wd K mg base G) (c_check_complex : C8.Cal P wd K mg base 6 "check_complex" (spF G [.ro] m_check_complex) []) (c_faces_to_bite : C8.Cal P wd K mg base 2 "faces_to_bite" (spF G [.ro] m_faces_to_bite) []) : FnOk P wd K mg base L2.CX0 8 f fd ["family"] (spF G [.ro] m_bites) := by
  refine fn_tree 0 Fd sc_bites T.hG rfl rfl fun cdv A outer s H E hr F => ?_
  exact (s_cons (s_expr (PM (r_call c_check_complex hr (by omega) rfl (b_cons (r_var 0) b_nil)))) (s_one (s_ret (PM (r_callT (c_tuple F) T.b_tuple rfl rfl (b_cons (PB (r_call c_faces_to_bite hr (by omega) rfl (b_cons (PB (r_lots T.fam (r_var 0))) b_nil))) b_nil))))))
abbrev s_bitten : Stmt := top 40
theorem sc_bitten : FnScope ["family", "lot"] ["family", "lot"] (defScope s_bitten) := ⟨rfl, rfl, rfl, by decide +kernel, rfl, by decide +kernel, by decide +kernel⟩
def b_bitten : EvS := (sSeq (sDrop (mP (gCall [.ro, .ro] m_check_face (lCons (bVar 0) (lCons (bVar 1) lNil))))) (sSeq (sIf (mT (fT (p2 dEq (gC (g1 dLen) (lCons (bVar 1) lNil)) (pC (.int 0))))) sNever sNil) (sRet (mP (gCall [.ro, .ro] m_made (lCons (p1 dPoints (bVar 0)) (lCons (gCall [.ro, .ro] m_behind (lCons (p1 dLots (bVar 0)) (lCons (bVar 1) lNil))) lNil)))))))
def m_bitten : Fn := runF [.ro, .ro] 0 b_bitten
set_option maxHeartbeats 0 in
theorem ok_bitten {f : Addr} {fd : FuncData} (Fd : Fun K "bitten" "bitten" s_bitten f fd) (T : Tx P wd K mg base G) (c_check_face : C8.Cal P wd K mg base 10 "check_face" (spF G [.ro, .ro] m_check_face) []) (c_made : C8.Cal P wd K mg base 14 "made" (spF G [.ro, .ro] m_made) []) (c_behind : C8.Cal P wd K mg base 4 "behind" (spF G [.ro, .ro] m_behind) []) : FnOk P wd K mg base L2.CX0 16 f fd ["family", "lot"] (spF G [.ro, .ro] m_bitten) := by
  refine fn_tree 0 Fd sc_bitten T.hG rfl rfl fun cdv A outer s H E hr F => ?_
  exact (s_cons (s_expr (PM (r_call c_check_face hr (by omega) rfl (b_cons (r_var 0) (b_cons (r_var 1) b_nil))))) (s_cons (s_if (QM (q_cmp (o_eq F) (PB (r_callB (c_len F) T.b_len rfl rfl (b_cons (r_var 1) b_nil))) (PB r_int))) (s_one s_never) s_nil) (s_one (s_ret (PM (r_call c_made hr (by omega) rfl (b_cons (PB (r_points T.fam (r_var 0))) (b_cons (PB (r_call c_behind hr (by omega) rfl (b_cons (PB (r_lots T.fam (r_var 0))) (b_cons (r_var 1) b_nil)))) b_nil))))))))
abbrev s_Biter_init : Stmt := inClass (top 41) 0
theorem sc_Biter_init : FnScope ["self"] ["self"] (defScope s_Biter_init) := ⟨rfl, rfl, rfl, by decide +kernel, rfl, by decide +kernel, by decide +kernel⟩
def b_Biter_init : EvS := (sFldS 1 0 0 (mP pDct0))
def m_Biter_init : Fn := runF [.io] 0 b_Biter_init
set_option maxHeartbeats 0 in
theorem ok_Biter_init {f : Addr} {fd : FuncData} (Fd : Fun K "__init__" "Biter.__init__" s_Biter_init f fd) (T : Tx P wd K mg base G) : FnOk P wd K mg base L2.CX0 2 f fd ["self"] (spF G [.io] m_Biter_init) := by
  refine fn_tree 0 Fd sc_Biter_init T.hG rfl rfl fun cdv A outer s H E hr F => ?_
  exact (s_one (s_fld 0 1 0 T.cf_Biter T.fx_Biter_known (PM r_dct0)))
abbrev s_Biter_number : Stmt := inClass (top 41) 1
theorem sc_Biter_number : FnScope ["self", "lots", "some", "found", "face"] ["self", "lots"] (defScope s_Biter_number) := ⟨rfl, rfl, rfl, by decide +kernel, rfl, by decide +kernel, by decide +kernel⟩
def b_Biter_number (n : Nat) (m_Biter_number : Nat → Fn) : EvS := (sSeq (sIf (mT (fT (p2 dNotIn (bVar 1) (p1 (dFld 1 0) (bVar 0))))) (sSeq (sAsg (gCM (g1 dDict) (kCons (mLc (iSeqM (mP (gCall [.ro] m_faces_to_bite (lCons (bVar 1) lNil)))) (.nm 4) [4] (mT tYesT) (mTup (kCons (mMeth 1 [.s 0, .m (mP (gCall [.ro, .ro] m_behind (lCons (bVar 1) (lCons (bVar 4) lNil))))] (m_Biter_number n)) (kCons (mP (pC (.bl true))) kNil)))) kNil)) (gNm 2)) (sSeq (sAsg (mP (pC (.int 0))) (gNm 3)) (sSeq (sWhile (mT (fT (p2 dIn (bVar 3) (bVar 2)))) (sAsg (mP (p2 dAdd (bVar 3) (pC (.int 1)))) (gNm 3))) (sAsg (mP (pI (bVar 3))) (gIx (getF 1 0 0) (putFd 1 0 0) (pI (bVar 1))))))) sNil) (sRet (mP (pI (p2 dIx (p1 (dFld 1 0) (bVar 0)) (bVar 1))))))
def m_Biter_number : Nat → Fn
  | 0 => fun _ => none
  | n + 1 => runF [.io, .ro] 3 ((sSeq (sIf (mT (fT (p2 dNotIn (bVar 1) (p1 (dFld 1 0) (bVar 0))))) (sSeq (sAsg (gCM (g1 dDict) (kCons (mLc (iSeqM (mP (gCall [.ro] m_faces_to_bite (lCons (bVar 1) lNil)))) (.nm 4) [4] (mT tYesT) (mTup (kCons (mMeth 1 [.s 0, .m (mP (gCall [.ro, .ro] m_behind (lCons (bVar 1) (lCons (bVar 4) lNil))))] (m_Biter_number n)) (kCons (mP (pC (.bl true))) kNil)))) kNil)) (gNm 2)) (sSeq (sAsg (mP (pC (.int 0))) (gNm 3)) (sSeq (sWhile (mT (fT (p2 dIn (bVar 3) (bVar 2)))) (sAsg (mP (p2 dAdd (bVar 3) (pC (.int 1)))) (gNm 3))) (sAsg (mP (pI (bVar 3))) (gIx (getF 1 0 0) (putFd 1 0 0) (pI (bVar 1))))))) sNil) (sRet (mP (pI (p2 dIx (p1 (dFld 1 0) (bVar 0)) (bVar 1)))))))
set_option maxHeartbeats 0 in
theorem ok_Biter_number {f : Addr} {fd : FuncData} (Fd : Fun K "number" "Biter.number" s_Biter_number f fd) (T : Tx P wd K mg base G) (c_behind : C8.Cal P wd K mg base 4 "behind" (spF G [.ro, .ro] m_behind) []) (c_faces_to_bite : C8.Cal P wd K mg base 2 "faces_to_bite" (spF G [.ro] m_faces_to_bite) []) (n : Nat) (c_Biter_number : C8.Met P wd K mg base (6 + n) (G.cls 1) "number" (spF G [.io, .ro] (m_Biter_number n)) []) : FnOk P wd K mg base L2.CX0 (6 + n + 1) f fd ["self", "lots"] (spF G [.io, .ro] (m_Biter_number (n + 1))) := by
  refine fn_tree 3 Fd sc_Biter_number T.hG rfl rfl fun cdv A outer s H E hr F => ?_
  exact (s_cons (s_if (QM (q_cmp (o_notIn F) (r_var 1) (r_fld T.cf_Biter (j := 0) (r_var 0) T.fx_Biter_known))) (s_cons (s_set 2 sc_Biter_number.nd (r_callTM (c_dict F) T.b_dict rfl rfl (k_cons (rM_lc F sc_Biter_number.nd (blkOk_by (own := [("face", 4)]) (by kernel_rfl)) (i_seqM F (PM (r_call c_faces_to_bite hr (by omega) rfl (b_cons (r_var 1) b_nil)))) (fun _ _ _ _ _ F => (tg_nm 4 sc_Biter_number.nd)) (fun _ _ _ _ _ F => tsM_nil) (fun _ _ _ _ _ F => (r_tupM (k_cons (rM_meth (a := .s 0) c_Biter_number hr (by omega) (pe_var (i := 0) rfl (by first | exact Or.inl rfl | exact Or.inr (Or.inl rfl) | exact Or.inr (Or.inr rfl))) (ad_cons (a := .m (mP (gCall [.ro, .ro] m_behind (lCons (bVar 1) (lCons (bVar 4) lNil))))) (PM (r_call c_behind hr (by omega) rfl (b_cons (r_var 1) (b_cons (r_var 4) b_nil)))) ad_nil) T.fm_Biter_number) (k_cons (PM r_bl) k_nil))))) k_nil))) (s_cons (s_set 3 sc_Biter_number.nd (PM r_int)) (s_cons (s_while PassesOwn.never (QM (q_cmp (o_in F) (r_var 3) (r_var 2))) (s_one (s_set 3 sc_Biter_number.nd (PM (r_op (o_add F) (r_var 3) (PB r_int)))))) (s_one (s_asg (PM (BP (r_var 3))) (g_ixF 0 1 0 F T.cf_Biter T.fx_Biter_known (BP (r_var 1)))))))) s_nil) (s_one (s_ret (PM (BP (r_ix F (r_fld T.cf_Biter (j := 0) (r_var 0) T.fx_Biter_known) (r_var 1)))))))
abbrev s_Winner_init : Stmt := inClass (top 42) 0
theorem sc_Winner_init : FnScope ["self"] ["self"] (defScope s_Winner_init) := ⟨rfl, rfl, rfl, by decide +kernel, rfl, by decide +kernel, by decide +kernel⟩
def b_Winner_init : EvS := (sFldS 2 0 0 (mP pDct0))
def m_Winner_init : Fn := runF [.io] 0 b_Winner_init
set_option maxHeartbeats 0 in
theorem ok_Winner_init {f : Addr} {fd : FuncData} (Fd : Fun K "__init__" "Winner.__init__" s_Winner_init f fd) (T : Tx P wd K mg base G) : FnOk P wd K mg base L2.CX0 2 f fd ["self"] (spF G [.io] m_Winner_init) := by
  refine fn_tree 0 Fd sc_Winner_init T.hG rfl rfl fun cdv A outer s H E hr F => ?_
  exact (s_one (s_fld 0 2 0 T.cf_Winner T.fx_Winner_known (PM r_dct0)))
abbrev s_Winner_wins : Stmt := inClass (top 42) 1
theorem sc_Winner_wins : FnScope ["self", "lots", "found", "face"] ["self", "lots"] (defScope s_Winner_wins) := ⟨rfl, rfl, rfl, by decide +kernel, rfl, by decide +kernel, by decide +kernel⟩
def b_Winner_wins (n : Nat) (m_Winner_wins : Nat → Fn) : EvS := (sSeq (sIf (mT (fT (p2 dNotIn (bVar 1) (p1 (dFld 2 0) (bVar 0))))) (sSeq (sAsg (mP (pC (.bl false))) (gNm 2)) (sSeq (sFor (iSeqM (mP (gCall [.ro] m_faces_to_bite (lCons (bVar 1) lNil)))) (.nm 3) (sIf (mAndF (mT (tNotF (fT (pI (bVar 2))))) (mNotF (fTM (mMeth 2 [.s 0, .m (mP (gCall [.ro, .ro] m_behind (lCons (bVar 1) (lCons (bVar 3) lNil))))] (m_Winner_wins n))))) (sAsg (mP (pC (.bl true))) (gNm 2)) sNil)) (sAsg (mP (pI (bVar 2))) (gIx (getF 2 0 0) (putFd 2 0 0) (pI (bVar 1)))))) sNil) (sRet (mP (pI (p2 dIx (p1 (dFld 2 0) (bVar 0)) (bVar 1))))))
def m_Winner_wins : Nat → Fn
  | 0 => fun _ => none
  | n + 1 => runF [.io, .ro] 2 ((sSeq (sIf (mT (fT (p2 dNotIn (bVar 1) (p1 (dFld 2 0) (bVar 0))))) (sSeq (sAsg (mP (pC (.bl false))) (gNm 2)) (sSeq (sFor (iSeqM (mP (gCall [.ro] m_faces_to_bite (lCons (bVar 1) lNil)))) (.nm 3) (sIf (mAndF (mT (tNotF (fT (pI (bVar 2))))) (mNotF (fTM (mMeth 2 [.s 0, .m (mP (gCall [.ro, .ro] m_behind (lCons (bVar 1) (lCons (bVar 3) lNil))))] (m_Winner_wins n))))) (sAsg (mP (pC (.bl true))) (gNm 2)) sNil)) (sAsg (mP (pI (bVar 2))) (gIx (getF 2 0 0) (putFd 2 0 0) (pI (bVar 1)))))) sNil) (sRet (mP (pI (p2 dIx (p1 (dFld 2 0) (bVar 0)) (bVar 1)))))))
set_option maxHeartbeats 0 in
theorem ok_Winner_wins {f : Addr} {fd : FuncData} (Fd : Fun K "wins" "Winner.wins" s_Winner_wins f fd) (T : Tx P wd K mg base G) (c_faces_to_bite : C8.Cal P wd K mg base 2 "faces_to_bite" (spF G [.ro] m_faces_to_bite) []) (c_behind : C8.Cal P wd K mg base 4 "behind" (spF G [.ro, .ro] m_behind) []) (n : Nat) (c_Winner_wins : C8.Met P wd K mg base (6 + n) (G.cls 2) "wins" (spF G [.io, .ro] (m_Winner_wins n)) []) : FnOk P wd K mg base L2.CX0 (6 + n + 1) f fd ["self", "lots"] (spF G [.io, .ro] (m_Winner_wins (n + 1))) := by
  refine fn_tree 2 Fd sc_Winner_wins T.hG rfl rfl fun cdv A outer s H E hr F => ?_
  exact (s_cons (s_if (QM (q_cmp (o_notIn F) (r_var 1) (r_fld T.cf_Winner (j := 0) (r_var 0) T.fx_Winner_known))) (s_cons (s_set 2 sc_Winner_wins.nd (PM r_bl)) (s_cons (s_for PassesOwn.never F (i_seqM F (PM (r_call c_faces_to_bite hr (by omega) rfl (b_cons (r_var 1) b_nil)))) (tg_nm 3 sc_Winner_wins.nd) (s_one (s_if (PW.pt (qM_and (QM (q_not (q_val (BP (r_var 2))))) (qM_and1 (qM_not (qM_val (rM_meth (a := .s 0) c_Winner_wins hr (by omega) (pe_var (i := 0) rfl (by first | exact Or.inl rfl | exact Or.inr (Or.inl rfl) | exact Or.inr (Or.inr rfl))) (ad_cons (a := .m (mP (gCall [.ro, .ro] m_behind (lCons (bVar 1) (lCons (bVar 3) lNil))))) (PM (r_call c_behind hr (by omega) rfl (b_cons (r_var 1) (b_cons (r_var 3) b_nil)))) ad_nil) T.fm_Winner_wins)))))) (s_one (s_set 2 sc_Winner_wins.nd (PM r_bl))) s_nil))) (s_one (s_asg (PM (BP (r_var 2))) (g_ixF 0 2 0 F T.cf_Winner T.fx_Winner_known (BP (r_var 1))))))) s_nil) (s_one (s_ret (PM (BP (r_ix F (r_fld T.cf_Winner (j := 0) (r_var 0) T.fx_Winner_known) (r_var 1)))))))
abbrev s_check_few : Stmt := top 43
theorem sc_check_few : FnScope ["family"] ["family"] (defScope s_check_few) := ⟨rfl, rfl, rfl, by decide +kernel, rfl, by decide +kernel, by decide +kernel⟩
def b_check_few : EvS := (sSeq (sDrop (mP (gCall [.ro] m_check_complex (lCons (bVar 0) lNil)))) (sIf (mT (fT (p2 dGt (p1 dPoints (bVar 0)) (pC (.int 5))))) sNever sNil))
def m_check_few : Fn := runF [.ro] 0 b_check_few
set_option maxHeartbeats 0 in
theorem ok_check_few {f : Addr} {fd : FuncData} (Fd : Fun K "check_few" "check_few" s_check_few f fd) (T : Tx P wd K mg base G) {u_MOST_BITTEN : Value} (g_MOST_BITTEN : mg "MOST_BITTEN" = some u_MOST_BITTEN) (r_MOST_BITTEN : RelV (.int 5) u_MOST_BITTEN) (c_check_complex : C8.Cal P wd K mg base 6 "check_complex" (spF G [.ro] m_check_complex) []) : FnOk P wd K mg base L2.CX0 8 f fd ["family"] (spF G [.ro] m_check_few) := by
  refine fn_tree 0 Fd sc_check_few T.hG rfl rfl fun cdv A outer s H E hr F => ?_
  exact (s_cons (s_expr (PM (r_call c_check_complex hr (by omega) rfl (b_cons (r_var 0) b_nil)))) (s_one (s_if (QM (q_cmp (o_gt) (PB (r_points T.fam (r_var 0))) (PB (r_gint (u := u_MOST_BITTEN) rfl g_MOST_BITTEN r_MOST_BITTEN)))) (s_one s_never) s_nil)))
abbrev s_first_bites_last : Stmt := top 44
theorem sc_first_bites_last : FnScope ["family"] ["family"] (defScope s_first_bites_last) := ⟨rfl, rfl, rfl, by decide +kernel, rfl, by decide +kernel, by decide +kernel⟩
def b_first_bites_last : EvS := (sSeq (sDrop (mP (gCall [.ro] m_check_few (lCons (bVar 0) lNil)))) (sRet (mMeth 2 [.m (mP (gMake 2 [] m_Winner_init lNil)), .m (mP (p1 dLots (bVar 0)))] (m_Winner_wins 60))))
def m_first_bites_last : Fn := runF [.ro] 0 b_first_bites_last
set_option maxHeartbeats 0 in
theorem ok_first_bites_last {f : Addr} {fd : FuncData} (Fd : Fun K "first_bites_last" "first_bites_last" s_first_bites_last f fd) (T : Tx P wd K mg base G) (c_check_few : C8.Cal P wd K mg base 8 "check_few" (spF G [.ro] m_check_few) []) (c_Winner_wins : C8.Met P wd K mg base 66 (G.cls 2) "wins" (spF G [.io, .ro] (m_Winner_wins 60)) []) (c_Winner_init : C8.Mak P wd K mg base 2 "Winner" (G.cls 2) (spF G [.io] m_Winner_init) []) : FnOk P wd K mg base L2.CX0 68 f fd ["family"] (spF G [.ro] m_first_bites_last) := by
  refine fn_tree 0 Fd sc_first_bites_last T.hG rfl rfl fun cdv A outer s H E hr F => ?_
  exact (s_cons (s_expr (PM (r_call c_check_few hr (by omega) rfl (b_cons (r_var 0) b_nil)))) (s_one (s_ret (rM_meth (a := .m (mP (gMake 2 [] m_Winner_init lNil))) c_Winner_wins hr (by omega) (PM (r_make0 c_Winner_init hr (by omega) rfl)) (ad_cons (a := .m (mP (p1 dLots (bVar 0)))) (PM (r_lots T.fam (r_var 0))) ad_nil) T.fm_Winner_wins))))
abbrev s_good_bite : Stmt := top 45
theorem sc_good_bite : FnScope ["family", "winner", "good", "face"] ["family"] (defScope s_good_bite) := ⟨rfl, rfl, rfl, by decide +kernel, rfl, by decide +kernel, by decide +kernel⟩
def b_good_bite : EvS := (sSeq (sDrop (mP (gCall [.ro] m_check_few (lCons (bVar 0) lNil)))) (sSeq (sAsg (mP (gMake 2 [] m_Winner_init lNil)) (gNm 1)) (sSeq (sAsg (mLc (iSeqM (mP (gCall [.ro] m_faces_to_bite (lCons (p1 dLots (bVar 0)) lNil)))) (.nm 3) [3] (mNotF (fTM (mMeth 2 [.s 1, .m (mP (gCall [.ro, .ro] m_behind (lCons (p1 dLots (bVar 0)) (lCons (bVar 3) lNil))))] (m_Winner_wins 60)))) (mP (pI (bVar 3)))) (gNm 2)) (sRet (mP (pIf (fT (p2 dGt (gC (g1 dLen) (lCons (bVar 2) lNil)) (pC (.int 0)))) (pI (p2 dIx (bVar 2) (pC (.int 0)))) (pC .non)))))))
def m_good_bite : Fn := runF [.ro] 3 b_good_bite
set_option maxHeartbeats 0 in
theorem ok_good_bite {f : Addr} {fd : FuncData} (Fd : Fun K "good_bite" "good_bite" s_good_bite f fd) (T : Tx P wd K mg base G) (c_check_few : C8.Cal P wd K mg base 8 "check_few" (spF G [.ro] m_check_few) []) (c_Winner_init : C8.Mak P wd K mg base 2 "Winner" (G.cls 2) (spF G [.io] m_Winner_init) []) (c_Winner_wins : C8.Met P wd K mg base 66 (G.cls 2) "wins" (spF G [.io, .ro] (m_Winner_wins 60)) []) (c_behind : C8.Cal P wd K mg base 4 "behind" (spF G [.ro, .ro] m_behind) []) (c_faces_to_bite : C8.Cal P wd K mg base 2 "faces_to_bite" (spF G [.ro] m_faces_to_bite) []) : FnOk P wd K mg base L2.CX0 68 f fd ["family"] (spF G [.ro] m_good_bite) := by
  refine fn_tree 3 Fd sc_good_bite T.hG rfl rfl fun cdv A outer s H E hr F => ?_
  exact (s_cons (s_expr (PM (r_call c_check_few hr (by omega) rfl (b_cons (r_var 0) b_nil)))) (s_cons (s_set 1 sc_good_bite.nd (PM (r_make0 c_Winner_init hr (by omega) rfl))) (s_cons (s_setLc 2 F sc_good_bite.nd (blkOk_by (own := [("face", 3)]) (by kernel_rfl)) (i_seqM F (PM (r_call c_faces_to_bite hr (by omega) rfl (b_cons (PB (r_lots T.fam (r_var 0))) b_nil)))) (fun _ _ _ _ _ F => (tg_nm 3 sc_good_bite.nd)) (fun _ _ _ _ _ F => (tsM_one (qM_not (qM_val (rM_meth (a := .s 1) c_Winner_wins hr (by omega) (pe_var (i := 1) rfl (by first | exact Or.inl rfl | exact Or.inr (Or.inl rfl) | exact Or.inr (Or.inr rfl))) (ad_cons (a := .m (mP (gCall [.ro, .ro] m_behind (lCons (p1 dLots (bVar 0)) (lCons (bVar 3) lNil))))) (PM (r_call c_behind hr (by omega) rfl (b_cons (PB (r_lots T.fam (r_var 0))) (b_cons (r_var 3) b_nil)))) ad_nil) T.fm_Winner_wins))))) (fun _ _ _ _ _ F => (PM (BP (r_var 3))))) (s_one (s_ret (PM (r_if (q_cmp (o_gt) (PB (r_callB (c_len F) T.b_len rfl rfl (b_cons (r_var 2) b_nil))) (PB r_int)) (BP (r_ix F (r_var 2) (PB r_int))) r_non)))))))
abbrev s_bite_number : Stmt := top 46
theorem sc_bite_number : FnScope ["family"] ["family"] (defScope s_bite_number) := ⟨rfl, rfl, rfl, by decide +kernel, rfl, by decide +kernel, by decide +kernel⟩
def b_bite_number : EvS := (sSeq (sDrop (mP (gCall [.ro] m_check_few (lCons (bVar 0) lNil)))) (sRet (mMeth 1 [.m (mP (gMake 1 [] m_Biter_init lNil)), .m (mP (p1 dLots (bVar 0)))] (m_Biter_number 60))))
def m_bite_number : Fn := runF [.ro] 0 b_bite_number
set_option maxHeartbeats 0 in
theorem ok_bite_number {f : Addr} {fd : FuncData} (Fd : Fun K "bite_number" "bite_number" s_bite_number f fd) (T : Tx P wd K mg base G) (c_check_few : C8.Cal P wd K mg base 8 "check_few" (spF G [.ro] m_check_few) []) (c_Biter_number : C8.Met P wd K mg base 66 (G.cls 1) "number" (spF G [.io, .ro] (m_Biter_number 60)) []) (c_Biter_init : C8.Mak P wd K mg base 2 "Biter" (G.cls 1) (spF G [.io] m_Biter_init) []) : FnOk P wd K mg base L2.CX0 68 f fd ["family"] (spF G [.ro] m_bite_number) := by
  refine fn_tree 0 Fd sc_bite_number T.hG rfl rfl fun cdv A outer s H E hr F => ?_
  exact (s_cons (s_expr (PM (r_call c_check_few hr (by omega) rfl (b_cons (r_var 0) b_nil)))) (s_one (s_ret (rM_meth (a := .m (mP (gMake 1 [] m_Biter_init lNil))) c_Biter_number hr (by omega) (PM (r_make0 c_Biter_init hr (by omega) rfl)) (ad_cons (a := .m (mP (p1 dLots (bVar 0)))) (PM (r_lots T.fam (r_var 0))) ad_nil) T.fm_Biter_number))))
abbrev s_positions_below : Stmt := top 50
theorem sc_positions_below : FnScope ["heaps", "found", "heap"] ["heaps"] (defScope s_positions_below) := ⟨rfl, rfl, rfl, by decide +kernel, rfl, by decide +kernel, by decide +kernel⟩
def b_positions_below : EvS := (sSeq (sAsg (mP (pC (.int 1))) (gNm 1)) (sSeq (sFor (iSeqM (mP (pI (bVar 0)))) (.nm 2) (sAsg (mP (p2 dMul (bVar 1) (p2 dAdd (bVar 2) (pC (.int 1))))) (gNm 1))) (sRet (mMov 1))))
def m_positions_below : Fn := runF [.ro] 2 b_positions_below
set_option maxHeartbeats 0 in
theorem ok_positions_below {f : Addr} {fd : FuncData} (Fd : Fun K "positions_below" "positions_below" s_positions_below f fd) (T : Tx P wd K mg base G) : FnOk P wd K mg base L2.CX0 2 f fd ["heaps"] (spF G [.ro] m_positions_below) := by
  refine fn_tree 2 Fd sc_positions_below T.hG rfl rfl fun cdv A outer s H E hr F => ?_
  exact (s_cons (s_set 1 sc_positions_below.nd (PM r_int)) (s_cons (s_for PassesOwn.never F (i_seqM F (PM (BP (r_var 0)))) (tg_nm 2 sc_positions_below.nd) (s_one (s_set 1 sc_positions_below.nd (PM (r_op (o_mul F) (r_var 1) (PB (r_op (o_add F) (r_var 2) (PB r_int)))))))) (s_one (s_ret (r_mov 1)))))
abbrev s_are_heaps : Stmt := top 51
theorem sc_are_heaps : FnScope ["points", "thing", "heap"] ["points", "thing"] (defScope s_are_heaps) := ⟨rfl, rfl, rfl, by decide +kernel, rfl, by decide +kernel, by decide +kernel⟩
def b_are_heaps : EvS := (sSeq (sIf (mT (tOrF (tNotF (fT (gCall [.ro, .ro, .ro] m_is_tuple (lCons (bVar 1) (lCons (bVar 0) (lCons (bVar 0) lNil)))))) (tNotF (fT (gC (g1 dAll) (lCons (pLc (iSeqB (bVar 1)) (.nm 2) [2] tYesT (gCall [.ro, .ro, .ro] m_is_within (lCons (bVar 2) (lCons (pC (.int 0)) (lCons (pC (.int 4)) lNil))))) lNil)))))) (sRet (mP (pC (.bl false)))) sNil) (sRet (mP (p2 dLe (gCall [.ro] m_positions_below (lCons (bVar 1) lNil)) (pC (.int 400))))))
def m_are_heaps : Fn := runF [.ro, .ro] 1 b_are_heaps
set_option maxHeartbeats 0 in
theorem ok_are_heaps {f : Addr} {fd : FuncData} (Fd : Fun K "are_heaps" "are_heaps" s_are_heaps f fd) (T : Tx P wd K mg base G) {u_GREATEST_HEAP : Value} (g_GREATEST_HEAP : mg "GREATEST_HEAP" = some u_GREATEST_HEAP) (r_GREATEST_HEAP : RelV (.int 4) u_GREATEST_HEAP) {u_MOST_POSITIONS : Value} (g_MOST_POSITIONS : mg "MOST_POSITIONS" = some u_MOST_POSITIONS) (r_MOST_POSITIONS : RelV (.int 400) u_MOST_POSITIONS) (c_is_tuple : C8.Cal P wd K mg base 2 "is_tuple" (spF G [.ro, .ro, .ro] m_is_tuple) []) (c_is_within : C8.Cal P wd K mg base 4 "is_within" (spF G [.ro, .ro, .ro] m_is_within) []) (c_positions_below : C8.Cal P wd K mg base 2 "positions_below" (spF G [.ro] m_positions_below) []) : FnOk P wd K mg base L2.CX0 6 f fd ["points", "thing"] (spF G [.ro, .ro] m_are_heaps) := by
  refine fn_tree 1 Fd sc_are_heaps T.hG rfl rfl fun cdv A outer s H E hr F => ?_
  exact (s_cons (s_if (QM (PW.pt (q_or (q_not (q_val (r_call c_is_tuple hr (by omega) rfl (b_cons (r_var 1) (b_cons (r_var 0) (b_cons (r_var 0) b_nil)))))) (q_or1 (q_not (q_val (r_callB (c_all F) T.b_all rfl rfl (b_cons (PB (r_lc F sc_are_heaps.nd (blkOk_by (own := [("heap", 2)]) (by kernel_rfl)) (i_seqB F (r_var 1)) (fun _ _ _ _ _ F => (tg_nm 2 sc_are_heaps.nd)) (fun _ _ _ _ _ F => ts_nil) (fun _ _ _ _ _ F => (r_call c_is_within hr (by omega) rfl (b_cons (r_var 2) (b_cons (PB r_int) (b_cons (PB (r_gint (u := u_GREATEST_HEAP) rfl g_GREATEST_HEAP r_GREATEST_HEAP)) b_nil))))))) b_nil)))))))) (s_one (s_ret (PM r_bl))) s_nil) (s_one (s_ret (PM (r_cmp (o_le) (PB (r_call c_positions_below hr (by omega) rfl (b_cons (r_var 1) b_nil))) (PB (r_gint (u := u_MOST_POSITIONS) rfl g_MOST_POSITIONS r_MOST_POSITIONS)))))))
abbrev s_check_heaps : Stmt := top 52
theorem sc_check_heaps : FnScope ["family", "heaps"] ["family", "heaps"] (defScope s_check_heaps) := ⟨rfl, rfl, rfl, by decide +kernel, rfl, by decide +kernel, by decide +kernel⟩
def b_check_heaps : EvS := (sSeq (sDrop (mP (gCall [.ro] m_check_complex (lCons (bVar 0) lNil)))) (sIf (mT (tNotF (fT (gCall [.ro, .ro] m_are_heaps (lCons (p1 dPoints (bVar 0)) (lCons (bVar 1) lNil)))))) sNever sNil))
def m_check_heaps : Fn := runF [.ro, .ro] 0 b_check_heaps
set_option maxHeartbeats 0 in
theorem ok_check_heaps {f : Addr} {fd : FuncData} (Fd : Fun K "check_heaps" "check_heaps" s_check_heaps f fd) (T : Tx P wd K mg base G) (c_check_complex : C8.Cal P wd K mg base 6 "check_complex" (spF G [.ro] m_check_complex) []) (c_are_heaps : C8.Cal P wd K mg base 6 "are_heaps" (spF G [.ro, .ro] m_are_heaps) []) : FnOk P wd K mg base L2.CX0 8 f fd ["family", "heaps"] (spF G [.ro, .ro] m_check_heaps) := by
  refine fn_tree 0 Fd sc_check_heaps T.hG rfl rfl fun cdv A outer s H E hr F => ?_
  exact (s_cons (s_expr (PM (r_call c_check_complex hr (by omega) rfl (b_cons (r_var 0) b_nil)))) (s_one (s_if (QM (q_not (q_val (r_call c_are_heaps hr (by omega) rfl (b_cons (PB (r_points T.fam (r_var 0))) (b_cons (r_var 1) b_nil)))))) (s_one s_never) s_nil)))
abbrev s_lessened : Stmt := top 53
theorem sc_lessened : FnScope ["heaps", "lot", "found", "point", "heap", "some", "longer", "row", "one"] ["heaps", "lot"] (defScope s_lessened) := ⟨rfl, rfl, rfl, by decide +kernel, rfl, by decide +kernel, by decide +kernel⟩
def b_lessened : EvS := (sSeq (sAsg (mP (pLst (lCons (pTup lNil) lNil))) (gNm 2)) (sSeq (sFor (iEnM (mP (pI (bVar 0)))) (.tp [3, 4]) (sSeq (sAsg (mP (pIf (fT (p2 dIn (bVar 3) (bVar 1))) (p1 (rgD1 false) (pI (bVar 4))) (pLst (lCons (pI (bVar 4)) lNil)))) (gNm 5)) (sSeq (sAsg (mP (pLst lNil)) (gNm 6)) (sSeq (sFor (iSeqM (mVar 2)) (.nm 7) (sDrop (mExt (fun e => slot e 6) (fun e c => e.set 6 c) (mP (pLc (iSeqB (bVar 5)) (.nm 8) [8] tYesT (p2 dAdd (bVar 7) (pTup (lCons (pI (bVar 8)) lNil)))))))) (sAsg (mMov 6) (gNm 2)))))) (sRet (mMov 2))))
def m_lessened : Fn := runF [.ro, .ro] 7 b_lessened
set_option maxHeartbeats 0 in
theorem ok_lessened {f : Addr} {fd : FuncData} (Fd : Fun K "lessened" "lessened" s_lessened f fd) (T : Tx P wd K mg base G) : FnOk P wd K mg base L2.CX0 2 f fd ["heaps", "lot"] (spF G [.ro, .ro] m_lessened) := by
  refine fn_tree 7 Fd sc_lessened T.hG rfl rfl fun cdv A outer s H E hr F => ?_
  exact (s_cons (s_set 2 sc_lessened.nd (PM (r_lst (a_cons (r_tup a_nil) a_nil)))) (s_cons (s_for PassesOwn.never F (i_enumM F rfl T.b_enumerate (PM (BP (r_var 0)))) (tg_tp [3, 4] F (tgs_cons 3 sc_lessened.nd (tgs_cons 4 sc_lessened.nd tgs_nil))) (s_cons (s_set 5 sc_lessened.nd (PM (r_if (q_cmp (o_in F) (r_var 3) (r_var 1)) (r_listRg1 F rfl T.b_list rfl T.b_range (BP (r_var 4))) (r_lst (a_cons (BP (r_var 4)) a_nil))))) (s_cons (s_set 6 sc_lessened.nd (PM (r_lst a_nil))) (s_cons (s_for PassesOwn.never F (i_seqM F (r_varF 2)) (tg_nm 7 sc_lessened.nd) (s_one (s_expr (rM_extend 6 F (PM (r_lc F sc_lessened.nd (blkOk_by (own := [("one", 8)]) (by kernel_rfl)) (i_seqB F (r_var 5)) (fun _ _ _ _ _ F => (tg_nm 8 sc_lessened.nd)) (fun _ _ _ _ _ F => ts_nil) (fun _ _ _ _ _ F => (r_op (o_add F) (r_var 7) (PB (r_tup (a_cons (BP (r_var 8)) a_nil))))))))))) (s_one (s_set 2 sc_lessened.nd (r_mov 6))))))) (s_one (s_ret (r_mov 2)))))
abbrev s_moves_of : Stmt := top 54
theorem sc_moves_of : FnScope ["family", "heaps", "found", "lot", "row"] ["family", "heaps"] (defScope s_moves_of) := ⟨rfl, rfl, rfl, by decide +kernel, rfl, by decide +kernel, by decide +kernel⟩
def b_moves_of : EvS := (sSeq (sAsg (mP pDct0) (gNm 2)) (sSeq (sFor (iSeqM (mP (p1 dLots (bVar 0)))) (.nm 3) (sIf (mT (fT (p2 dGt (gC (g1 dLen) (lCons (bVar 3) lNil)) (pC (.int 0))))) (sFor (iSeqM (mP (gCall [.ro, .ro] m_lessened (lCons (bVar 1) (lCons (bVar 3) lNil))))) (.nm 4) (sAsg (mP (pC (.bl true))) (gIx (fun e => slot e 2) (fun e c => e.set 2 c) (pI (bVar 4))))) sNil)) (sRet (mP (gC (g1 dSorted2) (lCons (bVar 2) lNil))))))
def m_moves_of : Fn := runF [.ro, .ro] 3 b_moves_of
set_option maxHeartbeats 0 in
theorem ok_moves_of {f : Addr} {fd : FuncData} (Fd : Fun K "moves_of" "moves_of" s_moves_of f fd) (T : Tx P wd K mg base G) (c_lessened : C8.Cal P wd K mg base 2 "lessened" (spF G [.ro, .ro] m_lessened) []) : FnOk P wd K mg base L2.CX0 4 f fd ["family", "heaps"] (spF G [.ro, .ro] m_moves_of) := by
  refine fn_tree 3 Fd sc_moves_of T.hG rfl rfl fun cdv A outer s H E hr F => ?_
  exact (s_cons (s_set 2 sc_moves_of.nd (PM r_dct0)) (s_cons (s_for PassesOwn.never F (i_seqM F (PM (r_lots T.fam (r_var 0)))) (tg_nm 3 sc_moves_of.nd) (s_one (s_if (QM (q_cmp (o_gt) (PB (r_callB (c_len F) T.b_len rfl rfl (b_cons (r_var 3) b_nil))) (PB r_int))) (s_one (s_for PassesOwn.never F (i_seqM F (PM (r_call c_lessened hr (by omega) rfl (b_cons (r_var 1) (b_cons (r_var 3) b_nil))))) (tg_nm 4 sc_moves_of.nd) (s_one (s_asg (PM r_bl) (g_ix 2 F (BP (r_var 4))))))) s_nil))) (s_one (s_ret (PM (r_callB (c_sorted2 F) T.b_sorted rfl rfl (b_cons (r_var 2) b_nil)))))))
abbrev s_Player_init : Stmt := inClass (top 55) 0
theorem sc_Player_init : FnScope ["self", "family"] ["self", "family"] (defScope s_Player_init) := ⟨rfl, rfl, rfl, by decide +kernel, rfl, by decide +kernel, by decide +kernel⟩
def b_Player_init : EvS := (sSeq (sFldS 3 0 0 (mP (pI (bVar 1)))) (sFldS 3 1 0 (mP pDct0)))
def m_Player_init : Fn := runF [.io, .ro] 0 b_Player_init
set_option maxHeartbeats 0 in
theorem ok_Player_init {f : Addr} {fd : FuncData} (Fd : Fun K "__init__" "Player.__init__" s_Player_init f fd) (T : Tx P wd K mg base G) : FnOk P wd K mg base L2.CX0 2 f fd ["self", "family"] (spF G [.io, .ro] m_Player_init) := by
  refine fn_tree 0 Fd sc_Player_init T.hG rfl rfl fun cdv A outer s H E hr F => ?_
  exact (s_cons (s_fld 0 3 0 T.cf_Player T.fx_Player_family (PM (BP (r_var 1)))) (s_one (s_fld 0 3 1 T.cf_Player T.fx_Player_known (PM r_dct0))))
abbrev s_Player_number : Stmt := inClass (top 55) 1
theorem sc_Player_number : FnScope ["self", "heaps", "some", "found", "later"] ["self", "heaps"] (defScope s_Player_number) := ⟨rfl, rfl, rfl, by decide +kernel, rfl, by decide +kernel, by decide +kernel⟩
def b_Player_number (n : Nat) (m_Player_number : Nat → Fn) : EvS := (sSeq (sIf (mT (fT (p2 dNotIn (bVar 1) (p1 (dFld 3 1) (bVar 0))))) (sSeq (sAsg (gCM (g1 dDict) (kCons (mLc (iSeqM (mP (gCall [.ro, .ro] m_moves_of (lCons (p1 (dFld 3 0) (bVar 0)) (lCons (bVar 1) lNil))))) (.nm 4) [4] (mT tYesT) (mTup (kCons (mMeth 3 [.s 0, .m (mP (pI (bVar 4)))] (m_Player_number n)) (kCons (mP (pC (.bl true))) kNil)))) kNil)) (gNm 2)) (sSeq (sAsg (mP (pC (.int 0))) (gNm 3)) (sSeq (sWhile (mT (fT (p2 dIn (bVar 3) (bVar 2)))) (sAsg (mP (p2 dAdd (bVar 3) (pC (.int 1)))) (gNm 3))) (sAsg (mP (pI (bVar 3))) (gIx (getF 3 1 0) (putFd 3 1 0) (pI (bVar 1))))))) sNil) (sRet (mP (pI (p2 dIx (p1 (dFld 3 1) (bVar 0)) (bVar 1))))))
def m_Player_number : Nat → Fn
  | 0 => fun _ => none
  | n + 1 => runF [.io, .ro] 3 ((sSeq (sIf (mT (fT (p2 dNotIn (bVar 1) (p1 (dFld 3 1) (bVar 0))))) (sSeq (sAsg (gCM (g1 dDict) (kCons (mLc (iSeqM (mP (gCall [.ro, .ro] m_moves_of (lCons (p1 (dFld 3 0) (bVar 0)) (lCons (bVar 1) lNil))))) (.nm 4) [4] (mT tYesT) (mTup (kCons (mMeth 3 [.s 0, .m (mP (pI (bVar 4)))] (m_Player_number n)) (kCons (mP (pC (.bl true))) kNil)))) kNil)) (gNm 2)) (sSeq (sAsg (mP (pC (.int 0))) (gNm 3)) (sSeq (sWhile (mT (fT (p2 dIn (bVar 3) (bVar 2)))) (sAsg (mP (p2 dAdd (bVar 3) (pC (.int 1)))) (gNm 3))) (sAsg (mP (pI (bVar 3))) (gIx (getF 3 1 0) (putFd 3 1 0) (pI (bVar 1))))))) sNil) (sRet (mP (pI (p2 dIx (p1 (dFld 3 1) (bVar 0)) (bVar 1)))))))
set_option maxHeartbeats 0 in
theorem ok_Player_number {f : Addr} {fd : FuncData} (Fd : Fun K "number" "Player.number" s_Player_number f fd) (T : Tx P wd K mg base G) (c_moves_of : C8.Cal P wd K mg base 4 "moves_of" (spF G [.ro, .ro] m_moves_of) []) (n : Nat) (c_Player_number : C8.Met P wd K mg base (6 + n) (G.cls 3) "number" (spF G [.io, .ro] (m_Player_number n)) []) : FnOk P wd K mg base L2.CX0 (6 + n + 1) f fd ["self", "heaps"] (spF G [.io, .ro] (m_Player_number (n + 1))) := by
  refine fn_tree 3 Fd sc_Player_number T.hG rfl rfl fun cdv A outer s H E hr F => ?_
  exact (s_cons (s_if (QM (q_cmp (o_notIn F) (r_var 1) (r_fld T.cf_Player (j := 1) (r_var 0) T.fx_Player_known))) (s_cons (s_set 2 sc_Player_number.nd (r_callTM (c_dict F) T.b_dict rfl rfl (k_cons (rM_lc F sc_Player_number.nd (blkOk_by (own := [("later", 4)]) (by kernel_rfl)) (i_seqM F (PM (r_call c_moves_of hr (by omega) rfl (b_cons (r_fld T.cf_Player (j := 0) (r_var 0) T.fx_Player_family) (b_cons (r_var 1) b_nil))))) (fun _ _ _ _ _ F => (tg_nm 4 sc_Player_number.nd)) (fun _ _ _ _ _ F => tsM_nil) (fun _ _ _ _ _ F => (r_tupM (k_cons (rM_meth (a := .s 0) c_Player_number hr (by omega) (pe_var (i := 0) rfl (by first | exact Or.inl rfl | exact Or.inr (Or.inl rfl) | exact Or.inr (Or.inr rfl))) (ad_cons (a := .m (mP (pI (bVar 4)))) (PM (BP (r_var 4))) ad_nil) T.fm_Player_number) (k_cons (PM r_bl) k_nil))))) k_nil))) (s_cons (s_set 3 sc_Player_number.nd (PM r_int)) (s_cons (s_while PassesOwn.never (QM (q_cmp (o_in F) (r_var 3) (r_var 2))) (s_one (s_set 3 sc_Player_number.nd (PM (r_op (o_add F) (r_var 3) (PB r_int)))))) (s_one (s_asg (PM (BP (r_var 3))) (g_ixF 0 3 1 F T.cf_Player T.fx_Player_known (BP (r_var 1)))))))) s_nil) (s_one (s_ret (PM (BP (r_ix F (r_fld T.cf_Player (j := 1) (r_var 0) T.fx_Player_known) (r_var 1)))))))
abbrev s_heap_number : Stmt := top 56
theorem sc_heap_number : FnScope ["family", "heaps"] ["family", "heaps"] (defScope s_heap_number) := ⟨rfl, rfl, rfl, by decide +kernel, rfl, by decide +kernel, by decide +kernel⟩
def b_heap_number : EvS := (sSeq (sDrop (mP (gCall [.ro, .ro] m_check_heaps (lCons (bVar 0) (lCons (bVar 1) lNil))))) (sRet (mMeth 3 [.m (mP (gMake 3 [.ro] m_Player_init (lCons (bVar 0) lNil))), .m (mP (pI (bVar 1)))] (m_Player_number 60))))
def m_heap_number : Fn := runF [.ro, .ro] 0 b_heap_number
set_option maxHeartbeats 0 in
theorem ok_heap_number {f : Addr} {fd : FuncData} (Fd : Fun K "heap_number" "heap_number" s_heap_number f fd) (T : Tx P wd K mg base G) (c_check_heaps : C8.Cal P wd K mg base 8 "check_heaps" (spF G [.ro, .ro] m_check_heaps) []) (c_Player_number : C8.Met P wd K mg base 66 (G.cls 3) "number" (spF G [.io, .ro] (m_Player_number 60)) []) (c_Player_init : C8.Mak P wd K mg base 2 "Player" (G.cls 3) (spF G [.io, .ro] m_Player_init) []) : FnOk P wd K mg base L2.CX0 68 f fd ["family", "heaps"] (spF G [.ro, .ro] m_heap_number) := by
  refine fn_tree 0 Fd sc_heap_number T.hG rfl rfl fun cdv A outer s H E hr F => ?_
  exact (s_cons (s_expr (PM (r_call c_check_heaps hr (by omega) rfl (b_cons (r_var 0) (b_cons (r_var 1) b_nil))))) (s_one (s_ret (rM_meth (a := .m (mP (gMake 3 [.ro] m_Player_init (lCons (bVar 0) lNil)))) c_Player_number hr (by omega) (PM (r_make c_Player_init hr (by omega) rfl (b_cons (r_var 0) b_nil))) (ad_cons (a := .m (mP (pI (bVar 1)))) (PM (BP (r_var 1))) ad_nil) T.fm_Player_number))))
abbrev s_lost : Stmt := top 57
theorem sc_lost : FnScope ["family", "heaps"] ["family", "heaps"] (defScope s_lost) := ⟨rfl, rfl, rfl, by decide +kernel, rfl, by decide +kernel, by decide +kernel⟩
def b_lost : EvS := (sSeq (sDrop (mP (gCall [.ro, .ro] m_check_heaps (lCons (bVar 0) (lCons (bVar 1) lNil))))) (sRet (m2 dEq (mMeth 3 [.m (mP (gMake 3 [.ro] m_Player_init (lCons (bVar 0) lNil))), .m (mP (pI (bVar 1)))] (m_Player_number 60)) (mP (pC (.int 0))))))
def m_lost : Fn := runF [.ro, .ro] 0 b_lost
set_option maxHeartbeats 0 in
theorem ok_lost {f : Addr} {fd : FuncData} (Fd : Fun K "lost" "lost" s_lost f fd) (T : Tx P wd K mg base G) (c_check_heaps : C8.Cal P wd K mg base 8 "check_heaps" (spF G [.ro, .ro] m_check_heaps) []) (c_Player_number : C8.Met P wd K mg base 66 (G.cls 3) "number" (spF G [.io, .ro] (m_Player_number 60)) []) (c_Player_init : C8.Mak P wd K mg base 2 "Player" (G.cls 3) (spF G [.io, .ro] m_Player_init) []) : FnOk P wd K mg base L2.CX0 68 f fd ["family", "heaps"] (spF G [.ro, .ro] m_lost) := by
  refine fn_tree 0 Fd sc_lost T.hG rfl rfl fun cdv A outer s H E hr F => ?_
  exact (s_cons (s_expr (PM (r_call c_check_heaps hr (by omega) rfl (b_cons (r_var 0) (b_cons (r_var 1) b_nil))))) (s_one (s_ret (r_cmpM (o_eq F) (rM_meth (a := .m (mP (gMake 3 [.ro] m_Player_init (lCons (bVar 0) lNil)))) c_Player_number hr (by omega) (PM (r_make c_Player_init hr (by omega) rfl (b_cons (r_var 0) b_nil))) (ad_cons (a := .m (mP (pI (bVar 1)))) (PM (BP (r_var 1))) ad_nil) T.fm_Player_number) (PM r_int)))))
abbrev s_law_hand : Stmt := top 59
theorem sc_law_hand : FnScope ["script", "cells", "cell"] ["script"] (defScope s_law_hand) := ⟨rfl, rfl, rfl, by decide +kernel, rfl, by decide +kernel, by decide +kernel⟩
def b_law_hand : EvS := (sSeq (sAsg (mP (pLc (iSeqB (pSl (bVar 0) none (some (pC (.int 63))))) (.nm 2) [2] tYesT (gC (g1 dAbs) (lCons (gC (g1 dInt) (lCons (bVar 2) lNil)) lNil)))) (gNm 1)) (sRet (mLst (kCons (mVar 1) (kCons (mP (pC (.int 0))) (kCons (mP (pC (.int 0))) (kCons (mP (p2 dAdd (pC (.int 7)) (gC (g1 dLen) (lCons (bVar 1) lNil)))) (kCons (mP (pC (.int 0))) kNil))))))))
def m_law_hand : Fn := runF [.ro] 2 b_law_hand
set_option maxHeartbeats 0 in
theorem ok_law_hand {f : Addr} {fd : FuncData} (Fd : Fun K "_law_hand" "_law_hand" s_law_hand f fd) (T : Tx P wd K mg base G) : FnOk P wd K mg base L2.CX0 2 f fd ["script"] (spF G [.ro] m_law_hand) := by
  refine fn_tree 2 Fd sc_law_hand T.hG rfl rfl fun cdv A outer s H E hr F => ?_
  exact (s_cons (s_setLcP 1 F sc_law_hand.nd (blkOk_by (own := [("cell", 2)]) (by kernel_rfl)) (i_seqB F (PB (r_slice F (r_var 0) oi_none (oi_some r_int)))) (fun _ _ _ _ _ F => (tg_nm 2 sc_law_hand.nd)) (fun _ _ _ _ _ F => ts_nil) (fun _ _ _ _ _ F => (r_callB (c_abs) T.b_abs rfl rfl (b_cons (PB (r_callT (c_int) T.b_int rfl rfl (b_cons (r_var 2) b_nil))) b_nil)))) (s_one (s_ret (r_lstM (k_cons (r_varF 1) (k_cons (PM r_int) (k_cons (PM r_int) (k_cons (PM (r_op (o_add F) (PB r_int) (PB (r_callB (c_len F) T.b_len rfl rfl (b_cons (r_var 1) b_nil))))) (k_cons (PM r_int) k_nil)))))))))
abbrev s_law_draw : Stmt := top 60
theorem sc_law_draw : FnScope ["hand", "sides", "cell", "digit", "number"] ["hand", "sides"] (defScope s_law_draw) := ⟨rfl, rfl, rfl, by decide +kernel, rfl, by decide +kernel, by decide +kernel⟩
def b_law_draw : EvS := (sSeq (sIf (mT (tAndF (fT (p2 dEq (p2 dIx (bVar 0) (pC (.int 2))) (pC (.int 0)))) (fT (p2 dLt (p2 dIx (bVar 0) (pC (.int 1))) (gC (g1 dLen) (lCons (p2 dIx (bVar 0) (pC (.int 0))) lNil)))))) (sSeq (sAsg (mP (pI (p2 dIx (p2 dIx (bVar 0) (pC (.int 0))) (p2 dIx (bVar 0) (pC (.int 1)))))) (gNm 2)) (sSeq (sAsg (mP (p2 dAdd (p2 dIx (bVar 0) (pC (.int 1))) (pC (.int 1)))) (gIx (fun e => slot e 0) (fun e c => e.set 0 c) (pC (.int 1)))) (sSeq (sAsg (mP (p2 dMod (gC (g1 dInt) (lCons (p2 dAdd (p2 dAdd (p2 dMul (p2 dIx (bVar 0) (pC (.int 3))) (pC (.int 69621))) (p2 dMul (bVar 2) (pC (.int 16)))) (pC (.int 29))) lNil)) (pC (.int 2147483629)))) (gIx (fun e => slot e 0) (fun e c => e.set 0 c) (pC (.int 3)))) (sIf (mT (fT (p2 dGe (bVar 2) (p2 dPow (pC (.int 10)) (pC (.int 18)))))) (sAsg (mP (pI (bVar 2))) (gIx (fun e => slot e 0) (fun e c => e.set 0 c) (pC (.int 2)))) sNil)))) sNil) (sSeq (sIf (mT (fT (p2 dGt (p2 dIx (bVar 0) (pC (.int 2))) (pC (.int 0))))) (sSeq (sAsg (mP (p2 dMod (gC (g1 dInt) (lCons (p2 dIx (bVar 0) (pC (.int 2))) lNil)) (bVar 1))) (gNm 3)) (sSeq (sAsg (mP (p2 dDiv (p2 dIx (bVar 0) (pC (.int 2))) (bVar 1))) (gIx (fun e => slot e 0) (fun e c => e.set 0 c) (pC (.int 2)))) (sRet (mMov 3)))) sNil) (sSeq (sAsg (mP (p2 dAdd (p2 dIx (bVar 0) (pC (.int 4))) (pC (.int 1)))) (gIx (fun e => slot e 0) (fun e c => e.set 0 c) (pC (.int 4)))) (sSeq (sAsg (mP (p2 dMod (gC (g1 dInt) (lCons (p2 dMul (gC (g1 dInt) (lCons (p2 dAdd (p2 dIx (bVar 0) (pC (.int 3))) (p2 dMul (pC (.int 7919)) (p2 dIx (bVar 0) (pC (.int 4))))) lNil)) (pC (.int 48271))) lNil)) (pC (.int 2147483647)))) (gNm 4)) (sSeq (sAsg (mP (p2 dMod (gC (g1 dInt) (lCons (p2 dMul (bVar 4) (p2 dAdd (p2 dDiv (bVar 4) (pC (.int 1009))) (pC (.int 69621)))) lNil)) (pC (.int 2147483647)))) (gNm 4)) (sSeq (sAsg (mP (p2 dMod (gC (g1 dInt) (lCons (p2 dMul (bVar 4) (p2 dAdd (p2 dDiv (bVar 4) (pC (.int 2003))) (pC (.int 40692)))) lNil)) (pC (.int 2147483399)))) (gNm 4)) (sRet (mP (p2 dMod (gC (g1 dInt) (lCons (p2 dDiv (bVar 4) (pC (.int 16))) lNil)) (bVar 1))))))))))
def m_law_draw : Fn := runF [.io, .ro] 3 b_law_draw
set_option maxHeartbeats 0 in
theorem ok_law_draw {f : Addr} {fd : FuncData} (Fd : Fun K "_law_draw" "_law_draw" s_law_draw f fd) (T : Tx P wd K mg base G) : FnOk P wd K mg base L2.CX0 2 f fd ["hand", "sides"] (spF G [.io, .ro] m_law_draw) := by
  refine fn_tree 3 Fd sc_law_draw T.hG rfl rfl fun cdv A outer s H E hr F => ?_
  exact (s_cons (s_if (QM (PW.pt (q_and (q_cmp (o_eq F) (r_ix F (r_var 0) (PB r_int)) (PB r_int)) (q_and1 (q_cmp (o_lt F) (r_ix F (r_var 0) (PB r_int)) (PB (r_callB (c_len F) T.b_len rfl rfl (b_cons (r_ix F (r_var 0) (PB r_int)) b_nil)))))))) (s_cons (s_set 2 sc_law_draw.nd (PM (BP (r_ix F (r_ix F (r_var 0) (PB r_int)) (r_ix F (r_var 0) (PB r_int)))))) (s_cons (s_asg (PM (r_op (o_add F) (r_ix F (r_var 0) (PB r_int)) (PB r_int))) (g_ix 0 F r_int)) (s_cons (s_asg (PM (r_op (o_mod) (PB (r_callT (c_int) T.b_int rfl rfl (b_cons (PB (r_op (o_add F) (PB (r_op (o_add F) (PB (r_op (o_mul F) (r_ix F (r_var 0) (PB r_int)) (PB r_int))) (PB (r_op (o_mul F) (r_var 2) (PB r_int))))) (PB r_int))) b_nil))) (PB r_int))) (g_ix 0 F r_int)) (s_one (s_if (QM (q_cmp (o_ge) (r_var 2) (PB (r_op (o_pow) (PB r_int) (PB r_int))))) (s_one (s_asg (PM (BP (r_var 2))) (g_ix 0 F r_int))) s_nil))))) s_nil) (s_cons (s_if (QM (q_cmp (o_gt) (r_ix F (r_var 0) (PB r_int)) (PB r_int))) (s_cons (s_set 3 sc_law_draw.nd (PM (r_op (o_mod) (PB (r_callT (c_int) T.b_int rfl rfl (b_cons (r_ix F (r_var 0) (PB r_int)) b_nil))) (r_var 1)))) (s_cons (s_asg (PM (r_op (o_div) (r_ix F (r_var 0) (PB r_int)) (r_var 1))) (g_ix 0 F r_int)) (s_one (s_ret (r_mov 3))))) s_nil) (s_cons (s_asg (PM (r_op (o_add F) (r_ix F (r_var 0) (PB r_int)) (PB r_int))) (g_ix 0 F r_int)) (s_cons (s_set 4 sc_law_draw.nd (PM (r_op (o_mod) (PB (r_callT (c_int) T.b_int rfl rfl (b_cons (PB (r_op (o_mul F) (PB (r_callT (c_int) T.b_int rfl rfl (b_cons (PB (r_op (o_add F) (r_ix F (r_var 0) (PB r_int)) (PB (r_op (o_mul F) (PB r_int) (r_ix F (r_var 0) (PB r_int)))))) b_nil))) (PB r_int))) b_nil))) (PB r_int)))) (s_cons (s_set 4 sc_law_draw.nd (PM (r_op (o_mod) (PB (r_callT (c_int) T.b_int rfl rfl (b_cons (PB (r_op (o_mul F) (r_var 4) (PB (r_op (o_add F) (PB (r_op (o_div) (r_var 4) (PB r_int))) (PB r_int))))) b_nil))) (PB r_int)))) (s_cons (s_set 4 sc_law_draw.nd (PM (r_op (o_mod) (PB (r_callT (c_int) T.b_int rfl rfl (b_cons (PB (r_op (o_mul F) (r_var 4) (PB (r_op (o_add F) (PB (r_op (o_div) (r_var 4) (PB r_int))) (PB r_int))))) b_nil))) (PB r_int)))) (s_one (s_ret (PM (r_op (o_mod) (PB (r_callT (c_int) T.b_int rfl rfl (b_cons (PB (r_op (o_div) (r_var 4) (PB r_int))) b_nil))) (r_var 1)))))))))))
abbrev s_law_any : Stmt := top 61
theorem sc_law_any : FnScope ["hand", "things"] ["hand", "things"] (defScope s_law_any) := ⟨rfl, rfl, rfl, by decide +kernel, rfl, by decide +kernel, by decide +kernel⟩
def b_law_any : EvS := (sRet (mIxS 1 (mCall [.s 0, .m (mP (gC (g1 dLen) (lCons (bVar 1) lNil)))] m_law_draw)))
def m_law_any : Fn := runF [.io, .ro] 0 b_law_any
set_option maxHeartbeats 0 in
theorem ok_law_any {f : Addr} {fd : FuncData} (Fd : Fun K "_law_any" "_law_any" s_law_any f fd) (T : Tx P wd K mg base G) (c_law_draw : C8.Cal P wd K mg base 2 "_law_draw" (spF G [.io, .ro] m_law_draw) []) : FnOk P wd K mg base L2.CX0 4 f fd ["hand", "things"] (spF G [.io, .ro] m_law_any) := by
  refine fn_tree 0 Fd sc_law_any T.hG rfl rfl fun cdv A outer s H E hr F => ?_
  exact (s_one (s_ret (rM_ixS 1 F (rM_call c_law_draw hr (by omega) rfl (ad_cons (a := .s 0) (pe_var (i := 0) rfl (by first | exact Or.inl rfl | exact Or.inr (Or.inl rfl) | exact Or.inr (Or.inr rfl))) (ad_cons (a := .m (mP (gC (g1 dLen) (lCons (bVar 1) lNil)))) (PM (r_callB (c_len F) T.b_len rfl rfl (b_cons (r_var 1) b_nil))) ad_nil))))))
abbrev s_law_is : Stmt := top 62
theorem sc_law_is : FnScope ["told", "due"] ["told", "due"] (defScope s_law_is) := ⟨rfl, rfl, rfl, by decide +kernel, rfl, by decide +kernel, by decide +kernel⟩
def b_law_is : EvS := (sSeq (sIf (mT (tOrF (fT (p2 dNe (p1 (dIsi .bool) (bVar 0)) (p1 (dIsi .bool) (bVar 1)))) (fT (p2 dNe (p1 (dIsi .int) (bVar 0)) (p1 (dIsi .int) (bVar 1)))))) (sRet (mP (pC (.bl false)))) sNil) (sRet (mP (p2 dEq (bVar 0) (bVar 1)))))
def m_law_is : Fn := runF [.ro, .ro] 0 b_law_is
set_option maxHeartbeats 0 in
theorem ok_law_is {f : Addr} {fd : FuncData} (Fd : Fun K "_law_is" "_law_is" s_law_is f fd) (T : Tx P wd K mg base G) : FnOk P wd K mg base L2.CX0 2 f fd ["told", "due"] (spF G [.ro, .ro] m_law_is) := by
  refine fn_tree 0 Fd sc_law_is T.hG rfl rfl fun cdv A outer s H E hr F => ?_
  exact (s_cons (s_if (QM (PW.pt (q_or (q_cmp (o_ne F) (PB (r_isi .bool F rfl T.b_isinstance rfl (r_var 0) rfl T.b_bool rfl)) (PB (r_isi .bool F rfl T.b_isinstance rfl (r_var 1) rfl T.b_bool rfl))) (q_or1 (q_cmp (o_ne F) (PB (r_isi .int F rfl T.b_isinstance rfl (r_var 0) rfl T.b_int rfl)) (PB (r_isi .int F rfl T.b_isinstance rfl (r_var 1) rfl T.b_int rfl))))))) (s_one (s_ret (PM r_bl))) s_nil) (s_one (s_ret (PM (r_cmp (o_eq F) (r_var 0) (r_var 1))))))
abbrev s_law_lots : Stmt := top 63
theorem sc_law_lots : FnScope ["points", "found", "number", "point"] ["points"] (defScope s_law_lots) := ⟨rfl, rfl, rfl, by decide +kernel, rfl, by decide +kernel, by decide +kernel⟩
def b_law_lots : EvS := (sSeq (sAsg (mP (pLst lNil)) (gNm 1)) (sSeq (sFor (iRng1M (kCons (mP (p2 dShl (pC (.int 1)) (bVar 0))) kNil)) (.nm 2) (sDrop (mPush (fun e => slot e 1) (fun e c => e.set 1 c) (mP (gC (g1 dTuple) (lCons (pLc (iRng1B (lCons (pI (bVar 0)) lNil)) (.nm 3) [3] (fT (p2 dEq (p2 dMod (p2 dDiv (bVar 2) (p2 dShl (pC (.int 1)) (bVar 3))) (pC (.int 2))) (pC (.int 1)))) (pI (bVar 3))) lNil)))))) (sRet (mMov 1))))
def m_law_lots : Fn := runF [.ro] 3 b_law_lots
set_option maxHeartbeats 0 in
theorem ok_law_lots {f : Addr} {fd : FuncData} (Fd : Fun K "_law_lots" "_law_lots" s_law_lots f fd) (T : Tx P wd K mg base G) : FnOk P wd K mg base L2.CX0 2 f fd ["points"] (spF G [.ro] m_law_lots) := by
  refine fn_tree 3 Fd sc_law_lots T.hG rfl rfl fun cdv A outer s H E hr F => ?_
  exact (s_cons (s_set 1 sc_law_lots.nd (PM (r_lst a_nil))) (s_cons (s_for PassesOwn.never F (i_rng1M rfl T.b_range (k_cons (PM (r_op (o_shl) (PB r_int) (r_var 0))) k_nil)) (tg_nm 2 sc_law_lots.nd) (s_one (s_expr (rM_append 1 (PM (r_callT (c_tuple F) T.b_tuple rfl rfl (b_cons (PB (r_lc F sc_law_lots.nd (blkOk_by (own := [("point", 3)]) (by kernel_rfl)) (i_rng1 rfl T.b_range (a_cons (BP (r_var 0)) a_nil)) (fun _ _ _ _ _ F => (tg_nm 3 sc_law_lots.nd)) (fun _ _ _ _ _ F => (ts_one (q_cmp (o_eq F) (PB (r_op (o_mod) (PB (r_op (o_div) (r_var 2) (PB (r_op (o_shl) (PB r_int) (r_var 3))))) (PB r_int))) (PB r_int)))) (fun _ _ _ _ _ F => (BP (r_var 3))))) b_nil))))))) (s_one (s_ret (r_mov 1)))))
abbrev s_law_in : Stmt := top 64
theorem sc_law_in : FnScope ["one", "other", "point"] ["one", "other"] (defScope s_law_in) := ⟨rfl, rfl, rfl, by decide +kernel, rfl, by decide +kernel, by decide +kernel⟩
def b_law_in : EvS := (sRet (mP (gC (g1 dAll) (lCons (pLc (iSeqB (bVar 0)) (.nm 2) [2] tYesT (p2 dIn (bVar 2) (bVar 1))) lNil))))
def m_law_in : Fn := runF [.ro, .ro] 1 b_law_in
set_option maxHeartbeats 0 in
theorem ok_law_in {f : Addr} {fd : FuncData} (Fd : Fun K "_law_in" "_law_in" s_law_in f fd) (T : Tx P wd K mg base G) : FnOk P wd K mg base L2.CX0 2 f fd ["one", "other"] (spF G [.ro, .ro] m_law_in) := by
  refine fn_tree 1 Fd sc_law_in T.hG rfl rfl fun cdv A outer s H E hr F => ?_
  exact (s_one (s_ret (PM (r_callB (c_all F) T.b_all rfl rfl (b_cons (PB (r_lc F sc_law_in.nd (blkOk_by (own := [("point", 2)]) (by kernel_rfl)) (i_seqB F (r_var 0)) (fun _ _ _ _ _ F => (tg_nm 2 sc_law_in.nd)) (fun _ _ _ _ _ F => ts_nil) (fun _ _ _ _ _ F => (r_cmp (o_in F) (r_var 2) (r_var 1))))) b_nil)))))
abbrev s_law_family : Stmt := top 65
theorem sc_law_family : FnScope ["hand", "points", "every", "kind", "often", "size", "some", "one", "lot", "other", "point"] ["hand", "points"] (defScope s_law_family) := ⟨rfl, rfl, rfl, by decide +kernel, rfl, by decide +kernel, by decide +kernel⟩
def b_law_family : EvS := (sSeq (sAsg (mTup (kCons (mP (gCall [.ro] m_law_lots (lCons (bVar 1) lNil))) (kCons (mCall [.s 0, .m (mP (pC (.int 6)))] m_law_draw) (kCons (m2 dAdd (mP (pC (.int 2))) (mCall [.s 0, .m (mP (pC (.int 3)))] m_law_draw)) kNil)))) (gTp [2, 3, 4])) (sSeq (sAsg (mCall [.s 0, .m (mP (p2 dAdd (bVar 1) (pC (.int 1))))] m_law_draw) (gNm 5)) (sSeq (sAsg (mLc (iSeqM (mVar 2)) (.nm 8) [8] (fTM (m2 dEq (mCall [.s 0, .m (mP (pI (bVar 4)))] m_law_draw) (mP (pC (.int 0))))) (mP (pI (bVar 8)))) (gNm 6)) (sSeq (sIf (mT (fT (p2 dEq (bVar 3) (pC (.int 1))))) (sAsg (mLc (iSeqM (mVar 2)) (.nm 8) [8] (mAndF (mT (fT (p2 dEq (gC (g1 dLen) (lCons (bVar 8) lNil)) (bVar 5)))) (fTM (m2 dGt (mCall [.s 0, .m (mP (pC (.int 4)))] m_law_draw) (mP (pC (.int 0)))))) (mP (pI (bVar 8)))) (gNm 6)) sNil) (sSeq (sIf (mT (fT (p2 dEq (bVar 3) (pC (.int 2))))) (sAsg (mP (pLc (iSeqB (bVar 2)) (.nm 8) [8] (fT (gC (g1 dAny) (lCons (pLc (iSeqB (pSl (bVar 6) none (some (pC (.int 3))))) (.nm 7) [7] tYesT (gCall [.ro, .ro] m_law_in (lCons (bVar 8) (lCons (bVar 7) lNil)))) lNil))) (pI (bVar 8)))) (gNm 6)) sNil) (sSeq (sIf (mT (fT (p2 dEq (bVar 3) (pC (.int 3))))) (sSeq (sAsg (mP (pSl (bVar 6) none (some (pC (.int 4))))) (gNm 6)) (sFor (iSeqM (mP (gC (g1 dList) (lCons (bVar 6) lNil)))) (.nm 7) (sDrop (mExt (fun e => slot e 6) (fun e c => e.set 6 c) (mP (pLc (iSeqB (gC (g1 dList) (lCons (bVar 6) lNil))) (.nm 9) [9] tYesT (gC (g1 dTuple) (lCons (pLc (iSeqB (bVar 7)) (.nm 10) [10] (fT (p2 dIn (bVar 10) (bVar 9))) (pI (bVar 10))) lNil)))))))) sNil) (sSeq (sIf (mT (fT (p2 dEq (bVar 3) (pC (.int 4))))) (sAsg (mP (pLc (iSeqB (bVar 2)) (.nm 8) [8] (fT (gC (g1 dAny) (lCons (pLc (iSeqB (pSl (bVar 6) (some (p1 dNeg (pC (.int 3)))) none)) (.nm 7) [7] tYesT (gCall [.ro, .ro] m_law_in (lCons (bVar 7) (lCons (bVar 8) lNil)))) lNil))) (pI (bVar 8)))) (gNm 6)) sNil) (sRet (mP (gC (g1 dTuple) (lCons (p1 dSortSet3 (bVar 6)) lNil)))))))))))
def m_law_family : Fn := runF [.io, .ro] 9 b_law_family
set_option maxHeartbeats 0 in
theorem ok_law_family {f : Addr} {fd : FuncData} (Fd : Fun K "_law_family" "_law_family" s_law_family f fd) (T : Tx P wd K mg base G) (c_law_lots : C8.Cal P wd K mg base 2 "_law_lots" (spF G [.ro] m_law_lots) []) (c_law_draw : C8.Cal P wd K mg base 2 "_law_draw" (spF G [.io, .ro] m_law_draw) []) (c_law_in : C8.Cal P wd K mg base 2 "_law_in" (spF G [.ro, .ro] m_law_in) []) : FnOk P wd K mg base L2.CX0 4 f fd ["hand", "points"] (spF G [.io, .ro] m_law_family) := by
  refine fn_tree 9 Fd sc_law_family T.hG rfl rfl fun cdv A outer s H E hr F => ?_
  exact (s_cons (s_asg (r_tupM (k_cons (PM (r_call c_law_lots hr (by omega) rfl (b_cons (r_var 1) b_nil))) (k_cons (rM_call c_law_draw hr (by omega) rfl (ad_cons (a := .s 0) (pe_var (i := 0) rfl (by first | exact Or.inl rfl | exact Or.inr (Or.inl rfl) | exact Or.inr (Or.inr rfl))) (ad_cons (a := .m (mP (pC (.int 6)))) (PM r_int) ad_nil))) (k_cons (r_opM (o_add F) (PM r_int) (rM_call c_law_draw hr (by omega) rfl (ad_cons (a := .s 0) (pe_var (i := 0) rfl (by first | exact Or.inl rfl | exact Or.inr (Or.inl rfl) | exact Or.inr (Or.inr rfl))) (ad_cons (a := .m (mP (pC (.int 3)))) (PM r_int) ad_nil)))) k_nil)))) (g_tup [2, 3, 4] F (tgs_cons 2 sc_law_family.nd (tgs_cons 3 sc_law_family.nd (tgs_cons 4 sc_law_family.nd tgs_nil))))) (s_cons (s_set 5 sc_law_family.nd (rM_call c_law_draw hr (by omega) rfl (ad_cons (a := .s 0) (pe_var (i := 0) rfl (by first | exact Or.inl rfl | exact Or.inr (Or.inl rfl) | exact Or.inr (Or.inr rfl))) (ad_cons (a := .m (mP (p2 dAdd (bVar 1) (pC (.int 1))))) (PM (r_op (o_add F) (r_var 1) (PB r_int))) ad_nil)))) (s_cons (s_set 6 sc_law_family.nd (rM_lc F sc_law_family.nd (blkOk_by (own := [("lot", 8)]) (by kernel_rfl)) (i_seqM F (r_varF 2)) (fun _ _ _ _ _ F => (tg_nm 8 sc_law_family.nd)) (fun _ _ _ _ _ F => (tsM_one (qM_cmp (o_eq F) (rM_call c_law_draw hr (by omega) rfl (ad_cons (a := .s 0) (pe_var (i := 0) rfl (by first | exact Or.inl rfl | exact Or.inr (Or.inl rfl) | exact Or.inr (Or.inr rfl))) (ad_cons (a := .m (mP (pI (bVar 4)))) (PM (BP (r_var 4))) ad_nil))) (PM r_int)))) (fun _ _ _ _ _ F => (PM (BP (r_var 8)))))) (s_cons (s_if (QM (q_cmp (o_eq F) (r_var 3) (PB r_int))) (s_one (s_set 6 sc_law_family.nd (rM_lc F sc_law_family.nd (blkOk_by (own := [("lot", 8)]) (by kernel_rfl)) (i_seqM F (r_varF 2)) (fun _ _ _ _ _ F => (tg_nm 8 sc_law_family.nd)) (fun _ _ _ _ _ F => (tsM_one (PW.pt (qM_and (QM (q_cmp (o_eq F) (PB (r_callB (c_len F) T.b_len rfl rfl (b_cons (r_var 8) b_nil))) (r_var 5))) (qM_and1 (qM_cmp (o_gt) (rM_call c_law_draw hr (by omega) rfl (ad_cons (a := .s 0) (pe_var (i := 0) rfl (by first | exact Or.inl rfl | exact Or.inr (Or.inl rfl) | exact Or.inr (Or.inr rfl))) (ad_cons (a := .m (mP (pC (.int 4)))) (PM r_int) ad_nil))) (PM r_int))))))) (fun _ _ _ _ _ F => (PM (BP (r_var 8))))))) s_nil) (s_cons (s_if (QM (q_cmp (o_eq F) (r_var 3) (PB r_int))) (s_one (s_set 6 sc_law_family.nd (PM (r_lc F sc_law_family.nd (blkOk_by (own := [("lot", 8)]) (by kernel_rfl)) (i_seqB F (r_var 2)) (fun _ _ _ _ _ F => (tg_nm 8 sc_law_family.nd)) (fun _ _ _ _ _ F => (ts_one (q_val (r_callB (c_any F) T.b_any rfl rfl (b_cons (PB (r_lc F sc_law_family.nd (blkOk_by (own := [("one", 7)]) (by kernel_rfl)) (i_seqB F (PB (r_slice F (r_var 6) oi_none (oi_some r_int)))) (fun _ _ _ _ _ F => (tg_nm 7 sc_law_family.nd)) (fun _ _ _ _ _ F => ts_nil) (fun _ _ _ _ _ F => (r_call c_law_in hr (by omega) rfl (b_cons (r_var 8) (b_cons (r_var 7) b_nil)))))) b_nil))))) (fun _ _ _ _ _ F => (BP (r_var 8))))))) s_nil) (s_cons (s_if (QM (q_cmp (o_eq F) (r_var 3) (PB r_int))) (s_cons (s_set 6 sc_law_family.nd (PM (r_slice F (r_var 6) oi_none (oi_some r_int)))) (s_one (s_for PassesOwn.never F (i_seqM F (PM (r_callT (c_list F) T.b_list rfl rfl (b_cons (r_var 6) b_nil)))) (tg_nm 7 sc_law_family.nd) (s_one (s_expr (rM_extend 6 F (PM (r_lc F sc_law_family.nd (blkOk_by (own := [("other", 9)]) (by kernel_rfl)) (i_seqB F (PB (r_callT (c_list F) T.b_list rfl rfl (b_cons (r_var 6) b_nil)))) (fun _ _ _ _ _ F => (tg_nm 9 sc_law_family.nd)) (fun _ _ _ _ _ F => ts_nil) (fun _ _ _ _ _ F => (r_callT (c_tuple F) T.b_tuple rfl rfl (b_cons (PB (r_lc F sc_law_family.nd (blkOk_by (own := [("point", 10)]) (by kernel_rfl)) (i_seqB F (r_var 7)) (fun _ _ _ _ _ F => (tg_nm 10 sc_law_family.nd)) (fun _ _ _ _ _ F => (ts_one (q_cmp (o_in F) (r_var 10) (r_var 9)))) (fun _ _ _ _ _ F => (BP (r_var 10))))) b_nil))))))))))) s_nil) (s_cons (s_if (QM (q_cmp (o_eq F) (r_var 3) (PB r_int))) (s_one (s_set 6 sc_law_family.nd (PM (r_lc F sc_law_family.nd (blkOk_by (own := [("lot", 8)]) (by kernel_rfl)) (i_seqB F (r_var 2)) (fun _ _ _ _ _ F => (tg_nm 8 sc_law_family.nd)) (fun _ _ _ _ _ F => (ts_one (q_val (r_callB (c_any F) T.b_any rfl rfl (b_cons (PB (r_lc F sc_law_family.nd (blkOk_by (own := [("one", 7)]) (by kernel_rfl)) (i_seqB F (PB (r_slice F (r_var 6) (oi_some (r_un o_neg (PB r_int))) oi_none))) (fun _ _ _ _ _ F => (tg_nm 7 sc_law_family.nd)) (fun _ _ _ _ _ F => ts_nil) (fun _ _ _ _ _ F => (r_call c_law_in hr (by omega) rfl (b_cons (r_var 7) (b_cons (r_var 8) b_nil)))))) b_nil))))) (fun _ _ _ _ _ F => (BP (r_var 8))))))) s_nil) (s_one (s_ret (PM (r_callT (c_tuple F) T.b_tuple rfl rfl (b_cons (PB (r_sortedSet3 F rfl T.b_sorted rfl T.b_set (r_var 6))) b_nil))))))))))))
abbrev s_law_number : Stmt := top 66
theorem sc_law_number : FnScope ["lots", "kept", "some", "face", "found", "one"] ["lots", "kept"] (defScope s_law_number) := ⟨rfl, rfl, rfl, by decide +kernel, rfl, by decide +kernel, by decide +kernel⟩
def b_law_number (n : Nat) (m_law_number : Nat → Fn) : EvS := (sSeq (sIf (mT (fT (p2 dNotIn (bVar 0) (bVar 1)))) (sSeq (sAsg (mP (pLst lNil)) (gNm 2)) (sSeq (sFor (iSeqM (mP (pI (bVar 0)))) (.nm 3) (sIf (mT (fT (p2 dNe (bVar 3) (pTup lNil)))) (sDrop (mPush (fun e => slot e 2) (fun e c => e.set 2 c) (mCall [.m (mP (gC (g1 dTuple) (lCons (pLc (iSeqB (bVar 0)) (.nm 5) [5] (tNotF (fT (gCall [.ro, .ro] m_law_in (lCons (bVar 3) (lCons (bVar 5) lNil))))) (pI (bVar 5))) lNil))), .s 1] (m_law_number n)))) sNil)) (sSeq (sAsg (mP (pC (.int 0))) (gNm 4)) (sSeq (sWhile (mT (fT (p2 dIn (bVar 4) (bVar 2)))) (sAsg (mP (p2 dAdd (bVar 4) (pC (.int 1)))) (gNm 4))) (sAsg (mP (pI (bVar 4))) (gIx (fun e => slot e 1) (fun e c => e.set 1 c) (pI (bVar 0)))))))) sNil) (sRet (mP (pI (p2 dIx (bVar 1) (bVar 0))))))
def m_law_number : Nat → Fn
  | 0 => fun _ => none
  | n + 1 => runF [.ro, .io] 4 ((sSeq (sIf (mT (fT (p2 dNotIn (bVar 0) (bVar 1)))) (sSeq (sAsg (mP (pLst lNil)) (gNm 2)) (sSeq (sFor (iSeqM (mP (pI (bVar 0)))) (.nm 3) (sIf (mT (fT (p2 dNe (bVar 3) (pTup lNil)))) (sDrop (mPush (fun e => slot e 2) (fun e c => e.set 2 c) (mCall [.m (mP (gC (g1 dTuple) (lCons (pLc (iSeqB (bVar 0)) (.nm 5) [5] (tNotF (fT (gCall [.ro, .ro] m_law_in (lCons (bVar 3) (lCons (bVar 5) lNil))))) (pI (bVar 5))) lNil))), .s 1] (m_law_number n)))) sNil)) (sSeq (sAsg (mP (pC (.int 0))) (gNm 4)) (sSeq (sWhile (mT (fT (p2 dIn (bVar 4) (bVar 2)))) (sAsg (mP (p2 dAdd (bVar 4) (pC (.int 1)))) (gNm 4))) (sAsg (mP (pI (bVar 4))) (gIx (fun e => slot e 1) (fun e c => e.set 1 c) (pI (bVar 0)))))))) sNil) (sRet (mP (pI (p2 dIx (bVar 1) (bVar 0)))))))
set_option maxHeartbeats 0 in
theorem ok_law_number {f : Addr} {fd : FuncData} (Fd : Fun K "_law_number" "_law_number" s_law_number f fd) (T : Tx P wd K mg base G) (c_law_in : C8.Cal P wd K mg base 2 "_law_in" (spF G [.ro, .ro] m_law_in) []) (n : Nat) (c_law_number : C8.Cal P wd K mg base (4 + n) "_law_number" (spF G [.ro, .io] (m_law_number n)) []) : FnOk P wd K mg base L2.CX0 (4 + n + 1) f fd ["lots", "kept"] (spF G [.ro, .io] (m_law_number (n + 1))) := by
  refine fn_tree 4 Fd sc_law_number T.hG rfl rfl fun cdv A outer s H E hr F => ?_
  exact (s_cons (s_if (QM (q_cmp (o_notIn F) (r_var 0) (r_var 1))) (s_cons (s_set 2 sc_law_number.nd (PM (r_lst a_nil))) (s_cons (s_for PassesOwn.never F (i_seqM F (PM (BP (r_var 0)))) (tg_nm 3 sc_law_number.nd) (s_one (s_if (QM (q_cmp (o_ne F) (r_var 3) (PB (r_tup a_nil)))) (s_one (s_expr (rM_append 2 (rM_call c_law_number hr (by omega) rfl (ad_cons (a := .m (mP (gC (g1 dTuple) (lCons (pLc (iSeqB (bVar 0)) (.nm 5) [5] (tNotF (fT (gCall [.ro, .ro] m_law_in (lCons (bVar 3) (lCons (bVar 5) lNil))))) (pI (bVar 5))) lNil)))) (PM (r_callT (c_tuple F) T.b_tuple rfl rfl (b_cons (PB (r_lc F sc_law_number.nd (blkOk_by (own := [("one", 5)]) (by kernel_rfl)) (i_seqB F (r_var 0)) (fun _ _ _ _ _ F => (tg_nm 5 sc_law_number.nd)) (fun _ _ _ _ _ F => (ts_one (q_not (q_val (r_call c_law_in hr (by omega) rfl (b_cons (r_var 3) (b_cons (r_var 5) b_nil))))))) (fun _ _ _ _ _ F => (BP (r_var 5))))) b_nil))) (ad_cons (a := .s 1) (pe_var (i := 1) rfl (by first | exact Or.inl rfl | exact Or.inr (Or.inl rfl) | exact Or.inr (Or.inr rfl))) ad_nil)))))) s_nil))) (s_cons (s_set 4 sc_law_number.nd (PM r_int)) (s_cons (s_while PassesOwn.never (QM (q_cmp (o_in F) (r_var 4) (r_var 2))) (s_one (s_set 4 sc_law_number.nd (PM (r_op (o_add F) (r_var 4) (PB r_int)))))) (s_one (s_asg (PM (BP (r_var 4))) (g_ix 1 F (BP (r_var 0))))))))) s_nil) (s_one (s_ret (PM (BP (r_ix F (r_var 1) (r_var 0)))))))
abbrev s_law_carry : Stmt := top 67
theorem sc_law_carry : FnScope ["one", "other", "found", "step"] ["one", "other"] (defScope s_law_carry) := ⟨rfl, rfl, rfl, by decide +kernel, rfl, by decide +kernel, by decide +kernel⟩
def b_law_carry : EvS := (sSeq (sAsg (mP (pTup (lCons (pC (.int 0)) (lCons (pC (.int 1)) lNil)))) (gTp [2, 3])) (sSeq (sWhile (mT (tOrF (fT (p2 dGt (bVar 0) (pC (.int 0)))) (fT (p2 dGt (bVar 1) (pC (.int 0)))))) (sSeq (sAsg (mP (p2 dAdd (bVar 2) (p2 dMul (bVar 3) (p2 dMod (p2 dAdd (bVar 0) (bVar 1)) (pC (.int 2)))))) (gNm 2)) (sPar [0, 1, 3] (kCons (mP (p2 dDiv (bVar 0) (pC (.int 2)))) (kCons (mP (p2 dDiv (bVar 1) (pC (.int 2)))) (kCons (mP (p2 dMul (pC (.int 2)) (bVar 3))) kNil)))))) (sRet (mMov 2))))
def m_law_carry : Fn := runF [.mv, .mv] 2 b_law_carry
set_option maxHeartbeats 0 in
theorem ok_law_carry {f : Addr} {fd : FuncData} (Fd : Fun K "_law_carry" "_law_carry" s_law_carry f fd) (T : Tx P wd K mg base G) : FnOk P wd K mg base L2.CX0 2 f fd ["one", "other"] (spF G [.mv, .mv] m_law_carry) := by
  refine fn_tree 2 Fd sc_law_carry T.hG rfl rfl fun cdv A outer s H E hr F => ?_
  exact (s_cons (s_asg (PM (r_tup (a_cons r_int (a_cons r_int a_nil)))) (g_tup [2, 3] F (tgs_cons 2 sc_law_carry.nd (tgs_cons 3 sc_law_carry.nd tgs_nil)))) (s_cons (s_while PassesOwn.never (QM (PW.pt (q_or (q_cmp (o_gt) (r_var 0) (PB r_int)) (q_or1 (q_cmp (o_gt) (r_var 1) (PB r_int)))))) (s_cons (s_set 2 sc_law_carry.nd (PM (r_op (o_add F) (r_var 2) (PB (r_op (o_mul F) (r_var 3) (PB (r_op (o_mod) (PB (r_op (o_add F) (r_var 0) (r_var 1))) (PB r_int)))))))) (s_one (s_par3 0 1 3 F sc_law_carry.nd (k_cons (PM (r_op (o_div) (r_var 0) (PB r_int))) (k_cons (PM (r_op (o_div) (r_var 1) (PB r_int))) (k_cons (PM (r_op (o_mul F) (PB r_int) (r_var 3))) k_nil))))))) (s_one (s_ret (r_mov 2)))))
abbrev s_law : Stmt := top 68
theorem sc_law : FnScope ["script", "hand", "kept", "turn", "points", "more", "mine", "its", "number", "good", "face", "far", "both", "one", "other", "numbers", "lot", "point"] ["script"] (defScope s_law) := ⟨rfl, rfl, rfl, by decide +kernel, rfl, by decide +kernel, by decide +kernel⟩
def b_law : EvS := (sSeq (sAsg (mP (gCall [.ro] m_law_hand (lCons (bVar 0) lNil))) (gNm 1)) (sSeq (sIf (mT (tOrF (fT (p2 dNe (gCall [.ro] m_bite_number (lCons (pFam 0 (gMake 0 [.ro, .ro] m_Family_init (lCons (pC (.int 1)) (lCons (pTup (lCons (pTup lNil) (lCons (pTup (lCons (pC (.int 0)) lNil)) lNil))) lNil)))) lNil)) (pC (.int 1)))) (fT (p2 dIsNot (gCall [.ro] m_first_bites_last (lCons (pFam 0 (gMake 0 [.ro, .ro] m_Family_init (lCons (pC (.int 2)) (lCons (pTup (lCons (pTup lNil) (lCons (pTup (lCons (pC (.int 0)) lNil)) (lCons (pTup (lCons (pC (.int 1)) lNil)) lNil)))) lNil)))) lNil)) (pC (.bl false)))))) (sRet (mP (pC (.bl false)))) sNil) (sSeq (sAsg (mP pDct0) (gNm 2)) (sSeq (sFor (iRng1M (kCons (mP (pC (.int 3))) kNil)) (.nm 3) (sSeq (sAsg (mTup (kCons (m2 dAdd (mP (pC (.int 1))) (mCall [.s 1, .m (mP (pC (.int 3)))] m_law_draw)) (kCons (m2 dAdd (mP (pC (.int 1))) (mCall [.s 1, .m (mP (pC (.int 2)))] m_law_draw)) kNil))) (gTp [4, 5])) (sSeq (sAsg (mCall [.m (mFam 0 (mMake 0 [.ro, .ro] m_Family_init (kCons (mP (pI (bVar 4))) (kCons (gCM (g1 dTuple) (kCons (m1 dSortSet3 (m2 dAdd (mCall [.s 1, .m (mP (pI (bVar 4)))] m_law_family) (mP (pTup (lCons (pTup (lCons (pC (.int 0)) lNil)) lNil))))) kNil)) kNil))))] m_lower) (gNm 6)) (sSeq (sAsg (mCall [.m (mFam 0 (mMake 0 [.ro, .ro] m_Family_init (kCons (mP (pI (bVar 5))) (kCons (gCM (g1 dTuple) (kCons (m1 dSortSet3 (m2 dAdd (mCall [.s 1, .m (mP (pI (bVar 5)))] m_law_family) (mP (pTup (lCons (pTup lNil) lNil))))) kNil)) kNil))))] m_lower) (gNm 7)) (sSeq (sAsg (mCall [.m (mP (p1 dLots (bVar 6))), .s 2] (m_law_number 60)) (gNm 8)) (sSeq (sIf (mT (tOrF (fT (p2 dNe (gCall [.ro] m_bite_number (lCons (bVar 6) lNil)) (bVar 8))) (tNotF (fT (gCall [.ro, .ro] m_law_is (lCons (gCall [.ro] m_first_bites_last (lCons (bVar 6) lNil)) (lCons (p2 dNe (bVar 8) (pC (.int 0))) lNil))))))) (sRet (mP (pC (.bl false)))) sNil) (sSeq (sAsg (mLc (iSeqM (mP (p1 dLots (bVar 6)))) (.nm 10) [10] (mAndF (mT (fT (p2 dNe (bVar 10) (pTup lNil)))) (fTM (m2 dEq (mCall [.m (mP (p1 dLots (gCall [.ro, .ro] m_without_star (lCons (bVar 6) (lCons (bVar 10) lNil))))), .s 2] (m_law_number 60)) (mP (pC (.int 0)))))) (mP (pI (bVar 10)))) (gNm 9)) (sSeq (sIf (mT (fT (p2 dNe (gCall [.ro] m_good_bite (lCons (bVar 6) lNil)) (pIf (fT (p2 dGt (gC (g1 dLen) (lCons (bVar 9) lNil)) (pC (.int 0)))) (pI (p2 dIx (bVar 9) (pC (.int 0)))) (pC .non))))) (sRet (mP (pC (.bl false)))) sNil) (sSeq (sIf (mT (fT (p2 dNe (gCall [.ro] m_bites (lCons (bVar 6) lNil)) (gC (g1 dTuple) (lCons (pLc (iSeqB (p1 dLots (bVar 6))) (.nm 13) [13] (fT (p2 dNe (bVar 13) (pTup lNil))) (pI (bVar 13))) lNil))))) (sRet (mP (pC (.bl false)))) sNil) (sSeq (sAsg (mCall [.s 1, .m (mP (gC (g1 dList) (lCons (gCall [.ro] m_bites (lCons (bVar 6) lNil)) lNil)))] m_law_any) (gNm 10)) (sSeq (sIf (mT (fT (p2 (dNeF m_Family_eq) (gCall [.ro, .ro] m_bitten (lCons (bVar 6) (lCons (bVar 10) lNil))) (gCall [.ro, .ro] m_without_star (lCons (bVar 6) (lCons (bVar 10) lNil)))))) (sRet (mP (pC (.bl false)))) sNil) (sSeq (sAsg (mP (pLc (iSeqB (p1 dLots (bVar 7))) (.nm 16) [16] tYesT (gC (g1 dTuple) (lCons (pLc (iSeqB (bVar 16)) (.nm 17) [17] tYesT (p2 dAdd (bVar 17) (bVar 4))) lNil)))) (gNm 11)) (sSeq (sAsg (mP (pFam 0 (gMake 0 [.ro, .ro] m_Family_init (lCons (p2 dAdd (bVar 4) (bVar 5)) (lCons (gC (g1 dTuple) (lCons (p1 dSortSet3 (p2 dAdd (gC (g1 dList) (lCons (p1 dLots (bVar 6)) lNil)) (bVar 11))) lNil)) lNil))))) (gNm 12)) (sSeq (sIf (fTM (m2 dNe (mP (gCall [.ro] m_bite_number (lCons (bVar 12) lNil))) (mCall [.m (mP (pI (bVar 8))), .m (mCall [.m (mP (p1 dLots (bVar 7))), .s 2] (m_law_number 60))] m_law_carry))) (sRet (mP (pC (.bl false)))) sNil) (sSeq (sAsg (gCM (g1 dTuple) (kCons (mLc (iRng1M (kCons (mP (pI (bVar 4))) kNil)) (.nm 17) [17] (mT tYesT) (mCall [.s 1, .m (mP (pC (.int 3)))] m_law_draw)) kNil)) (gNm 13)) (sSeq (sAsg (gCM (g1 dTuple) (kCons (mLc (iRng1M (kCons (mP (pI (bVar 5))) kNil)) (.nm 17) [17] (mT tYesT) (mCall [.s 1, .m (mP (pC (.int 3)))] m_law_draw)) kNil)) (gNm 14)) (sSeq (sAsg (mP (pLst (lCons (gCall [.ro, .ro] m_heap_number (lCons (bVar 6) (lCons (bVar 13) lNil))) (lCons (gCall [.ro, .ro] m_heap_number (lCons (bVar 7) (lCons (bVar 14) lNil))) (lCons (gCall [.ro, .ro] m_heap_number (lCons (bVar 12) (lCons (p2 dAdd (bVar 13) (bVar 14)) lNil))) lNil))))) (gNm 15)) (sIf (mT (tOrF (fT (p2 dNe (p2 dIx (bVar 15) (pC (.int 2))) (gCall [.mv, .mv] m_law_carry (lCons (p2 dIx (bVar 15) (pC (.int 0))) (lCons (p2 dIx (bVar 15) (pC (.int 1))) lNil))))) (tNotF (fT (gCall [.ro, .ro] m_law_is (lCons (gCall [.ro, .ro] m_lost (lCons (bVar 6) (lCons (bVar 13) lNil))) (lCons (p2 dEq (p2 dIx (bVar 15) (pC (.int 0))) (pC (.int 0))) lNil))))))) (sRet (mP (pC (.bl false)))) sNil)))))))))))))))))) (sRet (m2 dIs (mCall [.m (mCall [.m (m2 dAdd (mP (pC (.int 1))) (mCall [.s 1, .m (mP (pC (.int 3)))] m_law_draw))] m_all_of)] m_first_bites_last) (mP (pC (.bl true)))))))))
def m_law : Fn := runF [.ro] 17 b_law
set_option maxHeartbeats 0 in
theorem ok_law {f : Addr} {fd : FuncData} (Fd : Fun K "law" "law" s_law f fd) (T : Tx P wd K mg base G) (c_law_hand : C8.Cal P wd K mg base 2 "_law_hand" (spF G [.ro] m_law_hand) []) (c_bite_number : C8.Cal P wd K mg base 68 "bite_number" (spF G [.ro] m_bite_number) []) (c_Family_init : C8.Mak P wd K mg base 12 "Family" (G.cls 0) (spF G [.io, .ro, .ro] m_Family_init) []) (c_first_bites_last : C8.Cal P wd K mg base 68 "first_bites_last" (spF G [.ro] m_first_bites_last) []) (c_law_draw : C8.Cal P wd K mg base 2 "_law_draw" (spF G [.io, .ro] m_law_draw) []) (c_lower : C8.Cal P wd K mg base 16 "lower" (spF G [.ro] m_lower) []) (c_law_family : C8.Cal P wd K mg base 4 "_law_family" (spF G [.io, .ro] m_law_family) []) (c_law_number : C8.Cal P wd K mg base 64 "_law_number" (spF G [.ro, .io] (m_law_number 60)) []) (c_law_is : C8.Cal P wd K mg base 2 "_law_is" (spF G [.ro, .ro] m_law_is) []) (c_without_star : C8.Cal P wd K mg base 16 "without_star" (spF G [.ro, .ro] m_without_star) []) (c_good_bite : C8.Cal P wd K mg base 68 "good_bite" (spF G [.ro] m_good_bite) []) (c_bites : C8.Cal P wd K mg base 8 "bites" (spF G [.ro] m_bites) []) (c_law_any : C8.Cal P wd K mg base 4 "_law_any" (spF G [.io, .ro] m_law_any) []) (c_Family_eq : C8.Met P wd K mg base 2 G.famC "__eq__" (spF G [.ro, .ro] m_Family_eq) []) (c_bitten : C8.Cal P wd K mg base 16 "bitten" (spF G [.ro, .ro] m_bitten) []) (c_law_carry : C8.Cal P wd K mg base 2 "_law_carry" (spF G [.mv, .mv] m_law_carry) []) (c_heap_number : C8.Cal P wd K mg base 68 "heap_number" (spF G [.ro, .ro] m_heap_number) []) (c_lost : C8.Cal P wd K mg base 68 "lost" (spF G [.ro, .ro] m_lost) []) (c_all_of : C8.Cal P wd K mg base 16 "all_of" (spF G [.ro] m_all_of) []) : FnOk P wd K mg base L2.CX0 70 f fd ["script"] (spF G [.ro] m_law) := by
  refine fn_tree 17 Fd sc_law T.hG rfl rfl fun cdv A outer s H E hr F => ?_
  exact (s_cons (s_set 1 sc_law.nd (PM (r_call c_law_hand hr (by omega) rfl (b_cons (r_var 0) b_nil)))) (s_cons (s_if (QM (PW.pt (q_or (q_cmp (o_ne F) (PB (r_call c_bite_number hr (by omega) rfl (b_cons (PB (r_fam T.famc (r_make c_Family_init hr (by omega) rfl (b_cons (PB r_int) (b_cons (PB (r_tup (a_cons (r_tup a_nil) (a_cons (r_tup (a_cons r_int a_nil)) a_nil)))) b_nil))))) b_nil))) (PB r_int)) (q_or1 (q_cmp (o_isnot) (PB (r_call c_first_bites_last hr (by omega) rfl (b_cons (PB (r_fam T.famc (r_make c_Family_init hr (by omega) rfl (b_cons (PB r_int) (b_cons (PB (r_tup (a_cons (r_tup a_nil) (a_cons (r_tup (a_cons r_int a_nil)) (a_cons (r_tup (a_cons r_int a_nil)) a_nil))))) b_nil))))) b_nil))) (PB r_bl)))))) (s_one (s_ret (PM r_bl))) s_nil) (s_cons (s_set 2 sc_law.nd (PM r_dct0)) (s_cons (s_for PassesOwn.never F (i_rng1M rfl T.b_range (k_cons (PM r_int) k_nil)) (tg_nm 3 sc_law.nd) (s_cons (s_asg (r_tupM (k_cons (r_opM (o_add F) (PM r_int) (rM_call c_law_draw hr (by omega) rfl (ad_cons (a := .s 1) (pe_var (i := 1) rfl (by first | exact Or.inl rfl | exact Or.inr (Or.inl rfl) | exact Or.inr (Or.inr rfl))) (ad_cons (a := .m (mP (pC (.int 3)))) (PM r_int) ad_nil)))) (k_cons (r_opM (o_add F) (PM r_int) (rM_call c_law_draw hr (by omega) rfl (ad_cons (a := .s 1) (pe_var (i := 1) rfl (by first | exact Or.inl rfl | exact Or.inr (Or.inl rfl) | exact Or.inr (Or.inr rfl))) (ad_cons (a := .m (mP (pC (.int 2)))) (PM r_int) ad_nil)))) k_nil))) (g_tup [4, 5] F (tgs_cons 4 sc_law.nd (tgs_cons 5 sc_law.nd tgs_nil)))) (s_cons (s_set 6 sc_law.nd (rM_call c_lower hr (by omega) rfl (ad_cons (a := .m (mFam 0 (mMake 0 [.ro, .ro] m_Family_init (kCons (mP (pI (bVar 4))) (kCons (gCM (g1 dTuple) (kCons (m1 dSortSet3 (m2 dAdd (mCall [.s 1, .m (mP (pI (bVar 4)))] m_law_family) (mP (pTup (lCons (pTup (lCons (pC (.int 0)) lNil)) lNil))))) kNil)) kNil))))) (rM_fam T.famc (rM_make c_Family_init hr (by omega) rfl (k_cons (PM (BP (r_var 4))) (k_cons (r_callTM (c_tuple F) T.b_tuple rfl rfl (k_cons (rM_sortedSet3 F rfl T.b_sorted rfl T.b_set (r_opM (o_add F) (rM_call c_law_family hr (by omega) rfl (ad_cons (a := .s 1) (pe_var (i := 1) rfl (by first | exact Or.inl rfl | exact Or.inr (Or.inl rfl) | exact Or.inr (Or.inr rfl))) (ad_cons (a := .m (mP (pI (bVar 4)))) (PM (BP (r_var 4))) ad_nil))) (PM (r_tup (a_cons (r_tup (a_cons r_int a_nil)) a_nil))))) k_nil)) k_nil)))) ad_nil))) (s_cons (s_set 7 sc_law.nd (rM_call c_lower hr (by omega) rfl (ad_cons (a := .m (mFam 0 (mMake 0 [.ro, .ro] m_Family_init (kCons (mP (pI (bVar 5))) (kCons (gCM (g1 dTuple) (kCons (m1 dSortSet3 (m2 dAdd (mCall [.s 1, .m (mP (pI (bVar 5)))] m_law_family) (mP (pTup (lCons (pTup lNil) lNil))))) kNil)) kNil))))) (rM_fam T.famc (rM_make c_Family_init hr (by omega) rfl (k_cons (PM (BP (r_var 5))) (k_cons (r_callTM (c_tuple F) T.b_tuple rfl rfl (k_cons (rM_sortedSet3 F rfl T.b_sorted rfl T.b_set (r_opM (o_add F) (rM_call c_law_family hr (by omega) rfl (ad_cons (a := .s 1) (pe_var (i := 1) rfl (by first | exact Or.inl rfl | exact Or.inr (Or.inl rfl) | exact Or.inr (Or.inr rfl))) (ad_cons (a := .m (mP (pI (bVar 5)))) (PM (BP (r_var 5))) ad_nil))) (PM (r_tup (a_cons (r_tup a_nil) a_nil))))) k_nil)) k_nil)))) ad_nil))) (s_cons (s_set 8 sc_law.nd (rM_call c_law_number hr (by omega) rfl (ad_cons (a := .m (mP (p1 dLots (bVar 6)))) (PM (r_lots T.fam (r_var 6))) (ad_cons (a := .s 2) (pe_var (i := 2) rfl (by first | exact Or.inl rfl | exact Or.inr (Or.inl rfl) | exact Or.inr (Or.inr rfl))) ad_nil)))) (s_cons (s_if (QM (PW.pt (q_or (q_cmp (o_ne F) (PB (r_call c_bite_number hr (by omega) rfl (b_cons (r_var 6) b_nil))) (r_var 8)) (q_or1 (q_not (q_val (r_call c_law_is hr (by omega) rfl (b_cons (PB (r_call c_first_bites_last hr (by omega) rfl (b_cons (r_var 6) b_nil))) (b_cons (PB (r_cmp (o_ne F) (r_var 8) (PB r_int))) b_nil))))))))) (s_one (s_ret (PM r_bl))) s_nil) (s_cons (s_setLc 9 F sc_law.nd (blkOk_by (own := [("face", 10)]) (by kernel_rfl)) (i_seqM F (PM (r_lots T.fam (r_var 6)))) (fun _ _ _ _ _ F => (tg_nm 10 sc_law.nd)) (fun _ _ _ _ _ F => (tsM_one (PW.pt (qM_and (QM (q_cmp (o_ne F) (r_var 10) (PB (r_tup a_nil)))) (qM_and1 (qM_cmp (o_eq F) (rM_call c_law_number hr (by omega) rfl (ad_cons (a := .m (mP (p1 dLots (gCall [.ro, .ro] m_without_star (lCons (bVar 6) (lCons (bVar 10) lNil)))))) (PM (r_lots T.fam (PB (r_call c_without_star hr (by omega) rfl (b_cons (r_var 6) (b_cons (r_var 10) b_nil)))))) (ad_cons (a := .s 2) (pe_var (i := 2) rfl (by first | exact Or.inl rfl | exact Or.inr (Or.inl rfl) | exact Or.inr (Or.inr rfl))) ad_nil))) (PM r_int))))))) (fun _ _ _ _ _ F => (PM (BP (r_var 10))))) (s_cons (s_if (QM (q_cmp (o_ne F) (PB (r_call c_good_bite hr (by omega) rfl (b_cons (r_var 6) b_nil))) (PB (r_if (q_cmp (o_gt) (PB (r_callB (c_len F) T.b_len rfl rfl (b_cons (r_var 9) b_nil))) (PB r_int)) (BP (r_ix F (r_var 9) (PB r_int))) r_non)))) (s_one (s_ret (PM r_bl))) s_nil) (s_cons (s_if (QM (q_cmp (o_ne F) (PB (r_call c_bites hr (by omega) rfl (b_cons (r_var 6) b_nil))) (PB (r_callT (c_tuple F) T.b_tuple rfl rfl (b_cons (PB (r_lc F sc_law.nd (blkOk_by (own := [("one", 13)]) (by kernel_rfl)) (i_seqB F (PB (r_lots T.fam (r_var 6)))) (fun _ _ _ _ _ F => (tg_nm 13 sc_law.nd)) (fun _ _ _ _ _ F => (ts_one (q_cmp (o_ne F) (r_var 13) (PB (r_tup a_nil))))) (fun _ _ _ _ _ F => (BP (r_var 13))))) b_nil))))) (s_one (s_ret (PM r_bl))) s_nil) (s_cons (s_set 10 sc_law.nd (rM_call c_law_any hr (by omega) rfl (ad_cons (a := .s 1) (pe_var (i := 1) rfl (by first | exact Or.inl rfl | exact Or.inr (Or.inl rfl) | exact Or.inr (Or.inr rfl))) (ad_cons (a := .m (mP (gC (g1 dList) (lCons (gCall [.ro] m_bites (lCons (bVar 6) lNil)) lNil)))) (PM (r_callT (c_list F) T.b_list rfl rfl (b_cons (PB (r_call c_bites hr (by omega) rfl (b_cons (r_var 6) b_nil))) b_nil))) ad_nil)))) (s_cons (s_if (QM (q_cmp (o_neF F T.famk c_Family_eq hr (by omega)) (PB (r_call c_bitten hr (by omega) rfl (b_cons (r_var 6) (b_cons (r_var 10) b_nil)))) (PB (r_call c_without_star hr (by omega) rfl (b_cons (r_var 6) (b_cons (r_var 10) b_nil)))))) (s_one (s_ret (PM r_bl))) s_nil) (s_cons (s_setLcP 11 F sc_law.nd (blkOk_by (own := [("lot", 16)]) (by kernel_rfl)) (i_seqB F (PB (r_lots T.fam (r_var 7)))) (fun _ _ _ _ _ F => (tg_nm 16 sc_law.nd)) (fun _ _ _ _ _ F => ts_nil) (fun _ _ _ _ _ F => (r_callT (c_tuple F) T.b_tuple rfl rfl (b_cons (PB (r_lc F sc_law.nd (blkOk_by (own := [("point", 17)]) (by kernel_rfl)) (i_seqB F (r_var 16)) (fun _ _ _ _ _ F => (tg_nm 17 sc_law.nd)) (fun _ _ _ _ _ F => ts_nil) (fun _ _ _ _ _ F => (r_op (o_add F) (r_var 17) (r_var 4))))) b_nil)))) (s_cons (s_set 12 sc_law.nd (PM (r_fam T.famc (r_make c_Family_init hr (by omega) rfl (b_cons (PB (r_op (o_add F) (r_var 4) (r_var 5))) (b_cons (PB (r_callT (c_tuple F) T.b_tuple rfl rfl (b_cons (PB (r_sortedSet3 F rfl T.b_sorted rfl T.b_set (PB (r_op (o_add F) (PB (r_callT (c_list F) T.b_list rfl rfl (b_cons (PB (r_lots T.fam (r_var 6))) b_nil))) (r_var 11))))) b_nil))) b_nil)))))) (s_cons (s_if (qM_cmp (o_ne F) (PM (r_call c_bite_number hr (by omega) rfl (b_cons (r_var 12) b_nil))) (rM_call c_law_carry hr (by omega) rfl (ad_cons (a := .m (mP (pI (bVar 8)))) (PM (BP (r_var 8))) (ad_cons (a := .m (mCall [.m (mP (p1 dLots (bVar 7))), .s 2] (m_law_number 60))) (rM_call c_law_number hr (by omega) rfl (ad_cons (a := .m (mP (p1 dLots (bVar 7)))) (PM (r_lots T.fam (r_var 7))) (ad_cons (a := .s 2) (pe_var (i := 2) rfl (by first | exact Or.inl rfl | exact Or.inr (Or.inl rfl) | exact Or.inr (Or.inr rfl))) ad_nil))) ad_nil)))) (s_one (s_ret (PM r_bl))) s_nil) (s_cons (s_set 13 sc_law.nd (r_callTM (c_tuple F) T.b_tuple rfl rfl (k_cons (rM_lc F sc_law.nd (blkOk_by (own := [("point", 17)]) (by kernel_rfl)) (i_rng1M rfl T.b_range (k_cons (PM (BP (r_var 4))) k_nil)) (fun _ _ _ _ _ F => (tg_nm 17 sc_law.nd)) (fun _ _ _ _ _ F => tsM_nil) (fun _ _ _ _ _ F => (rM_call c_law_draw hr (by omega) rfl (ad_cons (a := .s 1) (pe_var (i := 1) rfl (by first | exact Or.inl rfl | exact Or.inr (Or.inl rfl) | exact Or.inr (Or.inr rfl))) (ad_cons (a := .m (mP (pC (.int 3)))) (PM r_int) ad_nil))))) k_nil))) (s_cons (s_set 14 sc_law.nd (r_callTM (c_tuple F) T.b_tuple rfl rfl (k_cons (rM_lc F sc_law.nd (blkOk_by (own := [("point", 17)]) (by kernel_rfl)) (i_rng1M rfl T.b_range (k_cons (PM (BP (r_var 5))) k_nil)) (fun _ _ _ _ _ F => (tg_nm 17 sc_law.nd)) (fun _ _ _ _ _ F => tsM_nil) (fun _ _ _ _ _ F => (rM_call c_law_draw hr (by omega) rfl (ad_cons (a := .s 1) (pe_var (i := 1) rfl (by first | exact Or.inl rfl | exact Or.inr (Or.inl rfl) | exact Or.inr (Or.inr rfl))) (ad_cons (a := .m (mP (pC (.int 3)))) (PM r_int) ad_nil))))) k_nil))) (s_cons (s_set 15 sc_law.nd (PM (r_lst (a_cons (r_call c_heap_number hr (by omega) rfl (b_cons (r_var 6) (b_cons (r_var 13) b_nil))) (a_cons (r_call c_heap_number hr (by omega) rfl (b_cons (r_var 7) (b_cons (r_var 14) b_nil))) (a_cons (r_call c_heap_number hr (by omega) rfl (b_cons (r_var 12) (b_cons (PB (r_op (o_add F) (r_var 13) (r_var 14))) b_nil))) a_nil)))))) (s_one (s_if (QM (PW.pt (q_or (q_cmp (o_ne F) (r_ix F (r_var 15) (PB r_int)) (PB (r_call c_law_carry hr (by omega) rfl (b_cons (r_ix F (r_var 15) (PB r_int)) (b_cons (r_ix F (r_var 15) (PB r_int)) b_nil))))) (q_or1 (q_not (q_val (r_call c_law_is hr (by omega) rfl (b_cons (PB (r_call c_lost hr (by omega) rfl (b_cons (r_var 6) (b_cons (r_var 13) b_nil)))) (b_cons (PB (r_cmp (o_eq F) (r_ix F (r_var 15) (PB r_int)) (PB r_int))) b_nil))))))))) (s_one (s_ret (PM r_bl))) s_nil))))))))))))))))))) (s_one (s_ret (r_cmpM (o_is) (rM_call c_first_bites_last hr (by omega) rfl (ad_cons (a := .m (mCall [.m (m2 dAdd (mP (pC (.int 1))) (mCall [.s 1, .m (mP (pC (.int 3)))] m_law_draw))] m_all_of)) (rM_call c_all_of hr (by omega) rfl (ad_cons (a := .m (m2 dAdd (mP (pC (.int 1))) (mCall [.s 1, .m (mP (pC (.int 3)))] m_law_draw))) (r_opM (o_add F) (PM r_int) (rM_call c_law_draw hr (by omega) rfl (ad_cons (a := .s 1) (pe_var (i := 1) rfl (by first | exact Or.inl rfl | exact Or.inr (Or.inl rfl) | exact Or.inr (Or.inr rfl))) (ad_cons (a := .m (mP (pC (.int 3)))) (PM r_int) ad_nil)))) ad_nil)) ad_nil)) (PM r_bl))))))))
end
end TL
end
section
set_option maxRecDepth 100000
set_option maxHeartbeats 0
namespace TL
open PySem PySem.Spec PyProof.Rows L2
def memo (s : Str) (n : Int) (ls : List D) : Option D := if s = ("there" : Str) then ((gC (g1 dDict) (lCons (pLc (iSeqB (p1 dLots (bVar 0))) (.nm 1) [1] tYesT (pTup (lCons (pI (bVar 1)) (lCons (pC (.bl true)) lNil)))) lNil)) (.fam n ls :: List.replicate 1 .undef)).map frz else if s = ("complex" : Str) then ((pAnd (p2 dGt (gC (g1 dLen) (lCons (p1 dLots (bVar 0)) lNil)) (pC (.int 0))) (gCall [.ro] m_is_lower (lCons (bVar 0) lNil))) (.fam n ls :: List.replicate 0 .undef)).map frz else none
def flds : Nat → List Str
  | 0 => ["points", "lots", "looked"]
  | 1 => ["known"]
  | 2 => ["known"]
  | 3 => ["family", "known"]
  | _ => []
def clsn (K : PySem.W.Frag) : Nat → Addr
  | 0 => He.ga K "Family"
  | 1 => He.ga K "Biter"
  | 2 => He.ga K "Winner"
  | 3 => He.ga K "Player"
  | _ => 0
def gen (P : Program) (w : PySem.World) (K : PySem.W.Frag) : Gen := ⟨P, w, K, clsn K, flds, He.ga K "Family", memo⟩
theorem hm_there (P : Program) (w : PySem.World) (K : PySem.W.Frag) : MemK (gen P w K) "there" 1 (gC (g1 dDict) (lCons (pLc (iSeqB (p1 dLots (bVar 0))) (.nm 1) [1] tYesT (pTup (lCons (pI (bVar 1)) (lCons (pC (.bl true)) lNil)))) lNil)) := by
  intro n ls d h
  show memo "there" n ls = _
  unfold memo
  rw [if_pos rfl, h] <;> rfl
theorem hm_complex (P : Program) (w : PySem.World) (K : PySem.W.Frag) : MemK (gen P w K) "complex" 0 (pAnd (p2 dGt (gC (g1 dLen) (lCons (p1 dLots (bVar 0)) lNil)) (pC (.int 0))) (gCall [.ro] m_is_lower (lCons (bVar 0) lNil))) := by
  intro n ls d h
  show memo "complex" n ls = _
  unfold memo
  rw [if_neg (by decide), if_pos rfl, h] <;> rfl
theorem memf (P : Program) (w : PySem.World) (K : PySem.W.Frag) : MemF (gen P w K) := by
  refine ⟨["there", "complex"], by decide, fun s n ls d h => ?_⟩
  change memo s n ls = some d at h
  unfold memo at h
  by_cases e0 : s = "there"
  · simp [e0]
  by_cases e1 : s = "complex"
  · simp [e1]
  simp only [if_neg e0, if_neg e1] at h
  cases h
theorem void_ok {P : Program} {wd : PySem.World} {K : PySem.W.Frag} {mg : Str → Option Value} {base : Heap} {G : Gen} {k : Nat} {f : Addr} {fd : FuncData} {ps : List Str} {md : List Md} : FnOk P wd K mg base L2.CX0 k f fd ps (spF G md (fun _ => none)) :=
  ⟨fun vs H Q E ⟨_, _, _, _, _, _, _, _, _, h, _⟩ => (nomatch h), fun A outer s H args us vs Q E _ _ _ _ ⟨_, _, _, _, _, _, _, _, _, h, _⟩ => (nomatch h)⟩
def dfn : List He.DefD := [
  ⟨("is_integer", none), "is_integer", "is_integer", defArgs s_is_integer, defBody s_is_integer, defScope s_is_integer, [], []⟩,
  ⟨("is_within", none), "is_within", "is_within", defArgs s_is_within, defBody s_is_within, defScope s_is_within, [], []⟩,
  ⟨("is_tuple", none), "is_tuple", "is_tuple", defArgs s_is_tuple, defBody s_is_tuple, defScope s_is_tuple, [], []⟩,
  ⟨("is_lot", none), "is_lot", "is_lot", defArgs s_is_lot, defBody s_is_lot, defScope s_is_lot, [], []⟩,
  ⟨("is_count", none), "is_count", "is_count", defArgs s_is_count, defBody s_is_count, defScope s_is_count, [], []⟩,
  ⟨("check_count", none), "check_count", "check_count", defArgs s_check_count, defBody s_check_count, defScope s_check_count, [], []⟩,
  ⟨("is_lot_of", none), "is_lot_of", "is_lot_of", defArgs s_is_lot_of, defBody s_is_lot_of, defScope s_is_lot_of, [], []⟩,
  ⟨("are_lots", none), "are_lots", "are_lots", defArgs s_are_lots, defBody s_are_lots, defScope s_are_lots, [], []⟩,
  ⟨("Family", some "__init__"), "__init__", "Family.__init__", defArgs s_Family_init, defBody s_Family_init, defScope s_Family_init, [], []⟩,
  ⟨("Family", some "__eq__"), "__eq__", "Family.__eq__", defArgs s_Family_eq, defBody s_Family_eq, defScope s_Family_eq, [], []⟩,
  ⟨("Family", some "there"), "there", "Family.there", defArgs s_Family_there, defBody s_Family_there, defScope s_Family_there, [], []⟩,
  ⟨("made", none), "made", "made", defArgs s_made, defBody s_made, defScope s_made, [], []⟩,
  ⟨("lot_of", none), "lot_of", "lot_of", defArgs s_lot_of, defBody s_lot_of, defScope s_lot_of, [], []⟩,
  ⟨("lots_of", none), "lots_of", "lots_of", defArgs s_lots_of, defBody s_lots_of, defScope s_lots_of, [], []⟩,
  ⟨("is_inside", none), "is_inside", "is_inside", defArgs s_is_inside, defBody s_is_inside, defScope s_is_inside, [], []⟩,
  ⟨("without_one", none), "without_one", "without_one", defArgs s_without_one, defBody s_without_one, defScope s_without_one, [], []⟩,
  ⟨("all_of", none), "all_of", "all_of", defArgs s_all_of, defBody s_all_of, defScope s_all_of, [], []⟩,
  ⟨("lower_lots", none), "lower_lots", "lower_lots", defArgs s_lower_lots, defBody s_lower_lots, defScope s_lower_lots, [], []⟩,
  ⟨("lower", none), "lower", "lower", defArgs s_lower, defBody s_lower, defScope s_lower, [], []⟩,
  ⟨("is_lower", none), "is_lower", "is_lower", defArgs s_is_lower, defBody s_is_lower, defScope s_is_lower, [], []⟩,
  ⟨("check_complex", none), "check_complex", "check_complex", defArgs s_check_complex, defBody s_check_complex, defScope s_check_complex, [], []⟩,
  ⟨("check_face", none), "check_face", "check_face", defArgs s_check_face, defBody s_check_face, defScope s_check_face, [], []⟩,
  ⟨("without_star", none), "without_star", "without_star", defArgs s_without_star, defBody s_without_star, defScope s_without_star, [], []⟩,
  ⟨("faces_to_bite", none), "faces_to_bite", "faces_to_bite", defArgs s_faces_to_bite, defBody s_faces_to_bite, defScope s_faces_to_bite, [], []⟩,
  ⟨("behind", none), "behind", "behind", defArgs s_behind, defBody s_behind, defScope s_behind, [], []⟩,
  ⟨("bites", none), "bites", "bites", defArgs s_bites, defBody s_bites, defScope s_bites, [], []⟩,
  ⟨("bitten", none), "bitten", "bitten", defArgs s_bitten, defBody s_bitten, defScope s_bitten, [], []⟩,
  ⟨("Biter", some "__init__"), "__init__", "Biter.__init__", defArgs s_Biter_init, defBody s_Biter_init, defScope s_Biter_init, [], []⟩,
  ⟨("Biter", some "number"), "number", "Biter.number", defArgs s_Biter_number, defBody s_Biter_number, defScope s_Biter_number, [], []⟩,
  ⟨("Winner", some "__init__"), "__init__", "Winner.__init__", defArgs s_Winner_init, defBody s_Winner_init, defScope s_Winner_init, [], []⟩,
  ⟨("Winner", some "wins"), "wins", "Winner.wins", defArgs s_Winner_wins, defBody s_Winner_wins, defScope s_Winner_wins, [], []⟩,
  ⟨("check_few", none), "check_few", "check_few", defArgs s_check_few, defBody s_check_few, defScope s_check_few, [], []⟩,
  ⟨("first_bites_last", none), "first_bites_last", "first_bites_last", defArgs s_first_bites_last, defBody s_first_bites_last, defScope s_first_bites_last, [], []⟩,
  ⟨("good_bite", none), "good_bite", "good_bite", defArgs s_good_bite, defBody s_good_bite, defScope s_good_bite, [], []⟩,
  ⟨("bite_number", none), "bite_number", "bite_number", defArgs s_bite_number, defBody s_bite_number, defScope s_bite_number, [], []⟩,
  ⟨("positions_below", none), "positions_below", "positions_below", defArgs s_positions_below, defBody s_positions_below, defScope s_positions_below, [], []⟩,
  ⟨("are_heaps", none), "are_heaps", "are_heaps", defArgs s_are_heaps, defBody s_are_heaps, defScope s_are_heaps, [], []⟩,
  ⟨("check_heaps", none), "check_heaps", "check_heaps", defArgs s_check_heaps, defBody s_check_heaps, defScope s_check_heaps, [], []⟩,
  ⟨("lessened", none), "lessened", "lessened", defArgs s_lessened, defBody s_lessened, defScope s_lessened, [], []⟩,
  ⟨("moves_of", none), "moves_of", "moves_of", defArgs s_moves_of, defBody s_moves_of, defScope s_moves_of, [], []⟩,
  ⟨("Player", some "__init__"), "__init__", "Player.__init__", defArgs s_Player_init, defBody s_Player_init, defScope s_Player_init, [], []⟩,
  ⟨("Player", some "number"), "number", "Player.number", defArgs s_Player_number, defBody s_Player_number, defScope s_Player_number, [], []⟩,
  ⟨("heap_number", none), "heap_number", "heap_number", defArgs s_heap_number, defBody s_heap_number, defScope s_heap_number, [], []⟩,
  ⟨("lost", none), "lost", "lost", defArgs s_lost, defBody s_lost, defScope s_lost, [], []⟩,
  ⟨("_law_hand", none), "_law_hand", "_law_hand", defArgs s_law_hand, defBody s_law_hand, defScope s_law_hand, [], []⟩,
  ⟨("_law_draw", none), "_law_draw", "_law_draw", defArgs s_law_draw, defBody s_law_draw, defScope s_law_draw, [], []⟩,
  ⟨("_law_any", none), "_law_any", "_law_any", defArgs s_law_any, defBody s_law_any, defScope s_law_any, [], []⟩,
  ⟨("_law_is", none), "_law_is", "_law_is", defArgs s_law_is, defBody s_law_is, defScope s_law_is, [], []⟩,
  ⟨("_law_lots", none), "_law_lots", "_law_lots", defArgs s_law_lots, defBody s_law_lots, defScope s_law_lots, [], []⟩,
  ⟨("_law_in", none), "_law_in", "_law_in", defArgs s_law_in, defBody s_law_in, defScope s_law_in, [], []⟩,
  ⟨("_law_family", none), "_law_family", "_law_family", defArgs s_law_family, defBody s_law_family, defScope s_law_family, [], []⟩,
  ⟨("_law_number", none), "_law_number", "_law_number", defArgs s_law_number, defBody s_law_number, defScope s_law_number, [], []⟩,
  ⟨("_law_carry", none), "_law_carry", "_law_carry", defArgs s_law_carry, defBody s_law_carry, defScope s_law_carry, [], []⟩,
  ⟨("law", none), "law", "law", defArgs s_law, defBody s_law, defScope s_law, [], []⟩]
def dfa : List He.Fa := [.int "GREATEST_HEAP" 4, .int "MOST_BITTEN" 5, .int "MOST_POINTS" 7, .int "MOST_POSITIONS" 400, .glo "law", .free "abs", .free "all", .free "any", .free "bool", .free "dict", .free "enumerate", .free "int", .free "isinstance", .free "len", .free "list", .free "range", .free "set", .free "sorted", .free "tuple", .free "zip", .cls "Family", .noat "Family" "points", .noat "Family" "lots", .noat "Family" "looked", .glo "Family", .cls "Biter", .noat "Biter" "known", .cls "Winner", .noat "Winner" "known", .cls "Player", .noat "Player" "family", .noat "Player" "known", .glo "is_integer", .glo "is_within", .glo "is_tuple", .glo "is_lot", .glo "is_count", .glo "check_count", .glo "is_lot_of", .glo "are_lots", .mkr "Family", .meth "Family" "__eq__", .meth "Family" "there", .glo "made", .glo "lot_of", .glo "lots_of", .glo "is_inside", .glo "without_one", .glo "all_of", .glo "lower_lots", .glo "lower", .glo "is_lower", .glo "check_complex", .glo "check_face", .glo "without_star", .glo "faces_to_bite", .glo "behind", .glo "bites", .glo "bitten", .mkr "Biter", .glo "Biter", .meth "Biter" "number", .mkr "Winner", .glo "Winner", .meth "Winner" "wins", .glo "check_few", .glo "first_bites_last", .glo "good_bite", .glo "bite_number", .glo "positions_below", .glo "are_heaps", .glo "check_heaps", .glo "lessened", .glo "moves_of", .mkr "Player", .glo "Player", .meth "Player" "number", .glo "heap_number", .glo "lost", .glo "_law_hand", .glo "_law_draw", .glo "_law_any", .glo "_law_is", .glo "_law_lots", .glo "_law_in", .glo "_law_family", .glo "_law_number", .glo "_law_carry"]
def dex (K : PySem.W.Frag) : Bool := famB K (He.ga K "Family")
theorem tx {P : Program} {w : PySem.World} {K : PySem.W.Frag} {h : Heap} {mg : Str → Option Value} {base : Heap} (X : K.In h) (G0 : h.Ns mainGlobals mg) (c : SaysX dfa dfn dex K) : Tx P w K mg base (gen P w K) where
  hG := ⟨rfl, rfl, rfl⟩
  b_abs := He.free_ok X G0 (c.d.fact 5 (f := .free "abs") rfl)
  b_all := He.free_ok X G0 (c.d.fact 6 (f := .free "all") rfl)
  b_any := He.free_ok X G0 (c.d.fact 7 (f := .free "any") rfl)
  b_bool := He.free_ok X G0 (c.d.fact 8 (f := .free "bool") rfl)
  b_dict := He.free_ok X G0 (c.d.fact 9 (f := .free "dict") rfl)
  b_enumerate := He.free_ok X G0 (c.d.fact 10 (f := .free "enumerate") rfl)
  b_int := He.free_ok X G0 (c.d.fact 11 (f := .free "int") rfl)
  b_isinstance := He.free_ok X G0 (c.d.fact 12 (f := .free "isinstance") rfl)
  b_len := He.free_ok X G0 (c.d.fact 13 (f := .free "len") rfl)
  b_list := He.free_ok X G0 (c.d.fact 14 (f := .free "list") rfl)
  b_range := He.free_ok X G0 (c.d.fact 15 (f := .free "range") rfl)
  b_set := He.free_ok X G0 (c.d.fact 16 (f := .free "set") rfl)
  b_sorted := He.free_ok X G0 (c.d.fact 17 (f := .free "sorted") rfl)
  b_tuple := He.free_ok X G0 (c.d.fact 18 (f := .free "tuple") rfl)
  b_zip := He.free_ok X G0 (c.d.fact 19 (f := .free "zip") rfl)
  fam := ⟨He.cls_ok (c.d.fact 20 (f := .cls "Family") rfl), fun x hx => (by have hx2 : x ∈ (["points", "lots", "looked"] : List Str) := hx; simp only [List.mem_cons, List.not_mem_nil, or_false] at hx2; rcases hx2 with rfl | rfl | rfl <;> first | exact He.noat_ok (c.d.fact 21 (f := .noat "Family" "points") rfl) | exact He.noat_ok (c.d.fact 22 (f := .noat "Family" "lots") rfl) | exact He.noat_ok (c.d.fact 23 (f := .noat "Family" "looked") rfl))⟩
  memf := memf P w K
  famk := famB_ok (He.cls_ok (c.d.fact 20 (f := .cls "Family") rfl)) c.ex
  mg_Family := He.glo_ok X G0 (c.d.fact 24 (f := .glo "Family") rfl)
  famc := ⟨rfl, rfl⟩
  cf_Family := ⟨He.cls_ok (c.d.fact 20 (f := .cls "Family") rfl), fun x hx => (by have hx2 : x ∈ (["points", "lots", "looked"] : List Str) := hx; simp only [List.mem_cons, List.not_mem_nil, or_false] at hx2; rcases hx2 with rfl | rfl | rfl <;> first | exact He.noat_ok (c.d.fact 21 (f := .noat "Family" "points") rfl) | exact He.noat_ok (c.d.fact 22 (f := .noat "Family" "lots") rfl) | exact He.noat_ok (c.d.fact 23 (f := .noat "Family" "looked") rfl)), (by decide : (flds 0).Nodup), (by decide : (flds 0).length < 1000)⟩
  fx_Family_points := rfl
  fx_Family_lots := rfl
  fx_Family_looked := rfl
  fm_Family___eq__ := (by decide : (flds 0).contains ("__eq__" : Str) = false)
  fm_Family_there := (by decide : (flds 0).contains ("there" : Str) = false)
  cf_Biter := ⟨He.cls_ok (c.d.fact 25 (f := .cls "Biter") rfl), fun x hx => (by have hx2 : x ∈ (["known"] : List Str) := hx; simp only [List.mem_cons, List.not_mem_nil, or_false] at hx2; rcases hx2 with rfl <;> first | exact He.noat_ok (c.d.fact 26 (f := .noat "Biter" "known") rfl)), (by decide : (flds 1).Nodup), (by decide : (flds 1).length < 1000)⟩
  fx_Biter_known := rfl
  fm_Biter_number := (by decide : (flds 1).contains ("number" : Str) = false)
  cf_Winner := ⟨He.cls_ok (c.d.fact 27 (f := .cls "Winner") rfl), fun x hx => (by have hx2 : x ∈ (["known"] : List Str) := hx; simp only [List.mem_cons, List.not_mem_nil, or_false] at hx2; rcases hx2 with rfl <;> first | exact He.noat_ok (c.d.fact 28 (f := .noat "Winner" "known") rfl)), (by decide : (flds 2).Nodup), (by decide : (flds 2).length < 1000)⟩
  fx_Winner_known := rfl
  fm_Winner_wins := (by decide : (flds 2).contains ("wins" : Str) = false)
  cf_Player := ⟨He.cls_ok (c.d.fact 29 (f := .cls "Player") rfl), fun x hx => (by have hx2 : x ∈ (["family", "known"] : List Str) := hx; simp only [List.mem_cons, List.not_mem_nil, or_false] at hx2; rcases hx2 with rfl | rfl <;> first | exact He.noat_ok (c.d.fact 30 (f := .noat "Player" "family") rfl) | exact He.noat_ok (c.d.fact 31 (f := .noat "Player" "known") rfl)), (by decide : (flds 3).Nodup), (by decide : (flds 3).length < 1000)⟩
  fx_Player_family := rfl
  fx_Player_known := rfl
  fm_Player_number := (by decide : (flds 3).contains ("number" : Str) = false)
theorem facts {P : Program} {w : PySem.World} {K : PySem.W.Frag} {h : Heap} {mg : Str → Option Value} {f : Addr} (X : K.In h) (G0 : h.Ns mainGlobals mg) (hfa : mg ("law" : Str) = some (.ref f)) (c : SaysX dfa dfn dex K) :
    ∃ fd : FuncData, (∀ (s : Shared) (v : Value), BindsTo s fd ⟨[v], []⟩ [("script", v)]) ∧ ∀ base : Heap, K.In base → base.Ns mainGlobals mg → FnOk P w K mg base L2.CX0 70 f fd ["script"] (spF (gen P w K) [.ro] m_law) := by
  obtain ⟨fd_is_integer, D_is_integer⟩ := c.d.def_ 0 (d := ⟨("is_integer", none), "is_integer", "is_integer", defArgs s_is_integer, defBody s_is_integer, defScope s_is_integer, [], []⟩) rfl
  have F_is_integer : Fun K "is_integer" "is_integer" s_is_integer (He.ga K "is_integer") fd_is_integer := fun_of D_is_integer
  clear D_is_integer
  obtain ⟨fd_is_within, D_is_within⟩ := c.d.def_ 1 (d := ⟨("is_within", none), "is_within", "is_within", defArgs s_is_within, defBody s_is_within, defScope s_is_within, [], []⟩) rfl
  have F_is_within : Fun K "is_within" "is_within" s_is_within (He.ga K "is_within") fd_is_within := fun_of D_is_within
  clear D_is_within
  obtain ⟨fd_is_tuple, D_is_tuple⟩ := c.d.def_ 2 (d := ⟨("is_tuple", none), "is_tuple", "is_tuple", defArgs s_is_tuple, defBody s_is_tuple, defScope s_is_tuple, [], []⟩) rfl
  have F_is_tuple : Fun K "is_tuple" "is_tuple" s_is_tuple (He.ga K "is_tuple") fd_is_tuple := fun_of D_is_tuple
  clear D_is_tuple
  obtain ⟨fd_is_lot, D_is_lot⟩ := c.d.def_ 3 (d := ⟨("is_lot", none), "is_lot", "is_lot", defArgs s_is_lot, defBody s_is_lot, defScope s_is_lot, [], []⟩) rfl
  have F_is_lot : Fun K "is_lot" "is_lot" s_is_lot (He.ga K "is_lot") fd_is_lot := fun_of D_is_lot
  clear D_is_lot
  obtain ⟨fd_is_count, D_is_count⟩ := c.d.def_ 4 (d := ⟨("is_count", none), "is_count", "is_count", defArgs s_is_count, defBody s_is_count, defScope s_is_count, [], []⟩) rfl
  have F_is_count : Fun K "is_count" "is_count" s_is_count (He.ga K "is_count") fd_is_count := fun_of D_is_count
  clear D_is_count
  obtain ⟨fd_check_count, D_check_count⟩ := c.d.def_ 5 (d := ⟨("check_count", none), "check_count", "check_count", defArgs s_check_count, defBody s_check_count, defScope s_check_count, [], []⟩) rfl
  have F_check_count : Fun K "check_count" "check_count" s_check_count (He.ga K "check_count") fd_check_count := fun_of D_check_count
  clear D_check_count
  obtain ⟨fd_is_lot_of, D_is_lot_of⟩ := c.d.def_ 6 (d := ⟨("is_lot_of", none), "is_lot_of", "is_lot_of", defArgs s_is_lot_of, defBody s_is_lot_of, defScope s_is_lot_of, [], []⟩) rfl
  have F_is_lot_of : Fun K "is_lot_of" "is_lot_of" s_is_lot_of (He.ga K "is_lot_of") fd_is_lot_of := fun_of D_is_lot_of
  clear D_is_lot_of
  obtain ⟨fd_are_lots, D_are_lots⟩ := c.d.def_ 7 (d := ⟨("are_lots", none), "are_lots", "are_lots", defArgs s_are_lots, defBody s_are_lots, defScope s_are_lots, [], []⟩) rfl
  have F_are_lots : Fun K "are_lots" "are_lots" s_are_lots (He.ga K "are_lots") fd_are_lots := fun_of D_are_lots
  clear D_are_lots
  obtain ⟨fd_Family_init, D_Family_init⟩ := c.d.def_ 8 (d := ⟨("Family", some "__init__"), "__init__", "Family.__init__", defArgs s_Family_init, defBody s_Family_init, defScope s_Family_init, [], []⟩) rfl
  have F_Family_init : Fun K "__init__" "Family.__init__" s_Family_init (He.ma K (He.ga K "Family") "__init__") fd_Family_init := fun_of D_Family_init
  clear D_Family_init
  obtain ⟨fd_Family_eq, D_Family_eq⟩ := c.d.def_ 9 (d := ⟨("Family", some "__eq__"), "__eq__", "Family.__eq__", defArgs s_Family_eq, defBody s_Family_eq, defScope s_Family_eq, [], []⟩) rfl
  have F_Family_eq : Fun K "__eq__" "Family.__eq__" s_Family_eq (He.ma K (He.ga K "Family") "__eq__") fd_Family_eq := fun_of D_Family_eq
  clear D_Family_eq
  obtain ⟨fd_Family_there, D_Family_there⟩ := c.d.def_ 10 (d := ⟨("Family", some "there"), "there", "Family.there", defArgs s_Family_there, defBody s_Family_there, defScope s_Family_there, [], []⟩) rfl
  have F_Family_there : Fun K "there" "Family.there" s_Family_there (He.ma K (He.ga K "Family") "there") fd_Family_there := fun_of D_Family_there
  clear D_Family_there
  obtain ⟨fd_made, D_made⟩ := c.d.def_ 11 (d := ⟨("made", none), "made", "made", defArgs s_made, defBody s_made, defScope s_made, [], []⟩) rfl
  have F_made : Fun K "made" "made" s_made (He.ga K "made") fd_made := fun_of D_made
  clear D_made
  obtain ⟨fd_lot_of, D_lot_of⟩ := c.d.def_ 12 (d := ⟨("lot_of", none), "lot_of", "lot_of", defArgs s_lot_of, defBody s_lot_of, defScope s_lot_of, [], []⟩) rfl
  have F_lot_of : Fun K "lot_of" "lot_of" s_lot_of (He.ga K "lot_of") fd_lot_of := fun_of D_lot_of
  clear D_lot_of
  obtain ⟨fd_lots_of, D_lots_of⟩ := c.d.def_ 13 (d := ⟨("lots_of", none), "lots_of", "lots_of", defArgs s_lots_of, defBody s_lots_of, defScope s_lots_of, [], []⟩) rfl
  have F_lots_of : Fun K "lots_of" "lots_of" s_lots_of (He.ga K "lots_of") fd_lots_of := fun_of D_lots_of
  clear D_lots_of
  obtain ⟨fd_is_inside, D_is_inside⟩ := c.d.def_ 14 (d := ⟨("is_inside", none), "is_inside", "is_inside", defArgs s_is_inside, defBody s_is_inside, defScope s_is_inside, [], []⟩) rfl
  have F_is_inside : Fun K "is_inside" "is_inside" s_is_inside (He.ga K "is_inside") fd_is_inside := fun_of D_is_inside
  clear D_is_inside
  obtain ⟨fd_without_one, D_without_one⟩ := c.d.def_ 15 (d := ⟨("without_one", none), "without_one", "without_one", defArgs s_without_one, defBody s_without_one, defScope s_without_one, [], []⟩) rfl
  have F_without_one : Fun K "without_one" "without_one" s_without_one (He.ga K "without_one") fd_without_one := fun_of D_without_one
  clear D_without_one
  obtain ⟨fd_all_of, D_all_of⟩ := c.d.def_ 16 (d := ⟨("all_of", none), "all_of", "all_of", defArgs s_all_of, defBody s_all_of, defScope s_all_of, [], []⟩) rfl
  have F_all_of : Fun K "all_of" "all_of" s_all_of (He.ga K "all_of") fd_all_of := fun_of D_all_of
  clear D_all_of
  obtain ⟨fd_lower_lots, D_lower_lots⟩ := c.d.def_ 17 (d := ⟨("lower_lots", none), "lower_lots", "lower_lots", defArgs s_lower_lots, defBody s_lower_lots, defScope s_lower_lots, [], []⟩) rfl
  have F_lower_lots : Fun K "lower_lots" "lower_lots" s_lower_lots (He.ga K "lower_lots") fd_lower_lots := fun_of D_lower_lots
  clear D_lower_lots
  obtain ⟨fd_lower, D_lower⟩ := c.d.def_ 18 (d := ⟨("lower", none), "lower", "lower", defArgs s_lower, defBody s_lower, defScope s_lower, [], []⟩) rfl
  have F_lower : Fun K "lower" "lower" s_lower (He.ga K "lower") fd_lower := fun_of D_lower
  clear D_lower
  obtain ⟨fd_is_lower, D_is_lower⟩ := c.d.def_ 19 (d := ⟨("is_lower", none), "is_lower", "is_lower", defArgs s_is_lower, defBody s_is_lower, defScope s_is_lower, [], []⟩) rfl
  have F_is_lower : Fun K "is_lower" "is_lower" s_is_lower (He.ga K "is_lower") fd_is_lower := fun_of D_is_lower
  clear D_is_lower
  obtain ⟨fd_check_complex, D_check_complex⟩ := c.d.def_ 20 (d := ⟨("check_complex", none), "check_complex", "check_complex", defArgs s_check_complex, defBody s_check_complex, defScope s_check_complex, [], []⟩) rfl
  have F_check_complex : Fun K "check_complex" "check_complex" s_check_complex (He.ga K "check_complex") fd_check_complex := fun_of D_check_complex
  clear D_check_complex
  obtain ⟨fd_check_face, D_check_face⟩ := c.d.def_ 21 (d := ⟨("check_face", none), "check_face", "check_face", defArgs s_check_face, defBody s_check_face, defScope s_check_face, [], []⟩) rfl
  have F_check_face : Fun K "check_face" "check_face" s_check_face (He.ga K "check_face") fd_check_face := fun_of D_check_face
  clear D_check_face
  obtain ⟨fd_without_star, D_without_star⟩ := c.d.def_ 22 (d := ⟨("without_star", none), "without_star", "without_star", defArgs s_without_star, defBody s_without_star, defScope s_without_star, [], []⟩) rfl
  have F_without_star : Fun K "without_star" "without_star" s_without_star (He.ga K "without_star") fd_without_star := fun_of D_without_star
  clear D_without_star
  obtain ⟨fd_faces_to_bite, D_faces_to_bite⟩ := c.d.def_ 23 (d := ⟨("faces_to_bite", none), "faces_to_bite", "faces_to_bite", defArgs s_faces_to_bite, defBody s_faces_to_bite, defScope s_faces_to_bite, [], []⟩) rfl
  have F_faces_to_bite : Fun K "faces_to_bite" "faces_to_bite" s_faces_to_bite (He.ga K "faces_to_bite") fd_faces_to_bite := fun_of D_faces_to_bite
  clear D_faces_to_bite
  obtain ⟨fd_behind, D_behind⟩ := c.d.def_ 24 (d := ⟨("behind", none), "behind", "behind", defArgs s_behind, defBody s_behind, defScope s_behind, [], []⟩) rfl
  have F_behind : Fun K "behind" "behind" s_behind (He.ga K "behind") fd_behind := fun_of D_behind
  clear D_behind
  obtain ⟨fd_bites, D_bites⟩ := c.d.def_ 25 (d := ⟨("bites", none), "bites", "bites", defArgs s_bites, defBody s_bites, defScope s_bites, [], []⟩) rfl
  have F_bites : Fun K "bites" "bites" s_bites (He.ga K "bites") fd_bites := fun_of D_bites
  clear D_bites
  obtain ⟨fd_bitten, D_bitten⟩ := c.d.def_ 26 (d := ⟨("bitten", none), "bitten", "bitten", defArgs s_bitten, defBody s_bitten, defScope s_bitten, [], []⟩) rfl
  have F_bitten : Fun K "bitten" "bitten" s_bitten (He.ga K "bitten") fd_bitten := fun_of D_bitten
  clear D_bitten
  obtain ⟨fd_Biter_init, D_Biter_init⟩ := c.d.def_ 27 (d := ⟨("Biter", some "__init__"), "__init__", "Biter.__init__", defArgs s_Biter_init, defBody s_Biter_init, defScope s_Biter_init, [], []⟩) rfl
  have F_Biter_init : Fun K "__init__" "Biter.__init__" s_Biter_init (He.ma K (He.ga K "Biter") "__init__") fd_Biter_init := fun_of D_Biter_init
  clear D_Biter_init
  obtain ⟨fd_Biter_number, D_Biter_number⟩ := c.d.def_ 28 (d := ⟨("Biter", some "number"), "number", "Biter.number", defArgs s_Biter_number, defBody s_Biter_number, defScope s_Biter_number, [], []⟩) rfl
  have F_Biter_number : Fun K "number" "Biter.number" s_Biter_number (He.ma K (He.ga K "Biter") "number") fd_Biter_number := fun_of D_Biter_number
  clear D_Biter_number
  obtain ⟨fd_Winner_init, D_Winner_init⟩ := c.d.def_ 29 (d := ⟨("Winner", some "__init__"), "__init__", "Winner.__init__", defArgs s_Winner_init, defBody s_Winner_init, defScope s_Winner_init, [], []⟩) rfl
  have F_Winner_init : Fun K "__init__" "Winner.__init__" s_Winner_init (He.ma K (He.ga K "Winner") "__init__") fd_Winner_init := fun_of D_Winner_init
  clear D_Winner_init
  obtain ⟨fd_Winner_wins, D_Winner_wins⟩ := c.d.def_ 30 (d := ⟨("Winner", some "wins"), "wins", "Winner.wins", defArgs s_Winner_wins, defBody s_Winner_wins, defScope s_Winner_wins, [], []⟩) rfl
  have F_Winner_wins : Fun K "wins" "Winner.wins" s_Winner_wins (He.ma K (He.ga K "Winner") "wins") fd_Winner_wins := fun_of D_Winner_wins
  clear D_Winner_wins
  obtain ⟨fd_check_few, D_check_few⟩ := c.d.def_ 31 (d := ⟨("check_few", none), "check_few", "check_few", defArgs s_check_few, defBody s_check_few, defScope s_check_few, [], []⟩) rfl
  have F_check_few : Fun K "check_few" "check_few" s_check_few (He.ga K "check_few") fd_check_few := fun_of D_check_few
  clear D_check_few
  obtain ⟨fd_first_bites_last, D_first_bites_last⟩ := c.d.def_ 32 (d := ⟨("first_bites_last", none), "first_bites_last", "first_bites_last", defArgs s_first_bites_last, defBody s_first_bites_last, defScope s_first_bites_last, [], []⟩) rfl
  have F_first_bites_last : Fun K "first_bites_last" "first_bites_last" s_first_bites_last (He.ga K "first_bites_last") fd_first_bites_last := fun_of D_first_bites_last
  clear D_first_bites_last
  obtain ⟨fd_good_bite, D_good_bite⟩ := c.d.def_ 33 (d := ⟨("good_bite", none), "good_bite", "good_bite", defArgs s_good_bite, defBody s_good_bite, defScope s_good_bite, [], []⟩) rfl
  have F_good_bite : Fun K "good_bite" "good_bite" s_good_bite (He.ga K "good_bite") fd_good_bite := fun_of D_good_bite
  clear D_good_bite
  obtain ⟨fd_bite_number, D_bite_number⟩ := c.d.def_ 34 (d := ⟨("bite_number", none), "bite_number", "bite_number", defArgs s_bite_number, defBody s_bite_number, defScope s_bite_number, [], []⟩) rfl
  have F_bite_number : Fun K "bite_number" "bite_number" s_bite_number (He.ga K "bite_number") fd_bite_number := fun_of D_bite_number
  clear D_bite_number
  obtain ⟨fd_positions_below, D_positions_below⟩ := c.d.def_ 35 (d := ⟨("positions_below", none), "positions_below", "positions_below", defArgs s_positions_below, defBody s_positions_below, defScope s_positions_below, [], []⟩) rfl
  have F_positions_below : Fun K "positions_below" "positions_below" s_positions_below (He.ga K "positions_below") fd_positions_below := fun_of D_positions_below
  clear D_positions_below
  obtain ⟨fd_are_heaps, D_are_heaps⟩ := c.d.def_ 36 (d := ⟨("are_heaps", none), "are_heaps", "are_heaps", defArgs s_are_heaps, defBody s_are_heaps, defScope s_are_heaps, [], []⟩) rfl
  have F_are_heaps : Fun K "are_heaps" "are_heaps" s_are_heaps (He.ga K "are_heaps") fd_are_heaps := fun_of D_are_heaps
  clear D_are_heaps
  obtain ⟨fd_check_heaps, D_check_heaps⟩ := c.d.def_ 37 (d := ⟨("check_heaps", none), "check_heaps", "check_heaps", defArgs s_check_heaps, defBody s_check_heaps, defScope s_check_heaps, [], []⟩) rfl
  have F_check_heaps : Fun K "check_heaps" "check_heaps" s_check_heaps (He.ga K "check_heaps") fd_check_heaps := fun_of D_check_heaps
  clear D_check_heaps
  obtain ⟨fd_lessened, D_lessened⟩ := c.d.def_ 38 (d := ⟨("lessened", none), "lessened", "lessened", defArgs s_lessened, defBody s_lessened, defScope s_lessened, [], []⟩) rfl
  have F_lessened : Fun K "lessened" "lessened" s_lessened (He.ga K "lessened") fd_lessened := fun_of D_lessened
  clear D_lessened
  obtain ⟨fd_moves_of, D_moves_of⟩ := c.d.def_ 39 (d := ⟨("moves_of", none), "moves_of", "moves_of", defArgs s_moves_of, defBody s_moves_of, defScope s_moves_of, [], []⟩) rfl
  have F_moves_of : Fun K "moves_of" "moves_of" s_moves_of (He.ga K "moves_of") fd_moves_of := fun_of D_moves_of
  clear D_moves_of
  obtain ⟨fd_Player_init, D_Player_init⟩ := c.d.def_ 40 (d := ⟨("Player", some "__init__"), "__init__", "Player.__init__", defArgs s_Player_init, defBody s_Player_init, defScope s_Player_init, [], []⟩) rfl
  have F_Player_init : Fun K "__init__" "Player.__init__" s_Player_init (He.ma K (He.ga K "Player") "__init__") fd_Player_init := fun_of D_Player_init
  clear D_Player_init
  obtain ⟨fd_Player_number, D_Player_number⟩ := c.d.def_ 41 (d := ⟨("Player", some "number"), "number", "Player.number", defArgs s_Player_number, defBody s_Player_number, defScope s_Player_number, [], []⟩) rfl
  have F_Player_number : Fun K "number" "Player.number" s_Player_number (He.ma K (He.ga K "Player") "number") fd_Player_number := fun_of D_Player_number
  clear D_Player_number
  obtain ⟨fd_heap_number, D_heap_number⟩ := c.d.def_ 42 (d := ⟨("heap_number", none), "heap_number", "heap_number", defArgs s_heap_number, defBody s_heap_number, defScope s_heap_number, [], []⟩) rfl
  have F_heap_number : Fun K "heap_number" "heap_number" s_heap_number (He.ga K "heap_number") fd_heap_number := fun_of D_heap_number
  clear D_heap_number
  obtain ⟨fd_lost, D_lost⟩ := c.d.def_ 43 (d := ⟨("lost", none), "lost", "lost", defArgs s_lost, defBody s_lost, defScope s_lost, [], []⟩) rfl
  have F_lost : Fun K "lost" "lost" s_lost (He.ga K "lost") fd_lost := fun_of D_lost
  clear D_lost
  obtain ⟨fd_law_hand, D_law_hand⟩ := c.d.def_ 44 (d := ⟨("_law_hand", none), "_law_hand", "_law_hand", defArgs s_law_hand, defBody s_law_hand, defScope s_law_hand, [], []⟩) rfl
  have F_law_hand : Fun K "_law_hand" "_law_hand" s_law_hand (He.ga K "_law_hand") fd_law_hand := fun_of D_law_hand
  clear D_law_hand
  obtain ⟨fd_law_draw, D_law_draw⟩ := c.d.def_ 45 (d := ⟨("_law_draw", none), "_law_draw", "_law_draw", defArgs s_law_draw, defBody s_law_draw, defScope s_law_draw, [], []⟩) rfl
  have F_law_draw : Fun K "_law_draw" "_law_draw" s_law_draw (He.ga K "_law_draw") fd_law_draw := fun_of D_law_draw
  clear D_law_draw
  obtain ⟨fd_law_any, D_law_any⟩ := c.d.def_ 46 (d := ⟨("_law_any", none), "_law_any", "_law_any", defArgs s_law_any, defBody s_law_any, defScope s_law_any, [], []⟩) rfl
  have F_law_any : Fun K "_law_any" "_law_any" s_law_any (He.ga K "_law_any") fd_law_any := fun_of D_law_any
  clear D_law_any
  obtain ⟨fd_law_is, D_law_is⟩ := c.d.def_ 47 (d := ⟨("_law_is", none), "_law_is", "_law_is", defArgs s_law_is, defBody s_law_is, defScope s_law_is, [], []⟩) rfl
  have F_law_is : Fun K "_law_is" "_law_is" s_law_is (He.ga K "_law_is") fd_law_is := fun_of D_law_is
  clear D_law_is
  obtain ⟨fd_law_lots, D_law_lots⟩ := c.d.def_ 48 (d := ⟨("_law_lots", none), "_law_lots", "_law_lots", defArgs s_law_lots, defBody s_law_lots, defScope s_law_lots, [], []⟩) rfl
  have F_law_lots : Fun K "_law_lots" "_law_lots" s_law_lots (He.ga K "_law_lots") fd_law_lots := fun_of D_law_lots
  clear D_law_lots
  obtain ⟨fd_law_in, D_law_in⟩ := c.d.def_ 49 (d := ⟨("_law_in", none), "_law_in", "_law_in", defArgs s_law_in, defBody s_law_in, defScope s_law_in, [], []⟩) rfl
  have F_law_in : Fun K "_law_in" "_law_in" s_law_in (He.ga K "_law_in") fd_law_in := fun_of D_law_in
  clear D_law_in
  obtain ⟨fd_law_family, D_law_family⟩ := c.d.def_ 50 (d := ⟨("_law_family", none), "_law_family", "_law_family", defArgs s_law_family, defBody s_law_family, defScope s_law_family, [], []⟩) rfl
  have F_law_family : Fun K "_law_family" "_law_family" s_law_family (He.ga K "_law_family") fd_law_family := fun_of D_law_family
  clear D_law_family
  obtain ⟨fd_law_number, D_law_number⟩ := c.d.def_ 51 (d := ⟨("_law_number", none), "_law_number", "_law_number", defArgs s_law_number, defBody s_law_number, defScope s_law_number, [], []⟩) rfl
  have F_law_number : Fun K "_law_number" "_law_number" s_law_number (He.ga K "_law_number") fd_law_number := fun_of D_law_number
  clear D_law_number
  obtain ⟨fd_law_carry, D_law_carry⟩ := c.d.def_ 52 (d := ⟨("_law_carry", none), "_law_carry", "_law_carry", defArgs s_law_carry, defBody s_law_carry, defScope s_law_carry, [], []⟩) rfl
  have F_law_carry : Fun K "_law_carry" "_law_carry" s_law_carry (He.ga K "_law_carry") fd_law_carry := fun_of D_law_carry
  clear D_law_carry
  obtain ⟨fd_law, D_law⟩ := c.d.def_ 53 (d := ⟨("law", none), "law", "law", defArgs s_law, defBody s_law, defScope s_law, [], []⟩) rfl
  have F_law : Fun K "law" "law" s_law (He.ga K "law") fd_law := fun_of D_law
  clear D_law
  obtain ⟨t_GREATEST_HEAP, g_GREATEST_HEAP⟩ := He.int_ok X G0 (c.d.fact 0 (f := .int "GREATEST_HEAP" 4) rfl)
  obtain ⟨t_MOST_BITTEN, g_MOST_BITTEN⟩ := He.int_ok X G0 (c.d.fact 1 (f := .int "MOST_BITTEN" 5) rfl)
  obtain ⟨t_MOST_POINTS, g_MOST_POINTS⟩ := He.int_ok X G0 (c.d.fact 2 (f := .int "MOST_POINTS" 7) rfl)
  obtain ⟨t_MOST_POSITIONS, g_MOST_POSITIONS⟩ := He.int_ok X G0 (c.d.fact 3 (f := .int "MOST_POSITIONS" 400) rfl)
  have e := hfa.symm.trans (He.glo_ok X G0 (c.d.fact 4 (f := .glo "law") rfl))
  cases e
  refine ⟨fd_law, fun s v => fun_bindsA F_law (ps := ["script"]) (fun _ _ _ _ _ _ us hl => match us, hl with | [_], _ => rfl) s [v] rfl, fun base _ _ => ?_⟩
  have T : Tx P w K mg base (gen P w K) := tx X G0 c
  have c_is_integer : C8.Cal P w K mg base 2 "is_integer" (spF (gen P w K) [.ro] m_is_integer) [] := ⟨_, fd_is_integer, ["thing"], [], ok_is_integer F_is_integer T, He.glo_ok X G0 (c.d.fact 32 (f := .glo "is_integer") rfl), F_is_integer.kp, (F_is_integer.binds (fun _ _ _ _ _ _ us hl => match us, hl with | [_], _ => rfl)), .nil⟩
  have c_is_within : C8.Cal P w K mg base 4 "is_within" (spF (gen P w K) [.ro, .ro, .ro] m_is_within) [] := ⟨_, fd_is_within, ["thing", "low", "high"], [], ok_is_within F_is_within T c_is_integer, He.glo_ok X G0 (c.d.fact 33 (f := .glo "is_within") rfl), F_is_within.kp, (F_is_within.binds (fun _ _ _ _ _ _ us hl => match us, hl with | [_, _, _], _ => rfl)), .nil⟩
  have c_is_tuple : C8.Cal P w K mg base 2 "is_tuple" (spF (gen P w K) [.ro, .ro, .ro] m_is_tuple) [] := ⟨_, fd_is_tuple, ["thing", "least", "most"], [], ok_is_tuple F_is_tuple T, He.glo_ok X G0 (c.d.fact 34 (f := .glo "is_tuple") rfl), F_is_tuple.kp, (F_is_tuple.binds (fun _ _ _ _ _ _ us hl => match us, hl with | [_, _, _], _ => rfl)), .nil⟩
  have c_is_lot : C8.Cal P w K mg base 6 "is_lot" (spF (gen P w K) [.ro, .ro] m_is_lot) [] := ⟨_, fd_is_lot, ["thing", "many"], [], ok_is_lot F_is_lot T c_is_within, He.glo_ok X G0 (c.d.fact 35 (f := .glo "is_lot") rfl), F_is_lot.kp, (F_is_lot.binds (fun _ _ _ _ _ _ us hl => match us, hl with | [_, _], _ => rfl)), .nil⟩
  have c_is_count : C8.Cal P w K mg base 6 "is_count" (spF (gen P w K) [.ro] m_is_count) [] := ⟨_, fd_is_count, ["thing"], [], ok_is_count F_is_count T g_MOST_POINTS ⟨t_MOST_POINTS, rfl⟩ c_is_within, He.glo_ok X G0 (c.d.fact 36 (f := .glo "is_count") rfl), F_is_count.kp, (F_is_count.binds (fun _ _ _ _ _ _ us hl => match us, hl with | [_], _ => rfl)), .nil⟩
  have c_check_count : C8.Cal P w K mg base 8 "check_count" (spF (gen P w K) [.ro] m_check_count) [] := ⟨_, fd_check_count, ["points"], [], ok_check_count F_check_count T c_is_count, He.glo_ok X G0 (c.d.fact 37 (f := .glo "check_count") rfl), F_check_count.kp, (F_check_count.binds (fun _ _ _ _ _ _ us hl => match us, hl with | [_], _ => rfl)), .nil⟩
  have c_is_lot_of : C8.Cal P w K mg base 8 "is_lot_of" (spF (gen P w K) [.ro, .ro] m_is_lot_of) [] := ⟨_, fd_is_lot_of, ["points", "thing"], [], ok_is_lot_of F_is_lot_of T c_is_lot, He.glo_ok X G0 (c.d.fact 38 (f := .glo "is_lot_of") rfl), F_is_lot_of.kp, (F_is_lot_of.binds (fun _ _ _ _ _ _ us hl => match us, hl with | [_, _], _ => rfl)), .nil⟩
  have c_are_lots : C8.Cal P w K mg base 10 "are_lots" (spF (gen P w K) [.ro, .ro] m_are_lots) [] := ⟨_, fd_are_lots, ["points", "thing"], [], ok_are_lots F_are_lots T c_is_lot_of, He.glo_ok X G0 (c.d.fact 39 (f := .glo "are_lots") rfl), F_are_lots.kp, (F_are_lots.binds (fun _ _ _ _ _ _ us hl => match us, hl with | [_, _], _ => rfl)), .nil⟩
  have c_Family_init : C8.Mak P w K mg base 12 "Family" ((gen P w K).cls 0) (spF (gen P w K) [.io, .ro, .ro] m_Family_init) [] := ⟨_, fd_Family_init, ["self", "points", "lots"], [], He.mkr_ok (c.d.fact 40 (f := .mkr "Family") rfl), ok_Family_init F_Family_init T c_is_count c_are_lots, He.glo_ok X G0 (c.d.fact 24 (f := .glo "Family") rfl), (F_Family_init.binds (fun _ _ _ _ _ _ us hl => match us, hl with | [_, _, _], _ => rfl)), .nil⟩
  have c_Family_eq : C8.Met P w K mg base 2 (gen P w K).famC "__eq__" (spF (gen P w K) [.ro, .ro] m_Family_eq) [] := ⟨_, fd_Family_eq, ["self", "other"], [], He.cls_ok (c.d.fact 20 (f := .cls "Family") rfl), He.meth_ok (c.d.fact 41 (f := .meth "Family" "__eq__") rfl), ok_Family_eq F_Family_eq T, (F_Family_eq.binds (fun _ _ _ _ _ _ us hl => match us, hl with | [_, _], _ => rfl)), .nil⟩
  have c_Family_there : C8.Met P w K mg base 2 (gen P w K).famC "there" (spF (gen P w K) [.ro] m_Family_there) [] := ⟨_, fd_Family_there, ["self"], [], He.cls_ok (c.d.fact 20 (f := .cls "Family") rfl), He.meth_ok (c.d.fact 42 (f := .meth "Family" "there") rfl), ok_Family_there F_Family_there T (hm_there P w K), (F_Family_there.binds (fun _ _ _ _ _ _ us hl => match us, hl with | [_], _ => rfl)), .nil⟩
  have c_made : C8.Cal P w K mg base 14 "made" (spF (gen P w K) [.ro, .ro] m_made) [] := ⟨_, fd_made, ["points", "lots"], [], ok_made F_made T c_Family_init, He.glo_ok X G0 (c.d.fact 43 (f := .glo "made") rfl), F_made.kp, (F_made.binds (fun _ _ _ _ _ _ us hl => match us, hl with | [_, _], _ => rfl)), .nil⟩
  have c_lot_of : C8.Cal P w K mg base 2 "lot_of" (spF (gen P w K) [.mv] m_lot_of) [] := ⟨_, fd_lot_of, ["number"], [], ok_lot_of F_lot_of T, He.glo_ok X G0 (c.d.fact 44 (f := .glo "lot_of") rfl), F_lot_of.kp, (F_lot_of.binds (fun _ _ _ _ _ _ us hl => match us, hl with | [_], _ => rfl)), .nil⟩
  have c_lots_of : C8.Cal P w K mg base 4 "lots_of" (spF (gen P w K) [.ro] m_lots_of) [] := ⟨_, fd_lots_of, ["points"], [], ok_lots_of F_lots_of T c_lot_of, He.glo_ok X G0 (c.d.fact 45 (f := .glo "lots_of") rfl), F_lots_of.kp, (F_lots_of.binds (fun _ _ _ _ _ _ us hl => match us, hl with | [_], _ => rfl)), .nil⟩
  have c_is_inside : C8.Cal P w K mg base 2 "is_inside" (spF (gen P w K) [.ro, .ro] m_is_inside) [] := ⟨_, fd_is_inside, ["one", "other"], [], ok_is_inside F_is_inside T, He.glo_ok X G0 (c.d.fact 46 (f := .glo "is_inside") rfl), F_is_inside.kp, (F_is_inside.binds (fun _ _ _ _ _ _ us hl => match us, hl with | [_, _], _ => rfl)), .nil⟩
  have c_without_one : C8.Cal P w K mg base 2 "without_one" (spF (gen P w K) [.ro, .ro] m_without_one) [] := ⟨_, fd_without_one, ["lot", "point"], [], ok_without_one F_without_one T, He.glo_ok X G0 (c.d.fact 47 (f := .glo "without_one") rfl), F_without_one.kp, (F_without_one.binds (fun _ _ _ _ _ _ us hl => match us, hl with | [_, _], _ => rfl)), .nil⟩
  have c_all_of : C8.Cal P w K mg base 16 "all_of" (spF (gen P w K) [.ro] m_all_of) [] := ⟨_, fd_all_of, ["points"], [], ok_all_of F_all_of T c_check_count c_made c_lots_of, He.glo_ok X G0 (c.d.fact 48 (f := .glo "all_of") rfl), F_all_of.kp, (F_all_of.binds (fun _ _ _ _ _ _ us hl => match us, hl with | [_], _ => rfl)), .nil⟩
  have c_lower_lots : C8.Cal P w K mg base 6 "lower_lots" (spF (gen P w K) [.ro, .ro] m_lower_lots) [] := ⟨_, fd_lower_lots, ["points", "lots"], [], ok_lower_lots F_lower_lots T c_is_inside c_lots_of, He.glo_ok X G0 (c.d.fact 49 (f := .glo "lower_lots") rfl), F_lower_lots.kp, (F_lower_lots.binds (fun _ _ _ _ _ _ us hl => match us, hl with | [_, _], _ => rfl)), .nil⟩
  have c_lower : C8.Cal P w K mg base 16 "lower" (spF (gen P w K) [.ro] m_lower) [] := ⟨_, fd_lower, ["family"], [], ok_lower F_lower T c_made c_lower_lots, He.glo_ok X G0 (c.d.fact 50 (f := .glo "lower") rfl), F_lower.kp, (F_lower.binds (fun _ _ _ _ _ _ us hl => match us, hl with | [_], _ => rfl)), .nil⟩
  have c_is_lower : C8.Cal P w K mg base 4 "is_lower" (spF (gen P w K) [.ro] m_is_lower) [] := ⟨_, fd_is_lower, ["family"], [], ok_is_lower F_is_lower T c_without_one c_Family_there, He.glo_ok X G0 (c.d.fact 51 (f := .glo "is_lower") rfl), F_is_lower.kp, (F_is_lower.binds (fun _ _ _ _ _ _ us hl => match us, hl with | [_], _ => rfl)), .nil⟩
  have c_check_complex : C8.Cal P w K mg base 6 "check_complex" (spF (gen P w K) [.ro] m_check_complex) [] := ⟨_, fd_check_complex, ["family"], [], ok_check_complex F_check_complex T (hm_complex P w K) c_is_lower, He.glo_ok X G0 (c.d.fact 52 (f := .glo "check_complex") rfl), F_check_complex.kp, (F_check_complex.binds (fun _ _ _ _ _ _ us hl => match us, hl with | [_], _ => rfl)), .nil⟩
  have c_check_face : C8.Cal P w K mg base 10 "check_face" (spF (gen P w K) [.ro, .ro] m_check_face) [] := ⟨_, fd_check_face, ["family", "lot"], [], ok_check_face F_check_face T c_check_complex c_is_lot_of c_Family_there, He.glo_ok X G0 (c.d.fact 53 (f := .glo "check_face") rfl), F_check_face.kp, (F_check_face.binds (fun _ _ _ _ _ _ us hl => match us, hl with | [_, _], _ => rfl)), .nil⟩
  have c_without_star : C8.Cal P w K mg base 16 "without_star" (spF (gen P w K) [.ro, .ro] m_without_star) [] := ⟨_, fd_without_star, ["family", "lot"], [], ok_without_star F_without_star T c_check_face c_made c_is_inside, He.glo_ok X G0 (c.d.fact 54 (f := .glo "without_star") rfl), F_without_star.kp, (F_without_star.binds (fun _ _ _ _ _ _ us hl => match us, hl with | [_, _], _ => rfl)), .nil⟩
  have c_faces_to_bite : C8.Cal P w K mg base 2 "faces_to_bite" (spF (gen P w K) [.ro] m_faces_to_bite) [] := ⟨_, fd_faces_to_bite, ["lots"], [], ok_faces_to_bite F_faces_to_bite T, He.glo_ok X G0 (c.d.fact 55 (f := .glo "faces_to_bite") rfl), F_faces_to_bite.kp, (F_faces_to_bite.binds (fun _ _ _ _ _ _ us hl => match us, hl with | [_], _ => rfl)), .nil⟩
  have c_behind : C8.Cal P w K mg base 4 "behind" (spF (gen P w K) [.ro, .ro] m_behind) [] := ⟨_, fd_behind, ["lots", "face"], [], ok_behind F_behind T c_is_inside, He.glo_ok X G0 (c.d.fact 56 (f := .glo "behind") rfl), F_behind.kp, (F_behind.binds (fun _ _ _ _ _ _ us hl => match us, hl with | [_, _], _ => rfl)), .nil⟩
  have c_bites : C8.Cal P w K mg base 8 "bites" (spF (gen P w K) [.ro] m_bites) [] := ⟨_, fd_bites, ["family"], [], ok_bites F_bites T c_check_complex c_faces_to_bite, He.glo_ok X G0 (c.d.fact 57 (f := .glo "bites") rfl), F_bites.kp, (F_bites.binds (fun _ _ _ _ _ _ us hl => match us, hl with | [_], _ => rfl)), .nil⟩
  have c_bitten : C8.Cal P w K mg base 16 "bitten" (spF (gen P w K) [.ro, .ro] m_bitten) [] := ⟨_, fd_bitten, ["family", "lot"], [], ok_bitten F_bitten T c_check_face c_made c_behind, He.glo_ok X G0 (c.d.fact 58 (f := .glo "bitten") rfl), F_bitten.kp, (F_bitten.binds (fun _ _ _ _ _ _ us hl => match us, hl with | [_, _], _ => rfl)), .nil⟩
  have c_Biter_init : C8.Mak P w K mg base 2 "Biter" ((gen P w K).cls 1) (spF (gen P w K) [.io] m_Biter_init) [] := ⟨_, fd_Biter_init, ["self"], [], He.mkr_ok (c.d.fact 59 (f := .mkr "Biter") rfl), ok_Biter_init F_Biter_init T, He.glo_ok X G0 (c.d.fact 60 (f := .glo "Biter") rfl), (F_Biter_init.binds (fun _ _ _ _ _ _ us hl => match us, hl with | [_], _ => rfl)), .nil⟩
  have r_Biter_number : ∀ n, FnOk P w K mg base L2.CX0 (6 + n) (He.ma K (He.ga K "Biter") "number") fd_Biter_number ["self", "lots"] (spF (gen P w K) [.io, .ro] (m_Biter_number n)) := by
    intro n
    induction n with
    | zero => exact void_ok
    | succ n ih => exact ok_Biter_number F_Biter_number T c_behind c_faces_to_bite n ⟨_, fd_Biter_number, ["self", "lots"], [], He.cls_ok (c.d.fact 25 (f := .cls "Biter") rfl), He.meth_ok (c.d.fact 61 (f := .meth "Biter" "number") rfl), ih, (F_Biter_number.binds (fun _ _ _ _ _ _ us hl => match us, hl with | [_, _], _ => rfl)), .nil⟩
  have c_Biter_number : C8.Met P w K mg base 66 ((gen P w K).cls 1) "number" (spF (gen P w K) [.io, .ro] (m_Biter_number 60)) [] := ⟨_, fd_Biter_number, ["self", "lots"], [], He.cls_ok (c.d.fact 25 (f := .cls "Biter") rfl), He.meth_ok (c.d.fact 61 (f := .meth "Biter" "number") rfl), r_Biter_number 60, (F_Biter_number.binds (fun _ _ _ _ _ _ us hl => match us, hl with | [_, _], _ => rfl)), .nil⟩
  have c_Winner_init : C8.Mak P w K mg base 2 "Winner" ((gen P w K).cls 2) (spF (gen P w K) [.io] m_Winner_init) [] := ⟨_, fd_Winner_init, ["self"], [], He.mkr_ok (c.d.fact 62 (f := .mkr "Winner") rfl), ok_Winner_init F_Winner_init T, He.glo_ok X G0 (c.d.fact 63 (f := .glo "Winner") rfl), (F_Winner_init.binds (fun _ _ _ _ _ _ us hl => match us, hl with | [_], _ => rfl)), .nil⟩
  have r_Winner_wins : ∀ n, FnOk P w K mg base L2.CX0 (6 + n) (He.ma K (He.ga K "Winner") "wins") fd_Winner_wins ["self", "lots"] (spF (gen P w K) [.io, .ro] (m_Winner_wins n)) := by
    intro n
    induction n with
    | zero => exact void_ok
    | succ n ih => exact ok_Winner_wins F_Winner_wins T c_faces_to_bite c_behind n ⟨_, fd_Winner_wins, ["self", "lots"], [], He.cls_ok (c.d.fact 27 (f := .cls "Winner") rfl), He.meth_ok (c.d.fact 64 (f := .meth "Winner" "wins") rfl), ih, (F_Winner_wins.binds (fun _ _ _ _ _ _ us hl => match us, hl with | [_, _], _ => rfl)), .nil⟩
  have c_Winner_wins : C8.Met P w K mg base 66 ((gen P w K).cls 2) "wins" (spF (gen P w K) [.io, .ro] (m_Winner_wins 60)) [] := ⟨_, fd_Winner_wins, ["self", "lots"], [], He.cls_ok (c.d.fact 27 (f := .cls "Winner") rfl), He.meth_ok (c.d.fact 64 (f := .meth "Winner" "wins") rfl), r_Winner_wins 60, (F_Winner_wins.binds (fun _ _ _ _ _ _ us hl => match us, hl with | [_, _], _ => rfl)), .nil⟩
  have c_check_few : C8.Cal P w K mg base 8 "check_few" (spF (gen P w K) [.ro] m_check_few) [] := ⟨_, fd_check_few, ["family"], [], ok_check_few F_check_few T g_MOST_BITTEN ⟨t_MOST_BITTEN, rfl⟩ c_check_complex, He.glo_ok X G0 (c.d.fact 65 (f := .glo "check_few") rfl), F_check_few.kp, (F_check_few.binds (fun _ _ _ _ _ _ us hl => match us, hl with | [_], _ => rfl)), .nil⟩
  have c_first_bites_last : C8.Cal P w K mg base 68 "first_bites_last" (spF (gen P w K) [.ro] m_first_bites_last) [] := ⟨_, fd_first_bites_last, ["family"], [], ok_first_bites_last F_first_bites_last T c_check_few c_Winner_wins c_Winner_init, He.glo_ok X G0 (c.d.fact 66 (f := .glo "first_bites_last") rfl), F_first_bites_last.kp, (F_first_bites_last.binds (fun _ _ _ _ _ _ us hl => match us, hl with | [_], _ => rfl)), .nil⟩
  have c_good_bite : C8.Cal P w K mg base 68 "good_bite" (spF (gen P w K) [.ro] m_good_bite) [] := ⟨_, fd_good_bite, ["family"], [], ok_good_bite F_good_bite T c_check_few c_Winner_init c_Winner_wins c_behind c_faces_to_bite, He.glo_ok X G0 (c.d.fact 67 (f := .glo "good_bite") rfl), F_good_bite.kp, (F_good_bite.binds (fun _ _ _ _ _ _ us hl => match us, hl with | [_], _ => rfl)), .nil⟩
  have c_bite_number : C8.Cal P w K mg base 68 "bite_number" (spF (gen P w K) [.ro] m_bite_number) [] := ⟨_, fd_bite_number, ["family"], [], ok_bite_number F_bite_number T c_check_few c_Biter_number c_Biter_init, He.glo_ok X G0 (c.d.fact 68 (f := .glo "bite_number") rfl), F_bite_number.kp, (F_bite_number.binds (fun _ _ _ _ _ _ us hl => match us, hl with | [_], _ => rfl)), .nil⟩
  have c_positions_below : C8.Cal P w K mg base 2 "positions_below" (spF (gen P w K) [.ro] m_positions_below) [] := ⟨_, fd_positions_below, ["heaps"], [], ok_positions_below F_positions_below T, He.glo_ok X G0 (c.d.fact 69 (f := .glo "positions_below") rfl), F_positions_below.kp, (F_positions_below.binds (fun _ _ _ _ _ _ us hl => match us, hl with | [_], _ => rfl)), .nil⟩
  have c_are_heaps : C8.Cal P w K mg base 6 "are_heaps" (spF (gen P w K) [.ro, .ro] m_are_heaps) [] := ⟨_, fd_are_heaps, ["points", "thing"], [], ok_are_heaps F_are_heaps T g_GREATEST_HEAP ⟨t_GREATEST_HEAP, rfl⟩ g_MOST_POSITIONS ⟨t_MOST_POSITIONS, rfl⟩ c_is_tuple c_is_within c_positions_below, He.glo_ok X G0 (c.d.fact 70 (f := .glo "are_heaps") rfl), F_are_heaps.kp, (F_are_heaps.binds (fun _ _ _ _ _ _ us hl => match us, hl with | [_, _], _ => rfl)), .nil⟩
  have c_check_heaps : C8.Cal P w K mg base 8 "check_heaps" (spF (gen P w K) [.ro, .ro] m_check_heaps) [] := ⟨_, fd_check_heaps, ["family", "heaps"], [], ok_check_heaps F_check_heaps T c_check_complex c_are_heaps, He.glo_ok X G0 (c.d.fact 71 (f := .glo "check_heaps") rfl), F_check_heaps.kp, (F_check_heaps.binds (fun _ _ _ _ _ _ us hl => match us, hl with | [_, _], _ => rfl)), .nil⟩
  have c_lessened : C8.Cal P w K mg base 2 "lessened" (spF (gen P w K) [.ro, .ro] m_lessened) [] := ⟨_, fd_lessened, ["heaps", "lot"], [], ok_lessened F_lessened T, He.glo_ok X G0 (c.d.fact 72 (f := .glo "lessened") rfl), F_lessened.kp, (F_lessened.binds (fun _ _ _ _ _ _ us hl => match us, hl with | [_, _], _ => rfl)), .nil⟩
  have c_moves_of : C8.Cal P w K mg base 4 "moves_of" (spF (gen P w K) [.ro, .ro] m_moves_of) [] := ⟨_, fd_moves_of, ["family", "heaps"], [], ok_moves_of F_moves_of T c_lessened, He.glo_ok X G0 (c.d.fact 73 (f := .glo "moves_of") rfl), F_moves_of.kp, (F_moves_of.binds (fun _ _ _ _ _ _ us hl => match us, hl with | [_, _], _ => rfl)), .nil⟩
  have c_Player_init : C8.Mak P w K mg base 2 "Player" ((gen P w K).cls 3) (spF (gen P w K) [.io, .ro] m_Player_init) [] := ⟨_, fd_Player_init, ["self", "family"], [], He.mkr_ok (c.d.fact 74 (f := .mkr "Player") rfl), ok_Player_init F_Player_init T, He.glo_ok X G0 (c.d.fact 75 (f := .glo "Player") rfl), (F_Player_init.binds (fun _ _ _ _ _ _ us hl => match us, hl with | [_, _], _ => rfl)), .nil⟩
  have r_Player_number : ∀ n, FnOk P w K mg base L2.CX0 (6 + n) (He.ma K (He.ga K "Player") "number") fd_Player_number ["self", "heaps"] (spF (gen P w K) [.io, .ro] (m_Player_number n)) := by
    intro n
    induction n with
    | zero => exact void_ok
    | succ n ih => exact ok_Player_number F_Player_number T c_moves_of n ⟨_, fd_Player_number, ["self", "heaps"], [], He.cls_ok (c.d.fact 29 (f := .cls "Player") rfl), He.meth_ok (c.d.fact 76 (f := .meth "Player" "number") rfl), ih, (F_Player_number.binds (fun _ _ _ _ _ _ us hl => match us, hl with | [_, _], _ => rfl)), .nil⟩
  have c_Player_number : C8.Met P w K mg base 66 ((gen P w K).cls 3) "number" (spF (gen P w K) [.io, .ro] (m_Player_number 60)) [] := ⟨_, fd_Player_number, ["self", "heaps"], [], He.cls_ok (c.d.fact 29 (f := .cls "Player") rfl), He.meth_ok (c.d.fact 76 (f := .meth "Player" "number") rfl), r_Player_number 60, (F_Player_number.binds (fun _ _ _ _ _ _ us hl => match us, hl with | [_, _], _ => rfl)), .nil⟩
  have c_heap_number : C8.Cal P w K mg base 68 "heap_number" (spF (gen P w K) [.ro, .ro] m_heap_number) [] := ⟨_, fd_heap_number, ["family", "heaps"], [], ok_heap_number F_heap_number T c_check_heaps c_Player_number c_Player_init, He.glo_ok X G0 (c.d.fact 77 (f := .glo "heap_number") rfl), F_heap_number.kp, (F_heap_number.binds (fun _ _ _ _ _ _ us hl => match us, hl with | [_, _], _ => rfl)), .nil⟩
  have c_lost : C8.Cal P w K mg base 68 "lost" (spF (gen P w K) [.ro, .ro] m_lost) [] := ⟨_, fd_lost, ["family", "heaps"], [], ok_lost F_lost T c_check_heaps c_Player_number c_Player_init, He.glo_ok X G0 (c.d.fact 78 (f := .glo "lost") rfl), F_lost.kp, (F_lost.binds (fun _ _ _ _ _ _ us hl => match us, hl with | [_, _], _ => rfl)), .nil⟩
  have c_law_hand : C8.Cal P w K mg base 2 "_law_hand" (spF (gen P w K) [.ro] m_law_hand) [] := ⟨_, fd_law_hand, ["script"], [], ok_law_hand F_law_hand T, He.glo_ok X G0 (c.d.fact 79 (f := .glo "_law_hand") rfl), F_law_hand.kp, (F_law_hand.binds (fun _ _ _ _ _ _ us hl => match us, hl with | [_], _ => rfl)), .nil⟩
  have c_law_draw : C8.Cal P w K mg base 2 "_law_draw" (spF (gen P w K) [.io, .ro] m_law_draw) [] := ⟨_, fd_law_draw, ["hand", "sides"], [], ok_law_draw F_law_draw T, He.glo_ok X G0 (c.d.fact 80 (f := .glo "_law_draw") rfl), F_law_draw.kp, (F_law_draw.binds (fun _ _ _ _ _ _ us hl => match us, hl with | [_, _], _ => rfl)), .nil⟩
  have c_law_any : C8.Cal P w K mg base 4 "_law_any" (spF (gen P w K) [.io, .ro] m_law_any) [] := ⟨_, fd_law_any, ["hand", "things"], [], ok_law_any F_law_any T c_law_draw, He.glo_ok X G0 (c.d.fact 81 (f := .glo "_law_any") rfl), F_law_any.kp, (F_law_any.binds (fun _ _ _ _ _ _ us hl => match us, hl with | [_, _], _ => rfl)), .nil⟩
  have c_law_is : C8.Cal P w K mg base 2 "_law_is" (spF (gen P w K) [.ro, .ro] m_law_is) [] := ⟨_, fd_law_is, ["told", "due"], [], ok_law_is F_law_is T, He.glo_ok X G0 (c.d.fact 82 (f := .glo "_law_is") rfl), F_law_is.kp, (F_law_is.binds (fun _ _ _ _ _ _ us hl => match us, hl with | [_, _], _ => rfl)), .nil⟩
  have c_law_lots : C8.Cal P w K mg base 2 "_law_lots" (spF (gen P w K) [.ro] m_law_lots) [] := ⟨_, fd_law_lots, ["points"], [], ok_law_lots F_law_lots T, He.glo_ok X G0 (c.d.fact 83 (f := .glo "_law_lots") rfl), F_law_lots.kp, (F_law_lots.binds (fun _ _ _ _ _ _ us hl => match us, hl with | [_], _ => rfl)), .nil⟩
  have c_law_in : C8.Cal P w K mg base 2 "_law_in" (spF (gen P w K) [.ro, .ro] m_law_in) [] := ⟨_, fd_law_in, ["one", "other"], [], ok_law_in F_law_in T, He.glo_ok X G0 (c.d.fact 84 (f := .glo "_law_in") rfl), F_law_in.kp, (F_law_in.binds (fun _ _ _ _ _ _ us hl => match us, hl with | [_, _], _ => rfl)), .nil⟩
  have c_law_family : C8.Cal P w K mg base 4 "_law_family" (spF (gen P w K) [.io, .ro] m_law_family) [] := ⟨_, fd_law_family, ["hand", "points"], [], ok_law_family F_law_family T c_law_lots c_law_draw c_law_in, He.glo_ok X G0 (c.d.fact 85 (f := .glo "_law_family") rfl), F_law_family.kp, (F_law_family.binds (fun _ _ _ _ _ _ us hl => match us, hl with | [_, _], _ => rfl)), .nil⟩
  have r_law_number : ∀ n, FnOk P w K mg base L2.CX0 (4 + n) (He.ga K "_law_number") fd_law_number ["lots", "kept"] (spF (gen P w K) [.ro, .io] (m_law_number n)) := by
    intro n
    induction n with
    | zero => exact void_ok
    | succ n ih => exact ok_law_number F_law_number T c_law_in n ⟨_, fd_law_number, ["lots", "kept"], [], ih, He.glo_ok X G0 (c.d.fact 86 (f := .glo "_law_number") rfl), F_law_number.kp, (F_law_number.binds (fun _ _ _ _ _ _ us hl => match us, hl with | [_, _], _ => rfl)), .nil⟩
  have c_law_number : C8.Cal P w K mg base 64 "_law_number" (spF (gen P w K) [.ro, .io] (m_law_number 60)) [] := ⟨_, fd_law_number, ["lots", "kept"], [], r_law_number 60, He.glo_ok X G0 (c.d.fact 86 (f := .glo "_law_number") rfl), F_law_number.kp, (F_law_number.binds (fun _ _ _ _ _ _ us hl => match us, hl with | [_, _], _ => rfl)), .nil⟩
  have c_law_carry : C8.Cal P w K mg base 2 "_law_carry" (spF (gen P w K) [.mv, .mv] m_law_carry) [] := ⟨_, fd_law_carry, ["one", "other"], [], ok_law_carry F_law_carry T, He.glo_ok X G0 (c.d.fact 87 (f := .glo "_law_carry") rfl), F_law_carry.kp, (F_law_carry.binds (fun _ _ _ _ _ _ us hl => match us, hl with | [_, _], _ => rfl)), .nil⟩
  exact ok_law F_law T c_law_hand c_bite_number c_Family_init c_first_bites_last c_law_draw c_lower c_law_family c_law_number c_law_is c_without_star c_good_bite c_bites c_law_any c_Family_eq c_bitten c_law_carry c_heap_number c_lost c_all_of
end TL
end
section
set_option maxRecDepth 100000
/-! Bites on a complex, in plain Lean: the least number that is none, sums without carry. No program in sight. -/
namespace TL.Bite
abbrev Lot := List Int
/-- the face lies within the lot -/
def ins (f l : Lot) : Bool := f.all fun i => l.contains i
/-- what is left behind a bite -/
def bh (ls : List Lot) (f : Lot) : List Lot := ls.filter fun l => !ins f l
def fc (ls : List Lot) : List Lot := ls.filter fun l => decide (0 < l.length)
/-- the least number that is none of these -/
def mex (xs : List Nat) : Nat := ((List.range (xs.length + 1)).filter fun n => !xs.contains n).headD 0
theorem pigeon : ∀ (n : Nat) (xs : List Nat), (∀ k, k < n → k ∈ xs) → n ≤ xs.length
  | 0, xs, _ => Nat.zero_le _
  | n + 1, xs, h => by
    have hn := h n (Nat.lt_succ_self n)
    have ih := pigeon n (xs.erase n) fun k hk => (List.mem_erase_of_ne (by omega)).mpr (h k (by omega))
    rw [List.length_erase_of_mem hn] at ih
    have : 0 < xs.length := List.length_pos_of_mem hn
    omega
theorem head_filter_range (p : Nat → Bool) : ∀ (n : Nat), (∃ k, k < n ∧ p k = true) → ∃ m, m < n ∧ ((List.range n).filter p).head? = some m ∧ p m = true ∧ ∀ k, k < m → p k = false
  | 0, ⟨k, h, _⟩ => by omega
  | n + 1, ⟨k, hk, hp⟩ => by
    rw [List.range_succ, List.filter_append]
    by_cases q : ∃ k, k < n ∧ p k = true
    · obtain ⟨m, h1, h2, h3, h4⟩ := head_filter_range p n q
      exact ⟨m, by omega, by rw [List.head?_append, h2]; rfl, h3, h4⟩
    · have hk' : k = n := by
        by_cases z : k < n
        · exact absurd ⟨k, z, hp⟩ q
        · omega
      subst hk'
      have e : (List.range k).filter p = [] := by
        rw [List.filter_eq_nil_iff]
        intro a ha
        rw [List.mem_range] at ha
        exact fun z => q ⟨a, ha, z⟩
      refine ⟨k, by omega, by rw [e]; simp [hp], hp, fun j hj => ?_⟩
      cases z : p j with
      | false => rfl
      | true => exact absurd ⟨j, hj, z⟩ q
theorem mex_spec (xs : List Nat) : mex xs ∉ xs ∧ ∀ k, k < mex xs → k ∈ xs := by
  have ex : ∃ k, k < xs.length + 1 ∧ (!xs.contains k) = true := by
    refine Classical.byContradiction fun q => ?_
    have := pigeon (xs.length + 1) xs fun k hk => by
      refine Classical.byContradiction fun z => q ⟨k, hk, ?_⟩
      simpa using z
    omega
  obtain ⟨m, h1, h2, h3, h4⟩ := head_filter_range (fun n => !xs.contains n) (xs.length + 1) ex
  have e : mex xs = m := by unfold mex; rw [List.headD_eq_head?_getD, h2]; rfl
  rw [e]
  refine ⟨by simpa using h3, fun k hk => by simpa using h4 k hk⟩
theorem mex_uniq {xs : List Nat} {m : Nat} (h1 : m ∉ xs) (h2 : ∀ k, k < m → k ∈ xs) : mex xs = m := by
  obtain ⟨a, b⟩ := mex_spec xs
  rcases Nat.lt_trichotomy (mex xs) m with q | q | q
  · exact absurd (h2 _ q) a
  · exact q
  · exact absurd (b _ q) h1
theorem mex_congr {xs ys : List Nat} (h : ∀ k, k ∈ xs ↔ k ∈ ys) : mex xs = mex ys :=
  mex_uniq (fun q => (mex_spec ys).1 ((h _).mp q)) fun k hk => (h _).mpr ((mex_spec ys).2 k hk)
theorem mex_pos {xs : List Nat} : mex xs ≠ 0 ↔ 0 ∈ xs := by
  constructor
  · intro h
    exact (mex_spec xs).2 0 (by omega)
  · intro h e
    exact (mex_spec xs).1 (e ▸ h)

theorem ins_self (f : Lot) : ins f f = true := by
  unfold ins
  rw [List.all_eq_true]
  intro x hx
  simpa using hx
theorem bh_lt {ls : List Lot} {f : Lot} (h : f ∈ ls) : (bh ls f).length < ls.length := by
  unfold bh
  refine List.length_filter_lt_length_iff_exists.mpr ⟨f, h, ?_⟩
  simp [ins_self]
theorem mem_fc {ls : List Lot} {f : Lot} : f ∈ fc ls ↔ f ∈ ls ∧ f ≠ [] := by
  unfold fc
  rw [List.mem_filter]
  refine and_congr Iff.rfl ?_
  cases f <;> simp
theorem mem_bh {ls : List Lot} {f l : Lot} : l ∈ bh ls f ↔ l ∈ ls ∧ ins f l = false := by
  unfold bh
  rw [List.mem_filter]
  simp
/-- the number of a complex, by n steps -/
def gr : Nat → List Lot → Nat
  | 0, _ => 0
  | n + 1, ls => mex ((fc ls).map fun f => gr n (bh ls f))
theorem gr_any : ∀ (n m : Nat) (ls : List Lot), ls.length ≤ n → ls.length ≤ m → gr n ls = gr m ls
  | 0, 0, ls, _, _ => rfl
  | 0, m + 1, ls, h, _ => by
    have : ls = [] := List.length_eq_zero_iff.mp (by omega)
    subst this; rfl
  | n + 1, 0, ls, _, h => by
    have : ls = [] := List.length_eq_zero_iff.mp (by omega)
    subst this; rfl
  | n + 1, m + 1, ls, h1, h2 => by
    simp only [gr]
    congr 1
    refine List.map_congr_left fun f hf => ?_
    have := bh_lt (mem_fc.mp hf).1
    exact gr_any n m _ (by omega) (by omega)
def g (ls : List Lot) : Nat := gr ls.length ls
theorem g_eq (ls : List Lot) : g ls = mex ((fc ls).map fun f => g (bh ls f)) := by
  have e : g ls = gr (ls.length + 1) ls := gr_any _ _ _ (Nat.le_refl _) (by omega)
  rw [e]
  simp only [gr]
  congr 1
  refine List.map_congr_left fun f hf => ?_
  have := bh_lt (mem_fc.mp hf).1
  exact gr_any _ _ _ (by omega) (by omega)
theorem g_pos {ls : List Lot} : g ls ≠ 0 ↔ ∃ f ∈ fc ls, g (bh ls f) = 0 := by
  rw [g_eq ls, mex_pos, List.mem_map]
theorem g_same : ∀ (n : Nat) (L M : List Lot), L.length ≤ n → (∀ x, x ∈ L ↔ x ∈ M) → g L = g M
  | n, L, M, hn, h => by
    rw [g_eq L, g_eq M]
    have sub : ∀ f, f ∈ fc L ↔ f ∈ fc M := fun f => by rw [mem_fc, mem_fc, h f]
    have val : ∀ f, f ∈ fc L → g (bh L f) = g (bh M f) := fun f hf => by
      have := bh_lt (mem_fc.mp hf).1
      cases n with
      | zero => omega
      | succ n => exact g_same n _ _ (by omega) fun x => by rw [mem_bh, mem_bh, h x]
    refine mex_congr fun k => ?_
    rw [List.mem_map, List.mem_map]
    constructor
    · rintro ⟨f, hf, rfl⟩; exact ⟨f, (sub f).mp hf, (val f hf).symm⟩
    · rintro ⟨f, hf, rfl⟩; exact ⟨f, (sub f).mpr hf, val f ((sub f).mpr hf)⟩
theorem g_set {L M : List Lot} (h : ∀ x, x ∈ L ↔ x ∈ M) : g L = g M := g_same _ L M (Nat.le_refl _) h

/-! ### sums without carry -/
theorem xor_cancel {a b c : Nat} (h : a ^^^ c = b ^^^ c) : a = b := by
  have := congrArg (· ^^^ c) h
  simpa [Nat.xor_assoc] using this
theorem xor_back (k b : Nat) : (k ^^^ b) ^^^ b = k := by simp [Nat.xor_assoc]
theorem xor_mod (a b : Nat) : (a ^^^ b) % 2 = (a + b) % 2 := by
  have h : (a ^^^ b) % 2 ^ 1 = (a % 2 ^ 1) ^^^ (b % 2 ^ 1) := Nat.xor_mod_two_pow
  simp only [Nat.pow_one] at h
  rw [h]
  rcases Nat.mod_two_eq_zero_or_one a with x | x <;> rcases Nat.mod_two_eq_zero_or_one b with y | y <;> rw [x, y] <;> simp <;> omega
theorem nim_lt : ∀ (n k a b : Nat), k ≤ n → k < a ^^^ b → k ^^^ b < a ∨ k ^^^ a < b := by
  intro n
  induction n using Nat.strongRecOn with
  | _ n ih =>
    intro k a b hn h
    have e1 : (a ^^^ b) / 2 = a / 2 ^^^ b / 2 := Nat.xor_div_two
    have e2 : (k ^^^ b) / 2 = k / 2 ^^^ b / 2 := Nat.xor_div_two
    have e3 : (k ^^^ a) / 2 = k / 2 ^^^ a / 2 := Nat.xor_div_two
    have m1 : (a ^^^ b) % 2 = (a + b) % 2 := xor_mod _ _
    have m2 : (k ^^^ b) % 2 = (k + b) % 2 := xor_mod _ _
    have m3 : (k ^^^ a) % 2 = (k + a) % 2 := xor_mod _ _
    by_cases q : k / 2 < (a ^^^ b) / 2
    · rw [e1] at q
      by_cases z : k = 0
      · subst z
        by_cases hab : a < b
        · right; simpa using hab
        · left
          have : a ≠ b := fun e => by subst e; simp at h
          have hlt : b < a := by omega
          simpa using hlt
      · rcases ih (k / 2) (by omega) (k / 2) (a / 2) (b / 2) (Nat.le_refl _) q with r | r
        · left; rw [← e2] at r; omega
        · right; rw [← e3] at r; omega
    · have q2 : k / 2 = (a ^^^ b) / 2 := by omega
      have p : k % 2 < (a ^^^ b) % 2 := by omega
      rw [e1] at q2
      have f2 : (k ^^^ b) / 2 = a / 2 := by rw [e2, q2, xor_back]
      have f3 : (k ^^^ a) / 2 = b / 2 := by rw [e3, q2, Nat.xor_comm (a / 2), xor_back]
      by_cases w : a % 2 = 1
      · left; omega
      · right; omega
theorem mex_xor {xs ys : List Nat} : mex (xs.map (· ^^^ mex ys) ++ ys.map (mex xs ^^^ ·)) = mex xs ^^^ mex ys := by
  obtain ⟨x1, x2⟩ := mex_spec xs
  obtain ⟨y1, y2⟩ := mex_spec ys
  refine mex_uniq (fun h => ?_) fun k hk => ?_
  · rw [List.mem_append, List.mem_map, List.mem_map] at h
    rcases h with ⟨x, hx, e⟩ | ⟨y, hy, e⟩
    · exact x1 (xor_cancel e ▸ hx)
    · rw [Nat.xor_comm, Nat.xor_comm (mex xs)] at e
      exact y1 (xor_cancel e ▸ hy)
  · rw [List.mem_append, List.mem_map, List.mem_map]
    rcases nim_lt k k _ _ (Nat.le_refl _) hk with r | r
    · exact .inl ⟨_, x2 _ r, xor_back _ _⟩
    · refine .inr ⟨_, y2 _ r, ?_⟩
      rw [Nat.xor_comm, xor_back]
/-- no face of one lies within a lot of the other -/
def Apart (A B : List Lot) : Prop := (∀ f ∈ A, f ≠ [] → ∀ l ∈ B, ins f l = false) ∧ (∀ f ∈ B, f ≠ [] → ∀ l ∈ A, ins f l = false)
theorem bh_sub {A : List Lot} {f l : Lot} (h : l ∈ bh A f) : l ∈ A := (mem_bh.mp h).1
theorem g_sum : ∀ (n : Nat) (A B : List Lot), A.length + B.length ≤ n → Apart A B → g (A ++ B) = g A ^^^ g B
  | n, A, B, hn, ap => by
    have hb1 : ∀ f ∈ fc A, bh (A ++ B) f = bh A f ++ B := fun f hf => by
      unfold bh
      rw [List.filter_append]
      congr 1
      rw [List.filter_eq_self]
      intro l hl
      rw [ap.1 f (mem_fc.mp hf).1 (mem_fc.mp hf).2 l hl]; rfl
    have hb2 : ∀ f ∈ fc B, bh (A ++ B) f = A ++ bh B f := fun f hf => by
      unfold bh
      rw [List.filter_append]
      congr 1
      rw [List.filter_eq_self]
      intro l hl
      rw [ap.2 f (mem_fc.mp hf).1 (mem_fc.mp hf).2 l hl]; rfl
    have v1 : ∀ f ∈ fc A, g (bh (A ++ B) f) = g (bh A f) ^^^ g B := fun f hf => by
      have := bh_lt (mem_fc.mp hf).1
      rw [hb1 f hf]
      cases n with
      | zero => omega
      | succ n => exact g_sum n _ _ (by omega) ⟨fun f' h' => ap.1 f' (bh_sub h'), fun f' h' hn' l hl => ap.2 f' h' hn' l (bh_sub hl)⟩
    have v2 : ∀ f ∈ fc B, g (bh (A ++ B) f) = g A ^^^ g (bh B f) := fun f hf => by
      have := bh_lt (mem_fc.mp hf).1
      rw [hb2 f hf]
      cases n with
      | zero => omega
      | succ n => exact g_sum n _ _ (by omega) ⟨fun f' h' hn' l hl => ap.1 f' h' hn' l (bh_sub hl), fun f' h' => ap.2 f' (bh_sub h')⟩
    have ef : fc (A ++ B) = fc A ++ fc B := List.filter_append _ _
    rw [g_eq (A ++ B), ef, List.map_append, List.map_congr_left v1, List.map_congr_left v2]
    have := @mex_xor ((fc A).map fun f => g (bh A f)) ((fc B).map fun f => g (bh B f))
    rw [List.map_map, List.map_map, ← g_eq A, ← g_eq B] at this
    exact this
/-- moved lots have the same number -/
theorem g_map {φ : Lot → Lot} (hi : ∀ f l, ins (φ f) (φ l) = ins f l) (hl : ∀ f, (φ f).length = f.length) : ∀ (n : Nat) (B : List Lot), B.length ≤ n → g (B.map φ) = g B
  | n, B, hn => by
    have ef : fc (B.map φ) = (fc B).map φ := by
      unfold fc
      rw [List.filter_map]
      congr 1
      exact List.filter_congr fun l _ => by simp [hl]
    have eb : ∀ f, bh (B.map φ) (φ f) = (bh B f).map φ := fun f => by
      unfold bh
      rw [List.filter_map]
      congr 1
      exact List.filter_congr fun l _ => by simp [hi]
    rw [g_eq (B.map φ), g_eq B, ef, List.map_map]
    congr 1
    refine List.map_congr_left fun f hf => ?_
    show g (bh (B.map φ) (φ f)) = g (bh B f)
    rw [eb]
    have := bh_lt (mem_fc.mp hf).1
    cases n with
    | zero => omega
    | succ n => exact g_map hi hl n _ (by omega)
/-- of all lots the first wins: the whole is bitten, or what answers it -/
theorem g_whole {L : List Lot} {W : Lot} (h1 : W ∈ L) (h2 : W ≠ []) (h3 : ∀ f ∈ L, ins f W = true) (h4 : ∀ l ∈ L, ins W l = true → l = W) : g L ≠ 0 := by
  intro h
  have no : ∀ f ∈ fc L, g (bh L f) ≠ 0 := fun f hf e => (g_pos.mpr ⟨f, hf, e⟩) h
  have q := no W (mem_fc.mpr ⟨h1, h2⟩)
  obtain ⟨f, hf, e⟩ := g_pos.mp q
  have hf' := mem_fc.mp hf
  have hfL : f ∈ L := bh_sub hf'.1
  have eb : bh (bh L W) f = bh L f := by
    unfold bh
    rw [List.filter_filter]
    refine List.filter_congr fun l hl => ?_
    cases z : ins W l with
    | false => simp
    | true => rw [h4 l hl z, h3 f hfL]; rfl
  rw [eb] at e
  exact no f (mem_fc.mpr ⟨hfL, hf'.2⟩) e
end TL.Bite
end
section
set_option maxRecDepth 100000
/-! The calculus of mirrors: evaluating them step by step. -/
namespace TL
open PySem PySem.Spec PyProof.Rows L2 TL.Bite

/-! ### slots -/
@[simp] theorem slot_s (d : D) (e : List D) (i : Nat) : slot (d :: e) (i + 1) = slot e i := Eq.trans rfl rfl
@[simp] theorem slot_non (e : List D) : slot (.non :: e) 0 = some .non := Eq.trans rfl rfl
@[simp] theorem slot_bl (b : Bool) (e : List D) : slot (.bl b :: e) 0 = some (.bl b) := Eq.trans rfl rfl
@[simp] theorem slot_int (b : Int) (e : List D) : slot (.int b :: e) 0 = some (.int b) := Eq.trans rfl rfl
@[simp] theorem slot_str (b : Str) (e : List D) : slot (.str b :: e) 0 = some (.str b) := Eq.trans rfl rfl
@[simp] theorem slot_tup (b : List D) (e : List D) : slot (.tup b :: e) 0 = some (.tup b) := Eq.trans rfl rfl
@[simp] theorem slot_lst (m : Bool) (b : List D) (e : List D) : slot (.lst m b :: e) 0 = some (.lst m b) := Eq.trans rfl rfl
@[simp] theorem slot_dct (m t : Bool) (b c : List D) (e : List D) : slot (.dct m t b c :: e) 0 = some (.dct m t b c) := Eq.trans rfl rfl
@[simp] theorem slot_ins (m : Bool) (t : Nat) (b : List D) (e : List D) : slot (.ins m t b :: e) 0 = some (.ins m t b) := Eq.trans rfl rfl
@[simp] theorem slot_fam (n : Int) (b : List D) (e : List D) : slot (.fam n b :: e) 0 = some (.fam n b) := Eq.trans rfl rfl
@[simp] theorem slot_scr (n : List Int) (e : List D) : slot (.scr n :: e) 0 = some (.scr n) := Eq.trans rfl rfl
@[simp] theorem slot_lot (k : Lot) (e : List D) : slot (lotD k :: e) 0 = some (lotD k) := Eq.trans rfl rfl
theorem slot_of {d : D} (h : d ≠ .undef) (e : List D) : slot (d :: e) 0 = some d := by
  cases d <;> first | rfl | exact absurd rfl h
/-! ### data -/
abbrev Srt (ls : List Lot) : Prop := ls.Pairwise (fun a b => ltI a b = true)
abbrev lotsT (ls : List Lot) : D := .tup (ls.map lotD)
theorem Srt.nodup {ls : List Lot} (h : Srt ls) : ls.Nodup := h.imp fun {a b} q e => by subst e; rw [ltI_irrefl] at q; cases q
theorem Srt.sortI {ls : List Lot} (h : Srt ls) : sortI ls = ls := pw_eq (sortI_pw ls) h fun x => sortI_mem
theorem Srt.filter {ls : List Lot} (h : Srt ls) (p : Lot → Bool) : Srt (ls.filter p) := List.Pairwise.filter p h
@[simp] theorem imm_ints : ∀ k : List Int, immL (k.map D.int) = true
  | [] => rfl
  | i :: k => by simp [immL, imm, imm_ints k]
@[simp] theorem imm_intsF {α : Type} (f : α → Int) : ∀ k : List α, immL (k.map fun x => D.int (f x)) = true
  | [] => rfl
  | i :: k => by simp [immL, imm, imm_intsF f k]
@[simp] theorem imm_blsF {α : Type} (f : α → Bool) : ∀ k : List α, immL (k.map fun x => D.bl (f x)) = true
  | [] => rfl
  | i :: k => by simp [immL, imm, imm_blsF f k]
theorem immL_map {α : Type} {f : α → D} (h : ∀ x, imm (f x) = true) : ∀ k : List α, immL (k.map f) = true
  | [] => rfl
  | i :: k => by simp [immL, h, immL_map h k]
@[simp] theorem imm_lot (k : Lot) : imm (lotD k) = true := imm_ints k
@[simp] theorem immL_lots (ls : List Lot) : immL (ls.map lotD) = true := immL_map imm_lot ls
@[simp] theorem immL_lotss (ls : List (List Lot)) : immL (ls.map lotsT) = true := immL_map (f := lotsT) (fun x => immL_lots x) ls
@[simp] theorem imm_non : imm .non = true := Eq.trans rfl rfl
@[simp] theorem imm_bl (b : Bool) : imm (.bl b) = true := Eq.trans rfl rfl
@[simp] theorem imm_int (b : Int) : imm (.int b) = true := Eq.trans rfl rfl
@[simp] theorem imm_str (b : Str) : imm (.str b) = true := Eq.trans rfl rfl
@[simp] theorem imm_tup (b : List D) : imm (.tup b) = immL b := Eq.trans rfl rfl
@[simp] theorem imm_lst (m : Bool) (b : List D) : imm (.lst m b) = (!m && immL b) := Eq.trans rfl rfl
@[simp] theorem imm_dct (m t : Bool) (a b : List D) : imm (.dct m t a b) = (!m && immL b) := Eq.trans rfl rfl
@[simp] theorem imm_ins (m : Bool) (t : Nat) (b : List D) : imm (.ins m t b) = (!m && immL b) := Eq.trans rfl rfl
@[simp] theorem imm_fam (n : Int) (b : List D) : imm (.fam n b) = true := Eq.trans rfl rfl
@[simp] theorem imm_scr (n : List Int) : imm (.scr n) = true := Eq.trans rfl rfl
@[simp] theorem immL_nil : immL [] = true := Eq.trans rfl rfl
@[simp] theorem immL_cons (d : D) (ds : List D) : immL (d :: ds) = (imm d && immL ds) := Eq.trans rfl rfl
@[simp] theorem okL_nil (n : Nat) : okL n [] = true := by simp [okL]
@[simp] theorem okL_cons (n : Nat) (d : D) (ds : List D) : okL n (d :: ds) = (okD n d && okL n ds) := by simp [okL]
@[simp] theorem okD_non (n : Nat) : okD n .non = true := by simp [okD]
@[simp] theorem okD_bl (n : Nat) (b : Bool) : okD n (.bl b) = true := by simp [okD]
@[simp] theorem okD_int (n : Nat) (b : Int) : okD n (.int b) = true := by simp [okD]
@[simp] theorem okD_tup (n : Nat) (b : List D) : okD (n + 1) (.tup b) = okL n b := by simp [okD]
@[simp] theorem okD_lst (n : Nat) (m : Bool) (b : List D) : okD (n + 1) (.lst m b) = okL n b := by simp [okD]
theorem okL_map {α : Type} {n : Nat} {f : α → D} (h : ∀ x, okD n (f x) = true) : ∀ k : List α, okL n (k.map f) = true
  | [] => by simp
  | i :: k => by simp [h, okL_map h k]
@[simp] theorem okL_ints (n : Nat) (k : List Int) : okL n (k.map D.int) = true := okL_map (fun x => okD_int n x) k
@[simp] theorem okL_intsF {α : Type} (n : Nat) (f : α → Int) (k : List α) : okL n (k.map fun x => D.int (f x)) = true := okL_map (fun x => okD_int n (f x)) k
@[simp] theorem okD_lot (n : Nat) (k : Lot) : okD (n + 1) (lotD k) = true := by simp [lotD]
@[simp] theorem okL_lots (n : Nat) (ls : List Lot) : okL (n + 1) (ls.map lotD) = true := okL_map (fun x => okD_lot n x) ls
@[simp] theorem okL_lotss (n : Nat) (ls : List (List Lot)) : okL (n + 2) (ls.map lotsT) = true := okL_map (fun x => by simp) ls
@[simp] theorem eqD_int (a b : Int) : eqD (.int a) (.int b) = decide (a = b) := by simp [eqD, Bool.beq_eq_decide_eq]
@[simp] theorem eqD_bl (a b : Bool) : eqD (.bl a) (.bl b) = decide (a = b) := by simp only [eqD]; cases a <;> cases b <;> rfl
@[simp] theorem eqD_tup (a b : List D) : eqD (.tup a) (.tup b) = eqL a b := by simp [eqD]
@[simp] theorem eqD_lst (m m' : Bool) (a b : List D) : eqD (.lst m a) (.lst m' b) = eqL a b := by simp [eqD]
theorem eqL_map {α : Type} [DecidableEq α] {f : α → D} (h : ∀ x y, eqD (f x) (f y) = decide (x = y)) : ∀ a b : List α, eqL (a.map f) (b.map f) = decide (a = b)
  | [], [] => by simp [eqL]
  | [], b :: bs => by simp [eqL]
  | a :: as, [] => by simp [eqL]
  | a :: as, b :: bs => by
    simp only [List.map_cons, eqL, h, eqL_map h as bs, List.cons.injEq]
    by_cases h1 : a = b <;> by_cases h2 : as = bs <;> simp [h1, h2]
@[simp] theorem eqL_ints' (a b : List Int) : eqL (a.map D.int) (b.map D.int) = decide (a = b) := eqL_map eqD_int a b
@[simp] theorem eqD_lot (a b : Lot) : eqD (lotD a) (lotD b) = decide (a = b) := by simp [lotD]
@[simp] theorem eqL_lots (a b : List Lot) : eqL (a.map lotD) (b.map lotD) = decide (a = b) := eqL_map eqD_lot a b
@[simp] theorem eqL_lotss (a b : List (List Lot)) : eqL (a.map lotsT) (b.map lotsT) = decide (a = b) := eqL_map (fun x y => by simp) a b
@[simp] theorem eqL_nil : eqL [] [] = true := by simp [eqL]
@[simp] theorem eqL_cons (a b : D) (as bs : List D) : eqL (a :: as) (b :: bs) = (eqD a b && eqL as bs) := by simp [eqL]
@[simp] theorem eqL_cn (a : D) (as : List D) : eqL (a :: as) [] = false := by simp [eqL]
@[simp] theorem eqL_nc (a : D) (as : List D) : eqL [] (a :: as) = false := by simp [eqL]
/-! ### bounds -/
@[simp] theorem lim_le' {n : Nat} (h : n ≤ 16000000) : lim n = true := decide_eq_true (by omega)
theorem rngOk_of {i : Int} (h1 : 0 ≤ i) (h2 : i ≤ 16000000) : rngOk i = true := by
  unfold rngOk
  rw [Bool.and_eq_true]
  exact ⟨decide_eq_true (by omega), decide_eq_true h2⟩
@[simp] theorem rngOk_0 : rngOk 0 = true := Eq.trans rfl rfl
@[simp] theorem rngOk_1 : rngOk 1 = true := Eq.trans rfl rfl
@[simp] theorem rngOk_2 : rngOk 2 = true := Eq.trans rfl rfl
@[simp] theorem rngOk_3 : rngOk 3 = true := Eq.trans rfl rfl
@[simp] theorem rngOk_4 : rngOk 4 = true := Eq.trans rfl rfl
@[simp] theorem rngOk_5 : rngOk 5 = true := Eq.trans rfl rfl
@[simp] theorem rngOk_6 : rngOk 6 = true := Eq.trans rfl rfl
@[simp] theorem rngOk_7 : rngOk 7 = true := Eq.trans rfl rfl
@[simp] theorem rngOk_8 : rngOk 8 = true := Eq.trans rfl rfl
theorem lim_of {n : Nat} (h : n ≤ 16000000) : lim n = true := decide_eq_true (by omega)
/-! ### comprehensions -/
def fmO {α β : Type} (t : α → Option Bool) (f : α → Option β) : List α → Option (List β)
  | [] => some []
  | x :: xs => match t x with
    | some true => match f x with
      | some y => match fmO t f xs with
        | some ys => some (y :: ys)
        | none => none
      | none => none
    | some false => fmO t f xs
    | none => none
theorem compP_map {α : Type} {i : Nat} {t : EvT} {f : Ev} {e0 : List D} (enc : α → D) (hi : i < e0.length) : ∀ (xs : List α),
    compP (.nm i) t f e0 (xs.map enc) = fmO (fun x => t (e0.set i (enc x))) (fun x => f (e0.set i (enc x))) xs
  | [] => rfl
  | x :: xs => by
    simp only [List.map_cons, compP, bindN, gNm, hi, if_true, fmO, compP_map enc hi xs]
    cases t (e0.set i (enc x)) with
    | none => rfl
    | some b => cases b with
      | false => rfl
      | true => cases f (e0.set i (enc x)) with
        | none => rfl
        | some y => cases fmO (fun x => t (e0.set i (enc x))) (fun x => f (e0.set i (enc x))) xs <;> rfl
@[simp] theorem fmO_some {α β : Type} (p : α → Bool) (h : α → β) : ∀ xs : List α, fmO (fun x => some (p x)) (fun x => some (h x)) xs = some ((xs.filter p).map h)
  | [] => rfl
  | x :: xs => by
    simp only [fmO, fmO_some p h xs]
    cases q : p x <;> simp [List.filter_cons, q]
@[simp] theorem fmO_all {α β : Type} (h : α → β) (xs : List α) : fmO (fun _ => some true) (fun x => some (h x)) xs = some (xs.map h) := by
  rw [fmO_some (fun _ => true) h xs, List.filter_eq_self.mpr fun _ _ => rfl]
@[simp] theorem compP_map' {α : Type} {i : Nat} {t : EvT} {f : Ev} {e0 : List D} (enc : α → D) (xs : List α) (hi : i < e0.length) :
    compP (.nm i) t f e0 (xs.map enc) = fmO (fun x => t (e0.set i (enc x))) (fun x => f (e0.set i (enc x))) xs := compP_map enc hi xs
@[simp] theorem compP_tp2 {α : Type} {i j : Nat} {t : EvT} {f : Ev} {e0 : List D} (h g : α → D) : ∀ (xs : List α) (hi : i < e0.length) (hj : j < e0.length),
    compP (.tp [i, j]) t f e0 (xs.map fun x => .tup [h x, g x]) = fmO (fun x => t ((e0.set i (h x)).set j (g x))) (fun x => f ((e0.set i (h x)).set j (g x))) xs
  | [], _, _ => rfl
  | x :: xs, hi, hj => by
    have hj' : j < (e0.set i (h x)).length := by simpa using hj
    simp only [List.map_cons, compP, bindN, gTp, putsD, hi, hj', if_true, fmO, compP_tp2 h g xs hi hj]
    cases t ((e0.set i (h x)).set j (g x)) with
    | none => rfl
    | some b => cases b with
      | false => rfl
      | true => cases f ((e0.set i (h x)).set j (g x)) with
        | none => rfl
        | some y => cases fmO (fun x => t ((e0.set i (h x)).set j (g x))) (fun x => f ((e0.set i (h x)).set j (g x))) xs <;> rfl
theorem zipD_map {α β : Type} (f : α → D) (g : β → D) : ∀ (xs : List α) (ys : List β), zipD (xs.map f) (ys.map g) = (xs.zip ys).map fun p => .tup [f p.1, g p.2]
  | [], ys => by simp [zipD]
  | x :: xs, [] => by simp [zipD]
  | x :: xs, y :: ys => by simp [zipD, zipD_map f g xs ys]
theorem fmO_congr {α β : Type} {t t' : α → Option Bool} {f f' : α → Option β} : ∀ {xs : List α}, (∀ x ∈ xs, t x = t' x) → (∀ x ∈ xs, t' x = some true → f x = f' x) → fmO t f xs = fmO t' f' xs
  | [], _, _ => rfl
  | x :: xs, h1, h2 => by
    have e1 := h1 x (List.mem_cons_self ..)
    have e2 := h2 x (List.mem_cons_self ..)
    have ih := fmO_congr (xs := xs) (fun y hy => h1 y (List.mem_cons_of_mem _ hy)) (fun y hy => h2 y (List.mem_cons_of_mem _ hy))
    simp only [fmO, e1, ih]
    cases q : t' x with
    | none => rfl
    | some b => cases b with
      | false => rfl
      | true => simp only [e2 q]
theorem fmO_eq {α β : Type} {t : α → Option Bool} {f : α → Option β} (p : α → Bool) (h : α → β) {xs : List α} (H : ∀ x ∈ xs, t x = some (p x) ∧ (p x = true → f x = some (h x))) : fmO t f xs = some ((xs.filter p).map h) := by
  rw [fmO_congr (t' := fun x => some (p x)) (f' := fun x => some (h x)) (fun x hx => (H x hx).1) (fun x hx q => (H x hx).2 (Option.some.inj q)), fmO_some]
theorem intsN_eq : ∀ (lo : Int) (n : Nat), intsN lo n = ((List.range n).map fun i : Nat => lo + i).map D.int
  | lo, 0 => rfl
  | lo, n + 1 => by
    rw [intsN, intsN_eq (lo + 1) n, List.range_succ_eq_map]
    simp only [List.map_cons, List.map_map, Int.ofNat_zero, Int.add_zero]
    congr 2
    funext i
    simp only [Function.comp]
    congr 1
    omega
@[simp] theorem bools_map {α : Type} (p : α → Bool) : ∀ xs : List α, bools (xs.map fun x => D.bl (p x)) = some (xs.map p)
  | [] => rfl
  | x :: xs => by simp [bools, bools_map p xs]
@[simp] theorem intL_ints : ∀ xs : List Int, intL (xs.map D.int) = some xs
  | [] => rfl
  | x :: xs => by simp [intL, intL_ints xs]
@[simp] theorem intL_map {α : Type} (p : α → Int) : ∀ xs : List α, intL (xs.map fun x => D.int (p x)) = some (xs.map p)
  | [] => rfl
  | x :: xs => by simp [intL, intL_map p xs]
@[simp] theorem dAll_map {α : Type} (m : Bool) (p : α → Bool) (xs : List α) : dAll (.lst m (xs.map fun x => D.bl (p x))) = some (.bl (xs.all p)) := by
  simp only [dAll, bools_map, List.all_map]; rfl
@[simp] theorem dAny_map {α : Type} (m : Bool) (p : α → Bool) (xs : List α) : dAny (.lst m (xs.map fun x => D.bl (p x))) = some (.bl (xs.any p)) := by
  simp only [dAny, bools_map, List.any_map]; rfl
@[simp] theorem lotI_lot (k : Lot) : lotI (lotD k) = some k := by simp [lotI, lotD]
@[simp] theorem lotsI_lots : ∀ ls : List Lot, lotsI (ls.map lotD) = some ls
  | [] => rfl
  | l :: ls => by simp [lotsI, lotsI_lots ls]
@[simp] theorem seqOf_tup (xs : List D) : seqOf (.tup xs) = some xs := Eq.trans rfl rfl
@[simp] theorem seqOf_lst (m : Bool) (xs : List D) : seqOf (.lst m xs) = some xs := Eq.trans rfl rfl
@[simp] theorem seqOf_lot (k : Lot) : seqOf (lotD k) = some (k.map D.int) := Eq.trans rfl rfl
/-! ### combinators at an environment -/
def andO (a b : Option D) : Option D := match a with
  | some (.bl true) => b
  | some (.bl false) => some (.bl false)
  | _ => none
def orO (a b : Option D) : Option D := match a with
  | some (.bl true) => some (.bl true)
  | some (.bl false) => b
  | _ => none
def andT (a b : Option Bool) : Option Bool := match a with
  | some true => b
  | some false => some false
  | none => none
def orT (a b : Option Bool) : Option Bool := match a with
  | some true => some true
  | some false => b
  | none => none
@[simp] theorem andO_bb (a b : Bool) : andO (some (.bl a)) (some (.bl b)) = some (.bl (a && b)) := by cases a <;> rfl
@[simp] theorem andO_t (x : Option D) : andO (some (.bl true)) x = x := Eq.trans rfl rfl
@[simp] theorem andO_f (x : Option D) : andO (some (.bl false)) x = some (.bl false) := Eq.trans rfl rfl
@[simp] theorem orO_bb (a b : Bool) : orO (some (.bl a)) (some (.bl b)) = some (.bl (a || b)) := by cases a <;> rfl
@[simp] theorem orO_t (x : Option D) : orO (some (.bl true)) x = some (.bl true) := Eq.trans rfl rfl
@[simp] theorem orO_f (x : Option D) : orO (some (.bl false)) x = x := Eq.trans rfl rfl
@[simp] theorem andT_bb (a b : Bool) : andT (some a) (some b) = some (a && b) := by cases a <;> rfl
@[simp] theorem andT_t (x : Option Bool) : andT (some true) x = x := Eq.trans rfl rfl
@[simp] theorem andT_f (x : Option Bool) : andT (some false) x = some false := Eq.trans rfl rfl
@[simp] theorem orT_bb (a b : Bool) : orT (some a) (some b) = some (a || b) := by cases a <;> rfl
@[simp] theorem orT_t (x : Option Bool) : orT (some true) x = some true := Eq.trans rfl rfl
@[simp] theorem orT_f (x : Option Bool) : orT (some false) x = x := Eq.trans rfl rfl
section
variable {d : D} {e : List D} {i j : Nat}
@[simp] theorem e_pC : pC d e = some d := Eq.trans rfl rfl
@[simp] theorem e_bVar : bVar i e = slot e i := Eq.trans rfl rfl
/-! the binding and the choice of our own: their rules are proofs, not computations -/
def _root_.Option.bnd {α β : Type} (o : Option α) (f : α → Option β) : Option β := match o with
  | some a => f a
  | none => none
@[simp] theorem bnd_some {α β : Type} (a : α) (f : α → Option β) : (some a).bnd f = f a := Eq.trans rfl rfl
@[simp] theorem bnd_none {α β : Type} (f : α → Option β) : (none : Option α).bnd f = none := Eq.trans rfl rfl
def cif {α : Type} (b : Bool) (x y : α) : α := match b with
  | true => x
  | false => y
@[simp] theorem cif_t {α : Type} (x y : α) : cif true x y = x := Eq.trans rfl rfl
@[simp] theorem cif_f {α : Type} (x y : α) : cif false x y = y := Eq.trans rfl rfl
@[simp] theorem cif_not {α : Type} (b : Bool) (x y : α) : cif (!b) x y = cif b y x := by cases b <;> rfl
@[simp] theorem cif_same {α : Type} (b : Bool) (x : α) : cif b x x = x := by cases b <;> rfl
@[simp] theorem cif_bt (b x : Bool) : cif b true x = (b || x) := by cases b <;> rfl
@[simp] theorem cif_bf (b x : Bool) : cif b false x = (!b && x) := by cases b <;> rfl
@[simp] theorem cif_xt (b x : Bool) : cif b x true = (!b || x) := by cases b <;> cases x <;> rfl
@[simp] theorem cif_xf (b x : Bool) : cif b x false = (b && x) := by cases b <;> rfl
@[simp] theorem cond_someD {b : Bool} {x y : D} : (cif (b) (some x) (some y)) = some (cif (b) (x) (y)) := by cases b <;> rfl
@[simp] theorem cond_someB {b : Bool} {x y : Bool} : (cif (b) (some x) (some y)) = some (cif (b) (x) (y)) := by cases b <;> rfl
@[simp] theorem cond_someDL {b : Bool} {x y : D} {z : List D} : (cif (b) (some (x, z)) (some (y, z))) = some (cif b x y, z) := by cases b <;> rfl
@[simp] theorem cond_someBL {b : Bool} {x y : Bool} {z : List D} : (cif (b) (some (x, z)) (some (y, z))) = some (cif b x y, z) := by cases b <;> rfl
@[simp] theorem cond_someEL {b : Bool} {x y : List D} {z : List D} : (cif (b) (some (x, z)) (some (y, z))) = some (cif b x y, z) := by cases b <;> rfl
theorem tail_map' {α β : Type} (f : α → β) (xs : List α) : (xs.map f).tail = xs.tail.map f := by cases xs <;> rfl
@[simp] theorem filter_tt {α : Type} (xs : List α) : xs.filter (fun _ => true) = xs := List.filter_eq_self.mpr fun _ _ => rfl
@[simp] theorem cond_bl {b x y : Bool} : (cif (b) (D.bl x) (D.bl y)) = D.bl (cif (b) (x) (y)) := by cases b <;> rfl
@[simp] theorem cond_int {b : Bool} {x y : Int} : (cif (b) (D.int x) (D.int y)) = D.int (cif (b) (x) (y)) := by cases b <;> rfl
@[simp] theorem bind_cond {α β : Type} {b : Bool} {x y : Option α} {g : α → Option β} : (cif (b) (x) (y)).bnd g = cif (b) (x.bnd g) (y.bnd g) := by cases b <;> rfl
@[simp] theorem bind_ite' {α β : Type} {p : Prop} [Decidable p] {x y : Option α} {g : α → Option β} : (if p then x else y).bnd g = if p then x.bnd g else y.bnd g := by split <;> rfl
@[simp] theorem e_p1 {g : D → Option D} {f : Ev} : p1 g f e = (f e).bnd g := by unfold p1; cases f e <;> rfl
@[simp] theorem e_p2 {g : D → D → Option D} {f1 f2 : Ev} : p2 g f1 f2 e = (f1 e).bnd fun a => (f2 e).bnd fun b => g a b := by unfold p2; cases f1 e <;> cases f2 e <;> rfl
@[simp] theorem e_mP {f : Ev} : mP f e = (f e).bnd fun d => some (d, e) := by unfold mP; cases f e <;> rfl
@[simp] theorem e_pI {f : Ev} : pI f e = (f e).bnd fun d => cif (imm d) (some d) (none) := by unfold pI; cases f e <;> simp <;> rename_i x <;> cases imm x <;> rfl
@[simp] theorem e_mVar : mVar i e = (slot e i).bnd fun d => some (frz d, e.set i (frz d)) := by unfold mVar; cases slot e i <;> rfl
@[simp] theorem e_mMov : mMov i e = (slot e i).bnd fun d => some (d, e.set i .undef) := by unfold mMov; cases slot e i <;> rfl
@[simp] theorem e_m1 {g : D → Option D} {f : EvM} : m1 g f e = (f e).bnd fun p => (g p.1).bnd fun d => some (d, p.2) := by
  unfold m1; rcases f e with _ | ⟨a, e1⟩
  · rfl
  · simp only [Option.bnd]; cases g a <;> rfl
@[simp] theorem e_m2 {g : D → D → Option D} {f1 f2 : EvM} : m2 g f1 f2 e = (f1 e).bnd fun p => (f2 p.2).bnd fun q => (g p.1 q.1).bnd fun d => some (d, q.2) := by
  unfold m2; rcases f1 e with _ | ⟨a, e1⟩
  · rfl
  · simp only [Option.bnd]; rcases f2 e1 with _ | ⟨b, e2⟩
    · rfl
    · simp only; cases g a b <;> rfl
@[simp] theorem e_pChain {g g' : D → D → Option D} {f1 f2 f3 : Ev} : pChain g g' f1 f2 f3 e = (f1 e).bnd fun x => (f2 e).bnd fun y => andO (g x y) ((f3 e).bnd fun z => g' y z) := by
  unfold pChain
  cases f1 e <;> cases f2 e <;> try rfl
  rename_i x y
  simp only [Option.bnd, andO]
  generalize g x y = r
  rcases r with _ | d
  · rfl
  · cases d <;> try rfl
    rename_i b
    cases b
    · rfl
    · cases f3 e <;> rfl
@[simp] theorem flag_bl (b : Bool) : flag (.bl b) = some b := Eq.trans rfl rfl
@[simp] theorem e_fT {f : Ev} : fT f e = (f e).bnd flag := by unfold fT; cases f e <;> rfl
@[simp] theorem e_tAndF {f1 f2 : EvT} : tAndF f1 f2 e = andT (f1 e) (f2 e) := Eq.trans rfl rfl
@[simp] theorem e_tOrF {f1 f2 : EvT} : tOrF f1 f2 e = orT (f1 e) (f2 e) := Eq.trans rfl rfl
@[simp] theorem e_tNotF {f : EvT} : tNotF f e = (f e).bnd fun b => some (!b) := by unfold tNotF; cases f e <;> rfl
@[simp] theorem e_pAnd {f1 f2 : Ev} : pAnd f1 f2 e = andO (f1 e) (f2 e) := Eq.trans rfl rfl
@[simp] theorem e_pOr {f1 f2 : Ev} : pOr f1 f2 e = orO (f1 e) (f2 e) := Eq.trans rfl rfl
def notO (a : Option D) : Option D := match a with
  | some (.bl b) => some (.bl (!b))
  | _ => none
@[simp] theorem notO_b (b : Bool) : notO (some (.bl b)) = some (.bl (!b)) := Eq.trans rfl rfl
@[simp] theorem e_pNot {f : Ev} : pNot f e = notO (f e) := Eq.trans rfl rfl
@[simp] theorem e_pIf {t : EvT} {f1 f2 : Ev} : pIf t f1 f2 e = (t e).bnd fun b => cif (b) (f1 e) (f2 e) := by
  unfold pIf; cases t e with
  | none => rfl
  | some b => cases b <;> rfl
@[simp] theorem e_lNil : lNil e = some [] := Eq.trans rfl rfl
@[simp] theorem e_lCons {f : Ev} {l : EvL} : lCons f l e = (f e).bnd fun d => (l e).bnd fun ds => some (d :: ds) := by unfold lCons; cases f e <;> cases l e <;> rfl
@[simp] theorem e_kNil : kNil e = some ([], e) := Eq.trans rfl rfl
@[simp] theorem e_kCons {f : EvM} {l : EvLM} : kCons f l e = (f e).bnd fun p => (l p.2).bnd fun q => some (p.1 :: q.1, q.2) := by
  unfold kCons; rcases f e with _ | ⟨a, e1⟩
  · rfl
  · simp only [Option.bnd]; rcases l e1 with _ | ⟨b, e2⟩ <;> rfl
@[simp] theorem e_pTup {l : EvL} : pTup l e = (l e).bnd fun ds => cif (lim ds.length) (some (.tup ds)) (none) := by unfold pTup; cases l e <;> simp <;> rename_i x <;> cases lim x.length <;> rfl
@[simp] theorem e_pLst {l : EvL} : pLst l e = (l e).bnd fun ds => cif (lim ds.length) (some (.lst true ds)) (none) := by unfold pLst; cases l e <;> simp <;> rename_i x <;> cases lim x.length <;> rfl
@[simp] theorem e_mTup {l : EvLM} : mTup l e = (l e).bnd fun p => cif (lim p.1.length) (some (.tup p.1, p.2)) (none) := by
  unfold mTup; rcases l e with _ | ⟨a, e1⟩
  · rfl
  · simp only [Option.bnd]; cases lim a.length <;> rfl
@[simp] theorem e_mLst {l : EvLM} : mLst l e = (l e).bnd fun p => cif (lim p.1.length) (some (.lst true p.1, p.2)) (none) := by
  unfold mLst; rcases l e with _ | ⟨a, e1⟩
  · rfl
  · simp only [Option.bnd]; cases lim a.length <;> rfl
@[simp] theorem e_gC {g : List D → Option D} {l : EvL} : gC g l e = (l e).bnd g := by unfold gC; cases l e <;> rfl
@[simp] theorem e_gCM {g : List D → Option D} {l : EvLM} : gCM g l e = (l e).bnd fun p => (g p.1).bnd fun d => some (d, p.2) := by
  unfold gCM; rcases l e with _ | ⟨a, e1⟩
  · rfl
  · simp only [Option.bnd]; cases g a <;> rfl
@[simp] theorem e_g1 {g : D → Option D} : g1 g [d] = g d := Eq.trans rfl rfl
@[simp] theorem e_mT {t : EvT} : mT t e = (t e).bnd fun b => some (b, e) := by unfold mT; cases t e <;> rfl
def fO (a : Option (D × List D)) : Option (Bool × List D) := match a with
  | some (.bl k, e') => some (k, e')
  | _ => none
@[simp] theorem fO_b (b : Bool) (e : List D) : fO (some (.bl b, e)) = some (b, e) := Eq.trans rfl rfl
@[simp] theorem e_fTM {h : EvM} : fTM h e = fO (h e) := Eq.trans rfl rfl
@[simp] theorem e_mAndF {f1 f2 : EvTM} : mAndF f1 f2 e = (f1 e).bnd fun p => cif (p.1) (f2 p.2) (some (false, p.2)) := by
  unfold mAndF; rcases f1 e with _ | ⟨b, e1⟩
  · rfl
  · cases b <;> rfl
@[simp] theorem e_mOrF {f1 f2 : EvTM} : mOrF f1 f2 e = (f1 e).bnd fun p => cif (p.1) (some (true, p.2)) (f2 p.2) := by
  unfold mOrF; rcases f1 e with _ | ⟨b, e1⟩
  · rfl
  · cases b <;> rfl
@[simp] theorem e_mNotF {f : EvTM} : mNotF f e = (f e).bnd fun p => some (!p.1, p.2) := by
  unfold mNotF; rcases f e with _ | ⟨b, e1⟩ <;> rfl
@[simp] theorem e_mAnd {f1 f2 : EvM} : mAnd f1 f2 e = (fO (f1 e)).bnd fun p => cif (p.1) (f2 p.2) (some (.bl false, p.2)) := by
  unfold mAnd fO
  rcases f1 e with _ | ⟨b, e1⟩
  · rfl
  · cases b <;> try rfl
    rename_i b; cases b <;> rfl
@[simp] theorem e_mOr {f1 f2 : EvM} : mOr f1 f2 e = (fO (f1 e)).bnd fun p => cif (p.1) (some (.bl true, p.2)) (f2 p.2) := by
  unfold mOr fO
  rcases f1 e with _ | ⟨b, e1⟩
  · rfl
  · cases b <;> try rfl
    rename_i b; cases b <;> rfl
@[simp] theorem e_mNot {f : EvM} : mNot f e = (fO (f e)).bnd fun p => some (.bl (!p.1), p.2) := by
  unfold mNot fO
  rcases f e with _ | ⟨b, e1⟩
  · rfl
  · cases b <;> rfl
@[simp] theorem e_mIf {t : EvTM} {f1 f2 : EvM} : mIf t f1 f2 e = (t e).bnd fun p => cif (p.1) (f1 p.2) (f2 p.2) := by
  unfold mIf; rcases t e with _ | ⟨b, e1⟩
  · rfl
  · cases b <;> rfl
@[simp] theorem e_sNil : sNil e = some (.nx, e) := Eq.trans rfl rfl
def bindS (a : Option (Out × List D)) (g : EvS) : Option (Out × List D) := match a with
  | some (.nx, e1) => g e1
  | some (.bk, e1) => some (.bk, e1)
  | some (.rt d, e1) => some (.rt d, e1)
  | none => none
@[simp] theorem bindS_nx {g : EvS} : bindS (some (.nx, e)) g = g e := Eq.trans rfl rfl
@[simp] theorem bindS_bk {g : EvS} : bindS (some (.bk, e)) g = some (.bk, e) := Eq.trans rfl rfl
@[simp] theorem bindS_rt {g : EvS} : bindS (some (.rt d, e)) g = some (.rt d, e) := Eq.trans rfl rfl
@[simp] theorem bindS_none {g : EvS} : bindS none g = none := Eq.trans rfl rfl
@[simp] theorem bindS_cond {b : Bool} {x y : Option (Out × List D)} {g : EvS} : bindS (cif (b) (x) (y)) g = cif (b) (bindS x g) (bindS y g) := by cases b <;> rfl
@[simp] theorem bindS_ite {p : Prop} [Decidable p] {x y : Option (Out × List D)} {g : EvS} : bindS (if p then x else y) g = if p then bindS x g else bindS y g := by split <;> rfl
@[simp] theorem e_sSeq {f g : EvS} : sSeq f g e = bindS (f e) g := Eq.trans rfl rfl
@[simp] theorem e_sIf {q : EvTM} {f g : EvS} : sIf q f g e = (q e).bnd fun p => cif (p.1) (f p.2) (g p.2) := by
  unfold sIf; rcases q e with _ | ⟨b, e1⟩
  · rfl
  · cases b <;> rfl
@[simp] theorem e_sDrop {h : EvM} : sDrop h e = (h e).bnd fun p => some (.nx, p.2) := by
  unfold sDrop; rcases h e with _ | ⟨b, e1⟩ <;> rfl
@[simp] theorem e_sRet {h : EvM} : sRet h e = (h e).bnd fun p => some (.rt p.1, p.2) := by
  unfold sRet; rcases h e with _ | ⟨b, e1⟩ <;> rfl
@[simp] theorem e_sRetN : sRetN e = some (.rt .non, e) := Eq.trans rfl rfl
@[simp] theorem e_sNever : sNever e = none := Eq.trans rfl rfl
@[simp] theorem e_sBrk : sBrk e = some (.bk, e) := Eq.trans rfl rfl
@[simp] theorem e_gNm : gNm i d e = if i < e.length then some (e.set i d) else none := Eq.trans rfl rfl
@[simp] theorem e_gTp {is : List Nat} {ds : List D} : gTp is (.tup ds) e = putsD is ds e := Eq.trans rfl rfl
@[simp] theorem putsD_n : putsD [] [] e = some e := Eq.trans rfl rfl
@[simp] theorem putsD_c {is : List Nat} {ds : List D} : putsD (i :: is) (d :: ds) e = if i < e.length then putsD is ds (e.set i d) else none := Eq.trans rfl rfl
@[simp] theorem e_sAsg {h : EvM} {g : EvG} : sAsg h g e = (h e).bnd fun p => (g p.1 p.2).bnd fun e2 => some (.nx, e2) := by
  unfold sAsg; rcases h e with _ | ⟨b, e1⟩
  · rfl
  · simp only [Option.bnd]; cases g b e1 <;> rfl
@[simp] theorem e_sPar {is : List Nat} {l : EvLM} : sPar is l e = (l e).bnd fun p => (putsD is p.1 p.2).bnd fun e2 => some (.nx, e2) := by
  unfold sPar; rcases l e with _ | ⟨b, e1⟩
  · rfl
  · simp only [Option.bnd]; cases putsD is b e1 <;> rfl
@[simp] theorem e_iSeqB {f : Ev} : iSeqB f e = (f e).bnd fun d => (seqOf d).bnd fun xs => cif (immL xs) (some xs) (none) := by
  unfold iSeqB; cases f e with
  | none => rfl
  | some d => simp only [Option.bnd]; cases seqOf d with
    | none => rfl
    | some xs => simp only; cases immL xs <;> rfl
@[simp] theorem e_iSeqM {f : EvM} : iSeqM f e = (f e).bnd fun p => (seqOf p.1).bnd fun xs => cif (immL xs) (some (xs, p.2)) (none) := by
  unfold iSeqM; rcases f e with _ | ⟨d, e1⟩
  · rfl
  · simp only [Option.bnd]; cases seqOf d with
    | none => rfl
    | some xs => simp only; cases immL xs <;> rfl
def rng1 : List D → Option (List D)
  | [.int j] => if rngOk j = true then some (intsN 0 j.toNat) else none
  | _ => none
def rng2 : List D → Option (List D)
  | [.int i, .int j] => if (rngOk i && rngOk j) = true then some (intsN i (j - i).toNat) else none
  | _ => none
def upto (n : Nat) : List Int := (List.range n).map fun i : Nat => (i : Int)
def fromto (a b : Int) : List Int := (List.range (b - a).toNat).map fun i : Nat => a + (i : Int)
@[simp] theorem upto_len (n : Nat) : (upto n).length = n := by simp [upto]
theorem mem_upto {n : Nat} {i : Int} : i ∈ upto n ↔ 0 ≤ i ∧ i < n := by
  unfold upto
  rw [List.mem_map]
  constructor
  · rintro ⟨k, hk, rfl⟩; rw [List.mem_range] at hk; omega
  · rintro ⟨h1, h2⟩; exact ⟨i.toNat, by rw [List.mem_range]; omega, by omega⟩
@[simp] theorem rng1_int (j : Int) : rng1 [.int j] = cif (rngOk j) (some ((upto j.toNat).map .int)) (none) := by
  show (if rngOk j = true then some (intsN 0 j.toNat) else none) = _
  cases rngOk j with
  | false => rfl
  | true => simp only [intsN_eq, cif_t, if_true]; simp [upto]
@[simp] theorem rng2_int (a j : Int) : rng2 [.int a, .int j] = cif (rngOk a && rngOk j) (some ((fromto a j).map .int)) (none) := by
  show (if (rngOk a && rngOk j) = true then some (intsN a (j - a).toNat) else none) = _
  cases (rngOk a && rngOk j) with
  | false => rfl
  | true => simp only [intsN_eq, fromto, cif_t, if_true]
@[simp] theorem e_iRng1B {f : EvL} : iRng1B f e = (f e).bnd rng1 := by
  unfold iRng1B rng1; rcases f e with _ | ds
  · rfl
  · rcases ds with _ | ⟨d, _ | ⟨d2, ds⟩⟩
    · rfl
    · cases d <;> rfl
    · cases d <;> rfl
@[simp] theorem e_iRng2B {f : EvL} : iRng2B f e = (f e).bnd rng2 := by
  unfold iRng2B rng2; rcases f e with _ | ds
  · rfl
  · rcases ds with _ | ⟨d, _ | ⟨d2, _ | ⟨d3, ds⟩⟩⟩
    · rfl
    · cases d <;> rfl
    · cases d <;> cases d2 <;> rfl
    · cases d <;> cases d2 <;> rfl
@[simp] theorem e_iRng1M {f : EvLM} : iRng1M f e = (f e).bnd fun p => (rng1 p.1).bnd fun xs => some (xs, p.2) := by
  unfold iRng1M rng1; rcases f e with _ | ⟨ds, e1⟩
  · rfl
  · rcases ds with _ | ⟨d, ds⟩
    · rfl
    · cases ds <;> cases d <;> try rfl
      simp only [Option.bnd]; rename_i j; cases rngOk j <;> rfl
@[simp] theorem e_iRng2M {f : EvLM} : iRng2M f e = (f e).bnd fun p => (rng2 p.1).bnd fun xs => some (xs, p.2) := by
  unfold iRng2M rng2; rcases f e with _ | ⟨ds, e1⟩
  · rfl
  · rcases ds with _ | ⟨d, _ | ⟨d2, _ | ⟨d3, ds⟩⟩⟩
    · rfl
    · cases d <;> rfl
    · cases d <;> cases d2 <;> try rfl
      simp only [Option.bnd]; rename_i i j; cases (rngOk i && rngOk j) <;> rfl
    · cases d <;> cases d2 <;> rfl
@[simp] theorem e_iM {f : EvI} : iM f e = (f e).bnd fun xs => some (xs, e) := by unfold iM; cases f e <;> rfl
@[simp] theorem e_sFor {s : EvIM} {T : Tg} {f : EvS} : sFor s T f e = (s e).bnd fun p => runFor T f p.1 p.2 := by unfold sFor; rcases s e with _ | ⟨d, e1⟩ <;> rfl
@[simp] theorem e_pLc {s : EvI} {T : Tg} {own : List Nat} {t : EvT} {f : Ev} : pLc s T own t f e = (s e).bnd fun xs => cif (lim xs.length) ((compP T t f (undefs own e) xs).bnd fun ys => some (.lst true ys)) (none) := by
  unfold pLc; cases s e with
  | none => rfl
  | some xs => simp only [Option.bnd]; cases lim xs.length with
    | false => rfl
    | true => simp only [cif_t, if_true]; cases compP T t f (undefs own e) xs <;> rfl
@[simp] theorem e_tYesT : tYesT e = some true := Eq.trans rfl rfl
@[simp] theorem e_mLc {s : EvIM} {T : Tg} {own : List Nat} {t : EvTM} {f : EvM} : mLc s T own t f e = (s e).bnd fun p => cif (lim p.1.length) ((compM T own t f p.1 p.2).bnd fun q => some (.lst true q.1, q.2)) (none) := by
  unfold mLc; rcases s e with _ | ⟨xs, e1⟩
  · rfl
  · simp only [Option.bnd]; cases lim xs.length with
    | false => rfl
    | true => simp only [cif_t, if_true]; rcases compM T own t f xs e1 with _ | ⟨a, b⟩ <;> rfl
@[simp] theorem e_gCall {md : List Md} {f : Fn} {l : EvL} : gCall md f l e = (l e).bnd (gPure md f) := by unfold gCall; cases l e <;> rfl
@[simp] theorem pure_nil : pureAt [] [] = true := Eq.trans rfl rfl
@[simp] theorem pure_ro {ms : List Md} {ds : List D} : pureAt (.ro :: ms) (d :: ds) = pureAt ms ds := Eq.trans rfl rfl
@[simp] theorem pure_mv {ms : List Md} {ds : List D} : pureAt (.mv :: ms) (d :: ds) = (imm d && pureAt ms ds) := Eq.trans rfl rfl
@[simp] theorem e_gMeth {c : Nat} {md : List Md} {f : Fn} {f0 : Ev} {l : EvL} : gMeth c md f f0 l e = (f0 e).bnd fun d => cif (isIns c d) ((l e).bnd fun ds => gPure md f (d :: ds)) (none) := by
  unfold gMeth; cases f0 e with
  | none => rfl
  | some d => simp only [Option.bnd]; cases isIns c d with
    | false => rfl
    | true => simp only [cif_t, if_true]; cases l e <;> rfl
def famO (g : Int → List D → Option D) (d : D) : Option D := match d with
  | .fam n ls => g n ls
  | _ => none
@[simp] theorem famO_f {g : Int → List D → Option D} {n : Int} {ls : List D} : famO g (.fam n ls) = g n ls := Eq.trans rfl rfl
@[simp] theorem e_gMethF {md : List Md} {f : Fn} {f0 : Ev} : gMethF md f f0 e = (f0 e).bnd (famO fun n ls => gPure md f [.fam n ls]) := by
  unfold gMethF; rcases f0 e with _ | d
  · rfl
  · cases d <;> rfl
def mkO (a : Option (D × List D)) : Option D := match a with
  | some (.non, d :: _) => (match d with
    | .undef => none
    | d => some d)
  | _ => none
@[simp] theorem mkO_ins {m : Bool} {c : Nat} {ds xs : List D} : mkO (some (.non, .ins m c ds :: xs)) = some (.ins m c ds) := Eq.trans rfl rfl
@[simp] theorem e_gMake {c : Nat} {md : List Md} {f : Fn} {l : EvL} : gMake c md f l e = (l e).bnd fun ds => cif (pureAt md ds) (mkO (f (.ins true c [] :: ds))) (none) := by
  unfold gMake; cases l e with
  | none => rfl
  | some ds => simp only [Option.bnd]; cases pureAt md ds <;> rfl
theorem gPure_of {md : List Md} {f : Fn} {ds ds' : List D} (h : f ds = some (d, ds')) (p : pureAt md ds = true := by simp [pure_nil, pure_ro, pure_mv]) : gPure md f ds = some d := by
  unfold gPure; rw [p, h]; rfl
@[simp] theorem e_evA0 : evA [] e = some ([], e) := Eq.trans rfl rfl
@[simp] theorem e_evAm {h : EvM} {as : List AD} : evA (.m h :: as) e = (h e).bnd fun p => (evA as p.2).bnd fun q => some (p.1 :: q.1, q.2) := by
  simp only [evA]; rcases h e with _ | ⟨a, e1⟩
  · rfl
  · simp only [Option.bnd]; rcases evA as e1 with _ | ⟨b, e2⟩ <;> rfl
@[simp] theorem e_evAs {as : List AD} : evA (.s i :: as) e = (slot e i).bnd fun d => (evA as e).bnd fun q => some (d :: q.1, q.2) := by
  simp only [evA]; cases slot e i with
  | none => rfl
  | some d => simp only [Option.bnd]; rcases evA as e with _ | ⟨b, e2⟩ <;> rfl
@[simp] theorem e_lend0 {ds : List D} : lend [] ds e = some ([], e) := by cases ds <;> rfl
@[simp] theorem e_lendm {h : EvM} {as : List AD} {ds : List D} : lend (.m h :: as) (d :: ds) e = (lend as ds e).bnd fun p => some (d :: p.1, p.2) := by
  simp only [lend]; rcases lend as ds e with _ | ⟨b, e2⟩ <;> rfl
@[simp] theorem e_lends {as : List AD} {ds : List D} : lend (.s i :: as) (d :: ds) e = (slot e i).bnd fun d => (lend as ds (e.set i .undef)).bnd fun p => some (d :: p.1, p.2) := by
  simp only [lend]; cases slot e i with
  | none => rfl
  | some d => simp only [Option.bnd]; rcases lend as ds (e.set i .undef) with _ | ⟨b, e2⟩ <;> rfl
@[simp] theorem e_give0 {ds : List D} : giveB [] ds e = e := by cases ds <;> rfl
@[simp] theorem e_gives {as : List AD} {ds : List D} : giveB (.s i :: as) (d :: ds) e = giveB as ds (e.set i d) := Eq.trans rfl rfl
@[simp] theorem e_givem {h : EvM} {as : List AD} {ds : List D} : giveB (.m h :: as) (d :: ds) e = giveB as ds e := Eq.trans rfl rfl
@[simp] theorem e_mCall {as : List AD} {f : Fn} : mCall as f e = (evA as e).bnd fun p => mFin as f p.1 p.2 := by unfold mCall; rcases evA as e with _ | ⟨b, e2⟩ <;> rfl
@[simp] theorem e_mFin {as : List AD} {f : Fn} {ds : List D} : mFin as f ds e = (lend as ds e).bnd fun p => (f p.1).bnd fun q => some (q.1, giveB as q.2 p.2) := by
  unfold mFin; rcases lend as ds e with _ | ⟨b, e2⟩
  · rfl
  · simp only [Option.bnd]; rcases f b with _ | ⟨c, e3⟩ <;> rfl
def methO (c : Nat) (as : List AD) (f : Fn) (e1 : List D) : List D → Option (D × List D)
  | d :: ds => cif (isIns c d) (mFin as f (d :: ds) e1) (none)
  | [] => none
@[simp] theorem methO_c {c : Nat} {as : List AD} {f : Fn} {d : D} {ds e1 : List D} : methO c as f e1 (d :: ds) = cif (isIns c d) (mFin as f (d :: ds) e1) (none) := Eq.trans rfl rfl
@[simp] theorem e_mMeth {c : Nat} {as : List AD} {f : Fn} : mMeth c as f e = (evA as e).bnd fun p => methO c as f p.2 p.1 := by
  unfold mMeth; rcases evA as e with _ | ⟨ds, e2⟩
  · rfl
  · cases ds with
    | nil => rfl
    | cons d ds => simp only [Option.bnd, methO]; cases isIns c d <;> rfl
@[simp] theorem e_mIxS {h : EvM} : mIxS i h e = (slot e i).bnd fun _ => (h e).bnd fun p => (slot p.2 i).bnd fun c => (dIxS c p.1).bnd fun d => cif (imm d) (some (d, p.2)) (none) := by
  unfold mIxS; cases slot e i with
  | none => rfl
  | some x => simp only [Option.bnd]; rcases h e with _ | ⟨k, e1⟩
              · rfl
              · simp only; cases slot e1 i with
                | none => rfl
                | some c => simp only; cases dIxS c k with
                  | none => rfl
                  | some d => simp only; cases imm d <;> rfl
@[simp] theorem e_gIx {get : List D → Option D} {put : List D → D → List D} {fk : Ev} {v : D} : gIx get put fk v e = (fk e).bnd fun k => cif (imm k) ((get e).bnd fun c => (dPut c k v).bnd fun c' => some (put e c')) (none) := by
  unfold gIx; cases fk e with
  | none => rfl
  | some k => simp only [Option.bnd]; cases imm k with
    | false => rfl
    | true => simp only [cif_t, if_true]; cases get e with
      | none => rfl
      | some c => simp only; cases dPut c k v <;> rfl
@[simp] theorem e_sFldS {c : Nat} {h : EvM} : sFldS c j i h e = (h e).bnd fun p => (slot p.2 i).bnd fun o => (setFd c j p.1 o).bnd fun o' => some (.nx, p.2.set i o') := by
  unfold sFldS; rcases h e with _ | ⟨d, e1⟩
  · rfl
  · simp only [Option.bnd]; cases slot e1 i with
    | none => rfl
    | some o => simp only; cases setFd c j d o <;> rfl
@[simp] theorem e_mPush {get : List D → Option D} {put : List D → D → List D} {h : EvM} : mPush get put h e = (get e).bnd fun c0 => cif (isLst c0) ((h e).bnd fun p => (get p.2).bnd fun c => (dPush c p.1).bnd fun c' => some (.non, put p.2 c')) (none) := by
  unfold mPush; cases get e with
  | none => rfl
  | some c0 => simp only [Option.bnd]; cases isLst c0 with
    | false => rfl
    | true => simp only [cif_t, if_true]; rcases h e with _ | ⟨d, e1⟩
              · rfl
              · simp only; cases get e1 with
                | none => rfl
                | some c => simp only; cases dPush c d <;> rfl
@[simp] theorem e_pSl {f : Ev} {lo hi : Option Ev} : pSl f lo hi e = (f e).bnd fun d => (optI lo e).bnd fun l => (optI hi e).bnd fun u => dSl l u d := by
  unfold pSl; cases f e with
  | none => rfl
  | some d => simp only [Option.bnd]; cases optI lo e with
    | none => rfl
    | some l => simp only; cases optI hi e <;> rfl
@[simp] theorem optI_n : optI none e = some none := Eq.trans rfl rfl
def intO (d : D) : Option (Option Int) := match d with
  | .int i => some (some i)
  | _ => none
@[simp] theorem intO_i (i : Int) : intO (.int i) = some (some i) := Eq.trans rfl rfl
@[simp] theorem optI_s {f : Ev} : optI (some f) e = (f e).bnd intO := by
  simp only [optI]; rcases f e with _ | d
  · rfl
  · cases d <;> rfl
def zipO : List D → Option (List D)
  | [.lst _ xs, .lst _ ys] => if (immL xs && immL ys) = true then some (zipD xs ys) else none
  | [.tup xs, .tup ys] => if (immL xs && immL ys) = true then some (zipD xs ys) else none
  | _ => none
@[simp] theorem e_iZipB {f : EvL} : iZipB f e = (f e).bnd zipO := by
  unfold iZipB zipO; rcases f e with _ | ds
  · rfl
  · rcases ds with _ | ⟨d, _ | ⟨d2, _ | ⟨d3, ds⟩⟩⟩
    · rfl
    · cases d <;> rfl
    · cases d <;> cases d2 <;> rfl
    · cases d <;> cases d2 <;> rfl
@[simp] theorem zipO_lots (a b : List Lot) : zipO [.tup (a.map lotD), .tup (b.map lotD)] = some ((a.zip b).map fun p => .tup [lotD p.1, lotD p.2]) := by
  simp [zipO, zipD_map]
@[simp] theorem zipO_lotsT (a b : List Lot) : zipO [.tup (a.map lotD), .tup (b.map lotD).tail] = some ((a.zip b.tail).map fun p => .tup [lotD p.1, lotD p.2]) := by
  rw [tail_map', zipO_lots]
@[simp] theorem zipO_lotsL (m m' : Bool) (a b : List Lot) : zipO [.lst m (a.map lotD), .lst m' (b.map lotD)] = some ((a.zip b).map fun p => .tup [lotD p.1, lotD p.2]) := by
  simp [zipO, zipD_map]
@[simp] theorem zipO_lotsLT (m m' : Bool) (a b : List Lot) : zipO [.lst m (a.map lotD), .lst m' (b.map lotD).tail] = some ((a.zip b.tail).map fun p => .tup [lotD p.1, lotD p.2]) := by
  rw [tail_map', zipO_lotsL]
@[simp] theorem zipO_lot (a b : Lot) : zipO [lotD a, lotD b] = some ((a.zip b).map fun p => .tup [.int p.1, .int p.2]) := by
  simp [zipO, zipD_map, lotD]
theorem drop1_eq {α : Type} (xs : List α) : (xs.drop (HT.sIx xs.length 0 (some 1))).take (HT.sIx xs.length xs.length none - HT.sIx xs.length 0 (some 1)) = xs.drop 1 := by
  cases xs with
  | nil => rfl
  | cons x xs =>
    have e1 : HT.sIx (x :: xs).length 0 (some 1) = 1 := by simp [HT.sIx]
    have e2 : HT.sIx (x :: xs).length (x :: xs).length none = xs.length + 1 := by simp [HT.sIx]
    rw [e1, e2]
    simp
@[simp] theorem dSl1_tup (xs : List D) : dSl (some 1) none (.tup xs) = cif (immL xs) (some (.tup (xs.drop 1))) (none) := by
  have h : dSl (some 1) none (.tup xs) = if immL xs = true then some (.tup ((xs.drop (HT.sIx xs.length 0 (some 1))).take (HT.sIx xs.length xs.length none - HT.sIx xs.length 0 (some 1)))) else none := rfl
  rw [h, drop1_eq]
  cases immL xs <;> rfl
@[simp] theorem dSl1_lst (m : Bool) (xs : List D) : dSl (some 1) none (.lst m xs) = cif (immL xs) (some (.lst true (xs.drop 1))) (none) := by
  have h : dSl (some 1) none (.lst m xs) = if immL xs = true then some (.lst true ((xs.drop (HT.sIx xs.length 0 (some 1))).take (HT.sIx xs.length xs.length none - HT.sIx xs.length 0 (some 1)))) else none := rfl
  rw [h, drop1_eq]
  cases immL xs <;> rfl
@[simp] theorem dSl1_lot (k : Lot) : dSl (some 1) none (lotD k) = some (lotD (k.drop 1)) := by
  have := dSl1_tup (k.map D.int)
  simp at this
  simpa [lotD] using this
@[simp] theorem isi_lot_t (k : Lot) : dIsi .tuple (lotD k) = some (.bl true) := Eq.trans rfl rfl
@[simp] theorem isi_tup (k : List D) : dIsi .tuple (.tup k) = some (.bl true) := Eq.trans rfl rfl
@[simp] theorem len_lot (k : Lot) : dLen (lotD k) = some (.int k.length) := by simp [dLen, lotD]
@[simp] theorem len_tup (k : List D) : dLen (.tup k) = some (.int k.length) := Eq.trans rfl rfl
@[simp] theorem len_lst (m : Bool) (k : List D) : dLen (.lst m k) = some (.int k.length) := Eq.trans rfl rfl
@[simp] theorem points_fam (n : Int) (k : List D) : dPoints (.fam n k) = some (.int n) := Eq.trans rfl rfl
@[simp] theorem lots_fam (n : Int) (k : List D) : dLots (.fam n k) = some (.tup k) := Eq.trans rfl rfl
@[simp] theorem add_int (a b : Int) : dAdd (.int a) (.int b) = some (.int (a + b)) := Eq.trans rfl rfl
@[simp] theorem sub_int (a b : Int) : dSub (.int a) (.int b) = some (.int (a - b)) := Eq.trans rfl rfl
@[simp] theorem le_int (a b : Int) : dLe (.int a) (.int b) = some (.bl (decide (a ≤ b))) := Eq.trans rfl rfl
@[simp] theorem gt_int (a b : Int) : dGt (.int a) (.int b) = some (.bl (decide (b < a))) := Eq.trans rfl rfl
@[simp] theorem ge_int (a b : Int) : dGe (.int a) (.int b) = some (.bl (decide (b ≤ a))) := Eq.trans rfl rfl
@[simp] theorem lt_int (a b : Int) : dLt (.int a) (.int b) = some (.bl (decide (a < b))) := Eq.trans rfl rfl
@[simp] theorem lt_lot (a b : Lot) : dLt (lotD a) (lotD b) = some (.bl (ltI a b)) := by
  have h1 : alD (lotD a) (lotD b) = true := alD_lot (by simp [lotD, isLotD, isIntD]) (by simp [lotD, isLotD, isIntD])
  have h2 : dLt (lotD a) (lotD b) = if (okD 40 (lotD a) && okD 40 (lotD b) && alD (lotD a) (lotD b) && !isNon (lotD a)) = true then some (.bl (ltD (lotD a) (lotD b))) else none := rfl
  rw [h2, h1, ltD_lot]
  simp [isNon, lotD]
theorem dEq_of {a b : D} (h1 : okD 40 a = true := by simp) (h2 : okD 40 b = true := by simp) : dEq a b = some (.bl (eqD a b)) := by simp [dEq, h1, h2]
@[simp] theorem eq_int (a b : Int) : dEq (.int a) (.int b) = some (.bl (decide (a = b))) := by simp [dEq]
@[simp] theorem ne_int (a b : Int) : dNe (.int a) (.int b) = some (.bl (!decide (a = b))) := by simp [dNe]
@[simp] theorem eq_bl (a b : Bool) : dEq (.bl a) (.bl b) = some (.bl (decide (a = b))) := by simp [dEq]
@[simp] theorem ne_bl (a b : Bool) : dNe (.bl a) (.bl b) = some (.bl (!decide (a = b))) := by simp [dNe]
@[simp] theorem eq_lot (a b : Lot) : dEq (lotD a) (lotD b) = some (.bl (decide (a = b))) := by simp [dEq]
@[simp] theorem ne_lot (a b : Lot) : dNe (lotD a) (lotD b) = some (.bl (!decide (a = b))) := by simp [dNe]
@[simp] theorem eq_lotsT (a b : List Lot) : dEq (.tup (a.map lotD)) (.tup (b.map lotD)) = some (.bl (decide (a = b))) := by simp [dEq]
@[simp] theorem ne_lotsT (a b : List Lot) : dNe (.tup (a.map lotD)) (.tup (b.map lotD)) = some (.bl (!decide (a = b))) := by simp [dNe]
theorem inSeq_map {α : Type} [DecidableEq α] {f : α → D} (h : ∀ x y, eqD (f x) (f y) = decide (x = y)) (a : α) (k : List α) : inSeq (f a) (k.map f) = k.contains a := by
  unfold inSeq
  rw [List.any_map, List.contains_eq_any_beq]
  congr 1
  funext x
  simp only [Function.comp, h]
  by_cases q : x = a
  · subst q; simp
  · have q2 : ¬ a = x := fun e => q e.symm
    simp [q, q2]
@[simp] theorem in_lot (i : Int) (k : Lot) : dIn (.int i) (lotD k) = some (.bl (k.contains i)) := by
  show (if (okD 20 (.int i) && okL 20 (k.map D.int)) = true then some (D.bl (inSeq (.int i) (k.map D.int))) else none) = _
  rw [inSeq_map eqD_int]; simp
@[simp] theorem notin_lot (i : Int) (k : Lot) : dNotIn (.int i) (lotD k) = some (.bl (!k.contains i)) := by
  show (if (okD 20 (.int i) && okL 20 (k.map D.int)) = true then some (D.bl (!inSeq (.int i) (k.map D.int))) else none) = _
  rw [inSeq_map eqD_int]; simp
@[simp] theorem in_lots (i : Lot) (k : List Lot) : dIn (lotD i) (.tup (k.map lotD)) = some (.bl (k.contains i)) := by
  show (if (okD 20 (lotD i) && okL 20 (k.map lotD)) = true then some (D.bl (inSeq (lotD i) (k.map lotD))) else none) = _
  rw [inSeq_map eqD_lot]; simp
@[simp] theorem in_lotsL (m : Bool) (i : Lot) (k : List Lot) : dIn (lotD i) (.lst m (k.map lotD)) = some (.bl (k.contains i)) := by
  show (if (okD 20 (lotD i) && okL 20 (k.map lotD)) = true then some (D.bl (inSeq (lotD i) (k.map lotD))) else none) = _
  rw [inSeq_map eqD_lot]; simp
@[simp] theorem in_intsL (m : Bool) (i : Int) (k : List Int) : dIn (.int i) (.lst m (k.map D.int)) = some (.bl (k.contains i)) := by
  show (if (okD 20 (.int i) && okL 20 (k.map D.int)) = true then some (D.bl (inSeq (.int i) (k.map D.int))) else none) = _
  rw [inSeq_map eqD_int]; simp
@[simp] theorem notin_intsL (m : Bool) (i : Int) (k : List Int) : dNotIn (.int i) (.lst m (k.map D.int)) = some (.bl (!k.contains i)) := by
  show (if (okD 20 (.int i) && okL 20 (k.map D.int)) = true then some (D.bl (!inSeq (.int i) (k.map D.int))) else none) = _
  rw [inSeq_map eqD_int]; simp
theorem map_intF {α : Type} (f : α → Int) (xs : List α) : (xs.map fun x => D.int (f x)) = (xs.map f).map D.int := by simp
@[simp] theorem in_intsF {α : Type} (m : Bool) (i : Int) (f : α → Int) (k : List α) : dIn (.int i) (.lst m (k.map fun x => D.int (f x))) = some (.bl ((k.map f).contains i)) := by rw [map_intF, in_intsL]
@[simp] theorem notin_intsF {α : Type} (m : Bool) (i : Int) (f : α → Int) (k : List α) : dNotIn (.int i) (.lst m (k.map fun x => D.int (f x))) = some (.bl (!(k.map f).contains i)) := by rw [map_intF, notin_intsL]
@[simp] theorem dIx_lst {m : Bool} {xs : List D} {i : Int} : dIx (.lst m xs) (.int i) = atI xs i := Eq.trans rfl rfl
@[simp] theorem dIx_tup {xs : List D} {i : Int} : dIx (.tup xs) (.int i) = atI xs i := Eq.trans rfl rfl
@[simp] theorem dIxS_lst {m : Bool} {xs : List D} {i : Int} : dIxS (.lst m xs) (.int i) = atI xs i := Eq.trans rfl rfl
@[simp] theorem dIxS_tup {xs : List D} {i : Int} : dIxS (.tup xs) (.int i) = atI xs i := Eq.trans rfl rfl
@[simp] theorem atI_zero {α : Type} (xs : List α) : atI xs 0 = xs.head? := by
  cases xs with
  | nil => rfl
  | cons x xs => simp [atI, ixN]
@[simp] theorem mod_int (a b : Int) : dMod (.int a) (.int b) = cif (decide (0 < b)) (some (.int (a % b))) none := by
  show (if decide (0 < b) = true then some (D.int (a % b)) else none) = _
  cases decide (0 < b) <;> rfl
@[simp] theorem div_int (a b : Int) : dDiv (.int a) (.int b) = cif (decide (0 < b) && decide (b < 1073741824)) (some (.int (a / b))) none := by
  show (if (decide (0 < b) && decide (b < 1073741824)) = true then some (D.int (a / b)) else none) = _
  cases (decide (0 < b) && decide (b < 1073741824)) <;> rfl
@[simp] theorem mul_int (a b : Int) : dMul (.int a) (.int b) = cif (small64 a || small64 b) (some (.int (a * b))) none := by
  show (if (small64 a || small64 b) = true then some (D.int (a * b)) else none) = _
  cases (small64 a || small64 b) <;> rfl
theorem small_of {a : Int} (h1 : 0 ≤ a) (h2 : a < 4294967296) : small64 a = true := by
  unfold small64; exact decide_eq_true ⟨by omega, by omega⟩
@[simp] theorem hs1 : small64 69621 = true := by decide
@[simp] theorem hs2 : small64 7919 = true := by decide
@[simp] theorem hs3 : small64 48271 = true := by decide
@[simp] theorem pow18 : dPow (.int 10) (.int 18) = some (.int 1000000000000000000) := by simp [dPow]
theorem atI_cell {cells : List Int} {i : Int} (h0 : 0 ≤ i) (h1 : i < cells.length) : ∃ x ∈ cells, atI (cells.map D.int) i = some (.int x) := by
  have hn : i.toNat < cells.length := by omega
  refine ⟨cells[i.toNat], List.getElem_mem hn, ?_⟩
  have e : ixN cells.length i = some i.toNat := by simp [ixN, h0, h1]
  simp [atI, e, List.getElem?_eq_getElem hn]
theorem atI_mapP {α : Type} (f : α → D) {xs : List α} {i : Int} (h0 : 0 ≤ i) (h1 : i < xs.length) : ∃ x ∈ xs, atI (xs.map f) i = some (f x) := by
  have hn : i.toNat < xs.length := by omega
  refine ⟨xs[i.toNat], List.getElem_mem hn, ?_⟩
  have e : ixN xs.length i = some i.toNat := by simp [ixN, h0, h1]
  simp [atI, e, List.getElem?_eq_getElem hn]
@[simp] theorem tuple_lst (m : Bool) (xs : List D) : dTuple (.lst m xs) = cif (immL xs) (some (.tup xs)) (none) := by cases h : immL xs <;> simp [dTuple, h]
@[simp] theorem tuple_tup (xs : List D) : dTuple (.tup xs) = cif (immL xs) (some (.tup xs)) (none) := by cases h : immL xs <;> simp [dTuple, h]
@[simp] theorem list_lst (m : Bool) (xs : List D) : dList (.lst m xs) = cif (immL xs) (some (.lst true xs)) (none) := by cases h : immL xs <;> simp [dList, h]
@[simp] theorem list_tup (xs : List D) : dList (.tup xs) = cif (immL xs) (some (.lst true xs)) (none) := by cases h : immL xs <;> simp [dList, h]
@[simp] theorem int_int (a : Int) : dInt (.int a) = some (.int a) := Eq.trans rfl rfl
@[simp] theorem abs_int (a : Int) : dAbs (.int a) = some (.int (if a < 0 then -a else a)) := Eq.trans rfl rfl
theorem tup_ints (k : List Int) : D.tup (k.map D.int) = lotD k := rfl
@[simp] theorem sortset_lots (ls : List Lot) : dSortSet2 (.tup (ls.map lotD)) = if ls.length < 64 then some (.lst true ((sortI ls).map lotD)) else none := by simp [dSortSet2]
@[simp] theorem sortset_lotsL (m : Bool) (ls : List Lot) : dSortSet2 (.lst m (ls.map lotD)) = if ls.length < 64 then some (.lst true ((sortI ls).map lotD)) else none := by simp [dSortSet2]
@[simp] theorem isIns_ins (m : Bool) (c c' : Nat) (ds : List D) : isIns c (.ins m c' ds) = (c' == c) := Eq.trans rfl rfl
@[simp] theorem e_pDct0 : pDct0 e = some (.dct true false [] []) := Eq.trans rfl rfl
@[simp] theorem e_pFam {c : Nat} {f : Ev} : pFam c f e = (f e).bnd (toFam c) := by unfold pFam; cases f e <;> rfl
def finF (n : Nat) (a : Option (Out × List D)) : Option (D × List D) := match a with
  | some (.rt d, e') => if n ≤ e'.length then some (d, e'.take n) else none
  | some (.nx, e') => if n ≤ e'.length then some (.non, e'.take n) else none
  | _ => none
@[simp] theorem finF_rt {n : Nat} : finF n (some (.rt d, e)) = if n ≤ e.length then some (d, e.take n) else none := Eq.trans rfl rfl
@[simp] theorem finF_nx {n : Nat} : finF n (some (.nx, e)) = if n ≤ e.length then some (.non, e.take n) else none := Eq.trans rfl rfl
@[simp] theorem finF_none {n : Nat} : finF n none = none := Eq.trans rfl rfl
@[simp] theorem finF_cond {n : Nat} {b : Bool} {x y : Option (Out × List D)} : finF n (cif (b) (x) (y)) = cif (b) (finF n x) (finF n y) := by cases b <;> rfl
@[simp] theorem finF_ite {n : Nat} {p : Prop} [Decidable p] {x y : Option (Out × List D)} : finF n (if p then x else y) = if p then finF n x else finF n y := by split <;> rfl
@[simp] theorem e_runF {md : List Md} {loc : Nat} {b : EvS} {ds : List D} : runF md loc b ds = finF md.length (b (ds ++ List.replicate loc .undef)) := Eq.trans rfl rfl
@[simp] theorem undefs0 : undefs [] e = e := Eq.trans rfl rfl
@[simp] theorem undefs1 {v : Nat} {vs : List Nat} : undefs (v :: vs) e = (undefs vs e).set v .undef := Eq.trans rfl rfl
end
end TL
end
section
set_option maxRecDepth 100000
/-! Walks: comprehensions that change trees, loops; kept answers. -/
namespace TL
open PySem PySem.Spec PyProof.Rows L2 TL.Bite
theorem compM_st {α σ : Type} {i : Nat} {own : List Nat} {t : EvTM} {f : EvM} (enc : α → D) (p : α → Bool) (h : α → D) (E : σ → List D) (J : σ → Prop) (hi : ∀ s, i < (E s).length) : ∀ (xs : List α) (e : List D) (s : σ), undefs own e = E s → J s →
    (∀ x ∈ xs, ∀ s, J s → ∃ e2, t ((E s).set i (enc x)) = some (p x, e2) ∧ (p x = true → ∃ s' e3, f e2 = some (h x, e3) ∧ undefs own e3 = E s' ∧ J s') ∧ (p x = false → ∃ s', undefs own e2 = E s' ∧ J s')) →
    ∃ s', compM (.nm i) own t f (xs.map enc) e = some ((xs.filter p).map h, E s') ∧ J s'
  | [], e, s, he, hj, _ => ⟨s, by simp [compM, he], hj⟩
  | x :: xs, e, s, he, hj, H => by
    obtain ⟨e2, h1, h2, h3⟩ := H x (List.mem_cons_self ..) s hj
    have H' : ∀ x ∈ xs, _ := fun y hy => H y (List.mem_cons_of_mem _ hy)
    simp only [List.map_cons, compM, he, bindN, gNm, hi s, if_true, h1]
    cases q : p x with
    | true =>
      obtain ⟨s1, e3, h4, h5, h6⟩ := h2 q
      obtain ⟨s2, h7, h8⟩ := compM_st enc p h E J hi xs e3 s1 h5 h6 H'
      exact ⟨s2, by simp only [h4, h7, List.filter_cons_of_pos q, List.map_cons], h8⟩
    | false =>
      obtain ⟨s1, h5, h6⟩ := h3 q
      obtain ⟨s2, h7, h8⟩ := compM_st enc p h E J hi xs e2 s1 h5 h6 H'
      exact ⟨s2, by simp only [h7, List.filter_cons_of_neg (show ¬ p x = true by simp [q])], h8⟩
/-- what is found is not known beforehand -/
theorem compM_any {α β σ : Type} {i : Nat} {own : List Nat} {t : EvTM} {f : EvM} (enc : α → D) (dec : β → D) (P : β → Prop) (E : σ → List D) (J : σ → Prop) (hi : ∀ s, i < (E s).length) : ∀ (xs : List α) (e : List D) (s : σ), undefs own e = E s → J s →
    (∀ x ∈ xs, ∀ s, J s → ∃ b e2, t ((E s).set i (enc x)) = some (b, e2) ∧ (b = true → ∃ y s' e3, f e2 = some (dec y, e3) ∧ P y ∧ undefs own e3 = E s' ∧ J s') ∧ (b = false → ∃ s', undefs own e2 = E s' ∧ J s')) →
    ∃ (ys : List β) (s' : σ), compM (.nm i) own t f (xs.map enc) e = some (ys.map dec, E s') ∧ J s' ∧ (∀ y ∈ ys, P y) ∧ ys.length ≤ xs.length
  | [], e, s, he, hj, _ => ⟨[], s, by simp [compM, he], hj, by simp, by simp⟩
  | x :: xs, e, s, he, hj, H => by
    obtain ⟨b, e2, h1, h2, h3⟩ := H x (List.mem_cons_self ..) s hj
    have H' : ∀ x ∈ xs, _ := fun y hy => H y (List.mem_cons_of_mem _ hy)
    simp only [List.map_cons, compM, he, bindN, gNm, hi s, if_true, h1]
    cases b with
    | true =>
      obtain ⟨y, s1, e3, h4, hy, h5, h6⟩ := h2 rfl
      obtain ⟨ys, s2, h7, h8, h9, h10⟩ := compM_any enc dec P E J hi xs e3 s1 h5 h6 H'
      refine ⟨y :: ys, s2, by simp only [h4, h7, List.map_cons], h8, fun z hz => ?_, by simp [h10]⟩
      rcases List.mem_cons.mp hz with rfl | hz
      · exact hy
      · exact h9 z hz
    | false =>
      obtain ⟨s1, h5, h6⟩ := h3 rfl
      obtain ⟨ys, s2, h7, h8, h9, h10⟩ := compM_any enc dec P E J hi xs e2 s1 h5 h6 H'
      exact ⟨ys, s2, by simp only [h7], h8, h9, by simp only [List.length_cons]; omega⟩
theorem compM_each {α β σ : Type} {i : Nat} {own : List Nat} {f : EvM} (enc : α → D) (dec : β → D) (P : β → Prop) (E : σ → List D) (J : σ → Prop) (hi : ∀ s, i < (E s).length) : ∀ (xs : List α) (e : List D) (s : σ), undefs own e = E s → J s →
    (∀ x ∈ xs, ∀ s, J s → ∃ y s' e3, f ((E s).set i (enc x)) = some (dec y, e3) ∧ P y ∧ undefs own e3 = E s' ∧ J s') →
    ∃ (ys : List β) (s' : σ), compM (.nm i) own (mT tYesT) f (xs.map enc) e = some (ys.map dec, E s') ∧ J s' ∧ (∀ y ∈ ys, P y) ∧ ys.length = xs.length
  | [], e, s, he, hj, _ => ⟨[], s, by simp [compM, he], hj, by simp, by simp⟩
  | x :: xs, e, s, he, hj, H => by
    obtain ⟨y, s1, e3, h4, hy, h5, h6⟩ := H x (List.mem_cons_self ..) s hj
    have H' : ∀ x ∈ xs, _ := fun y hy => H y (List.mem_cons_of_mem _ hy)
    obtain ⟨ys, s2, h7, h8, h9, h10⟩ := compM_each enc dec P E J hi xs e3 s1 h5 h6 H'
    simp only [List.map_cons, compM, he, bindN, gNm, hi s, if_true]
    refine ⟨y :: ys, s2, by simp [h4, h7], h8, fun z hz => ?_, by simp [h10]⟩
    rcases List.mem_cons.mp hz with rfl | hz
    · exact hy
    · exact h9 z hz
/-! ### loops -/
theorem runFor_inv {α : Type} {T : Tg} {f : EvS} (enc : α → D) (I : List D → Prop) : ∀ (xs : List α) (e : List D), I e →
    (∀ x ∈ xs, ∀ e, I e → ∃ e1 e2, bindN T (enc x) e = some e1 ∧ f e1 = some (.nx, e2) ∧ I e2) → ∃ e', runFor T f (xs.map enc) e = some (.nx, e') ∧ I e'
  | [], e, h, _ => ⟨e, rfl, h⟩
  | x :: xs, e, h, H => by
    obtain ⟨e1, e2, h1, h2, h3⟩ := H x (List.mem_cons_self ..) e h
    obtain ⟨e', h4, h5⟩ := runFor_inv enc I xs e2 h3 fun y hy => H y (List.mem_cons_of_mem _ hy)
    exact ⟨e', by simp only [List.map_cons, runFor, h1, h2, h4], h5⟩
theorem runFor_fold {α : Type} {T : Tg} {f : EvS} (enc : α → D) (I : List α → List D → Prop) : ∀ (xs pre : List α) (e : List D), I pre e →
    (∀ x ∈ xs, ∀ pre e, I pre e → ∃ e1 e2, bindN T (enc x) e = some e1 ∧ f e1 = some (.nx, e2) ∧ I (pre ++ [x]) e2) → ∃ e', runFor T f (xs.map enc) e = some (.nx, e') ∧ I (pre ++ xs) e'
  | [], pre, e, h, _ => ⟨e, rfl, by simpa using h⟩
  | x :: xs, pre, e, h, H => by
    obtain ⟨e1, e2, h1, h2, h3⟩ := H x (List.mem_cons_self ..) pre e h
    obtain ⟨e', h4, h5⟩ := runFor_fold enc I xs (pre ++ [x]) e2 h3 fun y hy => H y (List.mem_cons_of_mem _ hy)
    exact ⟨e', by simp only [List.map_cons, runFor, h1, h2, h4], by simpa using h5⟩
/-- the same, of a run that stands in a goal -/
theorem runFor_of {α : Type} {T : Tg} {f : EvS} {enc : α → D} {xs : List α} {e : List D} {r : Option (Out × List D)} (hc : runFor T f (xs.map enc) e = r) (I : List α → List D → Prop) (h0 : I [] e)
    (H : ∀ x ∈ xs, ∀ pre e, I pre e → ∃ e1 e2, bindN T (enc x) e = some e1 ∧ f e1 = some (.nx, e2) ∧ I (pre ++ [x]) e2) : ∃ e', r = some (.nx, e') ∧ I xs e' := by
  rw [← hc]
  exact runFor_fold enc I xs [] e h0 H
theorem compM_of {α σ : Type} {i : Nat} {own : List Nat} {t : EvTM} {f : EvM} {enc : α → D} {xs : List α} {e : List D} {r : Option (List D × List D)} (hc : compM (.nm i) own t f (xs.map enc) e = r) (p : α → Bool) (h : α → D) (E : σ → List D) (J : σ → Prop) (hi : ∀ s, i < (E s).length) (s : σ) (he : undefs own e = E s) (hj : J s)
    (H : ∀ x ∈ xs, ∀ s, J s → ∃ e2, t ((E s).set i (enc x)) = some (p x, e2) ∧ (p x = true → ∃ s' e3, f e2 = some (h x, e3) ∧ undefs own e3 = E s' ∧ J s') ∧ (p x = false → ∃ s', undefs own e2 = E s' ∧ J s')) :
    ∃ s', r = some ((xs.filter p).map h, E s') ∧ J s' := by
  rw [← hc]
  exact compM_st enc p h E J hi xs e s he hj H
theorem compM_ofE {α β σ : Type} {i : Nat} {own : List Nat} {f : EvM} {enc : α → D} {xs : List α} {e : List D} {r : Option (List D × List D)} (hc : compM (.nm i) own (mT tYesT) f (xs.map enc) e = r) (dec : β → D) (P : β → Prop) (E : σ → List D) (J : σ → Prop) (hi : ∀ s, i < (E s).length) (s : σ) (he : undefs own e = E s) (hj : J s)
    (H : ∀ x ∈ xs, ∀ s, J s → ∃ y s' e3, f ((E s).set i (enc x)) = some (dec y, e3) ∧ P y ∧ undefs own e3 = E s' ∧ J s') :
    ∃ (ys : List β) (s' : σ), r = some (ys.map dec, E s') ∧ J s' ∧ (∀ y ∈ ys, P y) ∧ ys.length = xs.length := by
  rw [← hc]
  exact compM_each enc dec P E J hi xs e s he hj H
theorem runW_count {q : EvTM} {f : EvS} (E : Nat → List D) : ∀ (m k fuel : Nat), m < fuel → (∀ j, k ≤ j → j < k + m → q (E j) = some (true, E j) ∧ f (E j) = some (.nx, E (j + 1))) → q (E (k + m)) = some (false, E (k + m)) → runW q f fuel (E k) = some (.nx, E (k + m))
  | 0, k, 0, h, _, _ => absurd h (Nat.lt_irrefl _)
  | 0, k, fuel + 1, h, _, h2 => by simp only [Nat.add_zero] at h2 ⊢; simp only [runW, h2]
  | m + 1, k, 0, h, _, _ => by omega
  | m + 1, k, fuel + 1, h, H, h2 => by
    obtain ⟨a, b⟩ := H k (Nat.le_refl _) (by omega)
    have := runW_count E m (k + 1) fuel (by omega) (fun j h1 h3 => H j (by omega) (by omega)) (by rw [show k + 1 + m = k + (m + 1) by omega]; exact h2)
    simp only [runW, a, b]
    rw [this, show k + 1 + m = k + (m + 1) by omega]
/-! ### a dict of numbers -/
theorem hasD_app (i : D) (k : D) : ∀ ks : List D, hasD i (ks ++ [k]) = (hasD i ks || eqD k i)
  | [] => by simp [hasD]
  | x :: ks => by simp [hasD, hasD_app i k ks, Bool.or_assoc]
theorem hasD_put (i k : Int) (ks : List D) : hasD (.int i) (putK' (.int k) ks) = (hasD (.int i) ks || decide (k = i)) := by
  unfold putK'
  cases h : hasD (.int k) ks with
  | true =>
    by_cases q : k = i
    · subst q; simp [h]
    · simp [q]
  | false => simp [hasD_app]
theorem foldP_ints {α : Type} (f : α → Int) (v : D) : ∀ (xs : List α) (ks vs : List D), ∃ ks' vs', foldP (xs.map fun x => .tup [.int (f x), v]) ks vs = some (ks', vs') ∧ ∀ i, hasD (.int i) ks' = (hasD (.int i) ks || (xs.map f).contains i)
  | [], ks, vs => ⟨ks, vs, rfl, fun i => by simp⟩
  | x :: xs, ks, vs => by
    obtain ⟨ks', vs', h1, h2⟩ := foldP_ints f v xs (putK' (.int (f x)) ks) (putV (.int (f x)) v ks vs)
    refine ⟨ks', vs', by simp only [List.map_cons, foldP, h1], fun i => ?_⟩
    have q : (i == f x) = decide (f x = i) := by
      by_cases q : f x = i
      · subst q; simp
      · have q2 : ¬ i = f x := fun e => q e.symm
        rw [decide_eq_false q, beq_eq_false_iff_ne.mpr q2]
    rw [h2, hasD_put, List.map_cons, List.contains_cons, Bool.or_assoc, q]
theorem dict_ints {α : Type} (m : Bool) (f : α → Int) (xs : List α) (hl : xs.length ≤ 16000000) : ∃ ks vs, dDict (.lst m (xs.map fun x => .tup [.int (f x), .bl true])) = some (.dct true false ks vs) ∧ ∀ i, dIn (.int i) (.dct true false ks vs) = some (.bl ((xs.map f).contains i)) := by
  obtain ⟨ks, vs, h1, h2⟩ := foldP_ints f (.bl true) xs [] []
  have e2 : immL (xs.map fun x => D.tup [.int (f x), .bl true]) = true := immL_map (fun x => by simp) xs
  have e3 : ∀ xs : List α, allKey isKeyD (xs.map fun x => D.tup [.int (f x), .bl true]) = true := fun xs => by
    induction xs with
    | nil => rfl
    | cons l ls ih => simp [allKey, isKeyD, ih]
  refine ⟨ks, vs, ?_, fun i => ?_⟩
  · have : (xs.map fun x => D.tup [.int (f x), .bl true]).length ≤ 16000000 := by simpa using hl
    simp only [dDict, e2, lim_of this, e3, h1]
    rfl
  · simp only [dIn, dInDict, isKeyD, if_true, h2]
    simp [hasD]
/-! ### kept answers -/
def pws {α : Type} : List α → List (List α)
  | [] => [[]]
  | x :: xs => pws xs ++ (pws xs).map fun k => x :: k
theorem pws_len {α : Type} : ∀ xs : List α, (pws xs).length = 2 ^ xs.length
  | [] => rfl
  | x :: xs => by simp [pws, pws_len xs]; omega
theorem mem_pws {α : Type} : ∀ {xs k : List α}, k.Sublist xs → k ∈ pws xs
  | [], k, h => by
    have := List.sublist_nil.mp h
    simp [pws, this]
  | x :: xs, k, h => by
    cases h with
    | cons _ h => exact List.mem_append_left _ (mem_pws h)
    | cons_cons _ h => exact List.mem_append_right _ (List.mem_map_of_mem (mem_pws h))
theorem nodup_len {α : Type} [DecidableEq α] : ∀ (xs ys : List α), xs.Nodup → (∀ x ∈ xs, x ∈ ys) → xs.length ≤ ys.length
  | [], ys, _, _ => Nat.zero_le _
  | x :: xs, ys, nd, h => by
    have hx := h x (List.mem_cons_self ..)
    have ih := nodup_len xs (ys.erase x) (List.nodup_cons.mp nd).2 fun y hy => by
      have : y ≠ x := fun e => (List.nodup_cons.mp nd).1 (e ▸ hy)
      exact (List.mem_erase_of_ne this).mpr (h y (List.mem_cons_of_mem _ hy))
    rw [List.length_erase_of_mem hx] at ih
    have := List.length_pos_of_mem hx
    simp only [List.length_cons]; omega
theorem keyT_lot (k : Lot) : keyT (lotD k) = true := by
  have : ∀ k : List Int, nkOkL 7 (k.map D.int) = true := fun k => by
    induction k with
    | nil => simp [nkOkL]
    | cons i k ih => simp [nkOkL, nkOk, ih]
  simp [keyT, isTupD, lotD, nkOk, this]
theorem isKeyD_lot (k : Lot) : isKeyD (lotD k) = false := rfl
theorem keyT_lots (ls : List Lot) : keyT (.tup (ls.map lotD)) = true := by
  have h1 : ∀ k : List Int, nkOkL 6 (k.map D.int) = true := fun k => by
    induction k with
    | nil => simp [nkOkL]
    | cons i k ih => simp [nkOkL, nkOk, ih]
  have : ∀ k : List Lot, nkOkL 7 (k.map lotD) = true := fun k => by
    induction k with
    | nil => simp [nkOkL]
    | cons i k ih => simp [nkOkL, nkOk, ih, lotD, h1]
  simp [keyT, isTupD, nkOk, this]
theorem hasD_map {α : Type} [DecidableEq α] {f : α → D} (hf : ∀ x y, eqD (f x) (f y) = decide (x = y)) (k : α) : ∀ ls : List α, hasD (f k) (ls.map f) = decide (k ∈ ls)
  | [] => by simp [hasD]
  | l :: ls => by
    simp only [List.map_cons, hasD, hasD_map hf k ls, hf, List.mem_cons]
    by_cases h : l = k
    · subst h; simp
    · have h2 : ¬ k = l := fun e => h e.symm
      simp [h, h2]
theorem eqD_lotsT (a b : List Lot) : eqD (lotsT a) (lotsT b) = decide (a = b) := by simp
theorem findD_map {α : Type} [DecidableEq α] {f v : α → D} (hf : ∀ x y, eqD (f x) (f y) = decide (x = y)) (k : α) : ∀ ls : List α, k ∈ ls → findD (f k) (ls.map f) (ls.map v) = some (v k)
  | [], h => by simp at h
  | l :: ls, h => by
    simp only [List.map_cons, findD, hf]
    by_cases q : l = k
    · subst q; simp
    · simp only [decide_eq_true_eq, q, if_false]
      exact findD_map hf k ls ((List.mem_cons.mp h).resolve_left fun e => q e.symm)
theorem putV_new {α : Type} [DecidableEq α] {f v : α → D} (hf : ∀ x y, eqD (f x) (f y) = decide (x = y)) (k : α) (d : D) : ∀ ls : List α, k ∉ ls → putV (f k) d (ls.map f) (ls.map v) = ls.map v ++ [d]
  | [], h => rfl
  | l :: ls, h => by
    rw [List.mem_cons, not_or] at h
    have q : ¬ l = k := fun e => h.1 e.symm
    simp [putV, hf, q, putV_new hf k d ls h.2]
/-- a dict from lots' tuples that keeps v's answers, of part lists of U -/
def KeptL (U : List Lot) (v : List Lot → D) (d : D) : Prop := ∃ t ks, d = .dct true t (ks.map lotsT) (ks.map v) ∧ (t = false → ks = []) ∧ ks.Nodup ∧ ∀ k ∈ ks, k.Sublist U
theorem KeptL.empty (U : List Lot) (v : List Lot → D) : KeptL U v (.dct true false [] []) := ⟨false, [], rfl, fun _ => rfl, .nil, fun k h => by simp at h⟩
theorem KeptL.asked {U : List Lot} {v : List Lot → D} {d : D} (h : KeptL U v d) (ls : List Lot) (hu : ls.Sublist U) (hU : U.length ≤ 20) :
    (dNotIn (lotsT ls) d = some (.bl false) ∧ dIx d (lotsT ls) = some (v ls)) ∨
    (dNotIn (lotsT ls) d = some (.bl true) ∧ ∀ d1, KeptL U v d1 → ∃ d', dPut d1 (lotsT ls) (v ls) = some d' ∧ KeptL U v d' ∧ dIx d' (lotsT ls) = some (v ls)) := by
  have putk : ∀ d1, KeptL U v d1 → ∃ d', dPut d1 (lotsT ls) (v ls) = some d' ∧ KeptL U v d' ∧ dIx d' (lotsT ls) = some (v ls) := by
    rintro _ ⟨t, ks, rfl, h1, h2, h3⟩
    have kl : ks.length ≤ 2 ^ 20 := by
      have := nodup_len ks (pws U) h2 fun k hk => mem_pws (h3 k hk)
      rw [pws_len] at this
      have := Nat.pow_le_pow_right (n := 2) (by omega) hU
      omega
    have kl' : lim (ks.length + 1) = true := lim_of (by omega)
    cases t with
    | false =>
      have e := h1 rfl
      subst e
      refine ⟨.dct true true [lotsT ls] [v ls], ?_, ⟨true, [ls], rfl, fun q => (nomatch q), by simp, by simpa using hu⟩, ?_⟩
      · simp [dPut, isKeyD, keyT_lots]
      · simp [dIx, keyT_lots, findD]
    | true =>
      by_cases q : ls ∈ ks
      · have pv : putV (lotsT ls) (v ls) (ks.map lotsT) (ks.map v) = ks.map v := by
          clear kl kl' h1 h2 h3
          induction ks with
          | nil => simp at q
          | cons k ks ih =>
            by_cases z : k = ls
            · subst z; simp [putV, eqD_lotsT]
            · simp [putV, z, ih ((List.mem_cons.mp q).resolve_left fun e => z e.symm)]
        have hs : hasD (lotsT ls) (ks.map lotsT) = true := by rw [hasD_map eqD_lotsT]; simpa using q
        refine ⟨.dct true true (ks.map lotsT) (ks.map v), ?_, ⟨true, ks, rfl, fun q => (nomatch q), h2, h3⟩, ?_⟩
        · have : dPut (.dct true true (ks.map lotsT) (ks.map v)) (lotsT ls) (v ls) = if (keyT (lotsT ls) && lim ((ks.map lotsT).length + 1)) = true then some (.dct true true (putK' (lotsT ls) (ks.map lotsT)) (putV (lotsT ls) (v ls) (ks.map lotsT) (ks.map v))) else none := rfl
          rw [this, pv, putK', hs, List.length_map, kl', keyT_lots]; rfl
        · have : dIx (.dct true true (ks.map lotsT) (ks.map v)) (lotsT ls) = if keyT (lotsT ls) = true then findD (lotsT ls) (ks.map lotsT) (ks.map v) else none := rfl
          rw [this, keyT_lots, findD_map eqD_lotsT ls ks q]; rfl
      · have hs : hasD (lotsT ls) (ks.map lotsT) = false := by rw [hasD_map eqD_lotsT]; simpa using q
        have pv := putV_new (v := v) eqD_lotsT ls (v ls) ks q
        refine ⟨.dct true true ((ks ++ [ls]).map lotsT) ((ks ++ [ls]).map v), ?_, ⟨true, ks ++ [ls], rfl, fun q => (nomatch q), ?_, fun k hk => ?_⟩, ?_⟩
        · have : dPut (.dct true true (ks.map lotsT) (ks.map v)) (lotsT ls) (v ls) = if (keyT (lotsT ls) && lim ((ks.map lotsT).length + 1)) = true then some (.dct true true (putK' (lotsT ls) (ks.map lotsT)) (putV (lotsT ls) (v ls) (ks.map lotsT) (ks.map v))) else none := rfl
          rw [this, pv, putK', hs, List.length_map, kl', keyT_lots]; simp
        · rw [List.nodup_append]
          exact ⟨h2, by simp, fun a ha b hb e => by rw [List.mem_singleton] at hb; subst hb; subst e; exact q ha⟩
        · rcases List.mem_append.mp hk with hk | hk
          · exact h3 k hk
          · rw [List.mem_singleton] at hk; subst hk; exact hu
        · have : dIx (.dct true true ((ks ++ [ls]).map lotsT) ((ks ++ [ls]).map v)) (lotsT ls) = if keyT (lotsT ls) = true then findD (lotsT ls) ((ks ++ [ls]).map lotsT) ((ks ++ [ls]).map v) else none := rfl
          rw [this, keyT_lots, findD_map eqD_lotsT ls _ (by simp)]; rfl
  obtain ⟨t, ks, rfl, h1, h2, h3⟩ := h
  cases t with
  | false =>
    have e := h1 rfl
    subst e
    exact .inr ⟨by simp [dNotIn, dInDict, isKeyD, keyT_lots], putk⟩
  | true =>
    have e1 : dNotIn (lotsT ls) (.dct true true (ks.map lotsT) (ks.map v)) = some (.bl (!decide (ls ∈ ks))) := by
      simp only [dNotIn, dInDict, keyT_lots, if_true, hasD_map eqD_lotsT]
      by_cases q : ls ∈ ks <;> simp [q]
    by_cases q : ls ∈ ks
    · refine .inl ⟨by rw [e1]; simp [q], ?_⟩
      have : dIx (.dct true true (ks.map lotsT) (ks.map v)) (lotsT ls) = if keyT (lotsT ls) = true then findD (lotsT ls) (ks.map lotsT) (ks.map v) else none := rfl
      rw [this, keyT_lots, findD_map eqD_lotsT ls ks q]; rfl
    · exact .inr ⟨by rw [e1]; simp [q], putk⟩
theorem KeptL.slot {U : List Lot} {v : List Lot → D} {d : D} (h : KeptL U v d) (e : List D) : slot (d :: e) 0 = some d := by
  obtain ⟨t, ks, rfl, _⟩ := h; rfl
theorem KeptL.imm {U : List Lot} {v : List Lot → D} {d : D} (h : KeptL U v d) : imm d = false := by
  obtain ⟨t, ks, rfl, _⟩ := h; rfl
end TL
end
section
set_option maxRecDepth 100000
/-! The calculus of mirrors: enumerate, extend, max, min, ranges as values, classes made of what changes. -/
namespace TL
open PySem PySem.Spec PyProof.Rows L2 TL.Bite
section
variable {d : D} {e : List D} {i j : Nat}
@[simp] theorem e_iEnB {f : Ev} : iEnB f e = (f e).bnd enD := by unfold iEnB; cases f e <;> rfl
@[simp] theorem e_iEnM {f : EvM} : iEnM f e = (f e).bnd fun p => (enD p.1).bnd fun xs => some (xs, p.2) := by
  unfold iEnM; rcases f e with _ | ⟨d, e1⟩
  · rfl
  · simp only [Option.bnd]; cases enD d <;> rfl
@[simp] theorem e_mExt {get : List D → Option D} {put : List D → D → List D} {h : EvM} : mExt get put h e = (get e).bnd fun c0 => cif (isLst c0) ((h e).bnd fun p => (get p.2).bnd fun c => (dExt c p.1).bnd fun c' => some (.non, put p.2 c')) none := by
  unfold mExt; cases get e with
  | none => rfl
  | some c0 => simp only [Option.bnd]; cases isLst c0 with
    | false => rfl
    | true => simp only [cif_t, if_true]; rcases h e with _ | ⟨d, e1⟩
              · rfl
              · simp only; cases get e1 with
                | none => rfl
                | some c => simp only; cases dExt c d <;> rfl
@[simp] theorem isLst_lst (m : Bool) (xs : List D) : isLst (.lst m xs) = true := Eq.trans rfl rfl
@[simp] theorem dExt_lst (xs zs : List D) (m : Bool) : dExt (.lst true xs) (.lst m zs) = cif (immL zs && lim (xs.length + zs.length)) (some (.lst true (xs ++ zs))) none := by
  show (if (immL zs && lim (xs.length + zs.length)) = true then some (D.lst true (xs ++ zs)) else none) = _
  cases (immL zs && lim (xs.length + zs.length)) <;> rfl
@[simp] theorem dExt_tup (xs zs : List D) : dExt (.lst true xs) (.tup zs) = cif (immL zs && lim (xs.length + zs.length)) (some (.lst true (xs ++ zs))) none := by
  show (if (immL zs && lim (xs.length + zs.length)) = true then some (D.lst true (xs ++ zs)) else none) = _
  cases (immL zs && lim (xs.length + zs.length)) <;> rfl
@[simp] theorem dPush_lst (xs : List D) (d : D) : dPush (.lst true xs) d = cif (lim (xs.length + 1)) (some (.lst true (xs ++ [d]))) none := by
  show (if lim (xs.length + 1) = true then some (D.lst true (xs ++ [d])) else none) = _
  cases lim (xs.length + 1) <;> rfl
@[simp] theorem e_g2 {g : D → D → Option D} (a b : D) : g2 g [a, b] = g a b := Eq.trans rfl rfl
@[simp] theorem max2_int (a b : Int) : dMax2 (.int a) (.int b) = some (.int (if b > a then b else a)) := Eq.trans rfl rfl
@[simp] theorem min2_int (a b : Int) : dMin2 (.int a) (.int b) = some (.int (if b < a then b else a)) := Eq.trans rfl rfl
@[simp] theorem rgD1_l (a : Int) : rgD1 false (.int a) = cif (rngOk a) (some (.lst true ((upto a.toNat).map .int))) none := by
  show (if rngOk a = true then some (if false = true then D.tup (intsN 0 a.toNat) else .lst true (intsN 0 a.toNat)) else none) = _
  cases rngOk a with
  | false => rfl
  | true => simp only [intsN_eq, cif_t, if_true]; simp [upto]
@[simp] theorem rgD1_t (a : Int) : rgD1 true (.int a) = cif (rngOk a) (some (.tup ((upto a.toNat).map .int))) none := by
  show (if rngOk a = true then some (if true = true then D.tup (intsN 0 a.toNat) else .lst true (intsN 0 a.toNat)) else none) = _
  cases rngOk a with
  | false => rfl
  | true => simp only [intsN_eq, cif_t, if_true]; simp [upto]
@[simp] theorem e_mMake {c : Nat} {md : List Md} {f : Fn} {l : EvLM} : mMake c md f l e = (l e).bnd fun p => cif (immL p.1) ((cif (pureAt md p.1) (mkO (f (.ins true c [] :: p.1))) none).bnd fun d => some (d, p.2)) none := by
  unfold mMake; rcases l e with _ | ⟨ds, e1⟩
  · rfl
  · simp only [Option.bnd]
    cases immL ds with
    | false => rfl
    | true =>
      have := e_gMake (e := e1) (c := c) (md := md) (f := f) (l := fun _ => some ds)
      simp only [Option.bnd] at this
      simp only [if_true, cif_t, this]
      cases cif (pureAt md ds) (mkO (f (D.ins true c [] :: ds))) none <;> rfl
@[simp] theorem e_mFam {c : Nat} {h : EvM} : mFam c h e = (h e).bnd fun p => (toFam c p.1).bnd fun d => some (d, p.2) := by
  unfold mFam; rcases h e with _ | ⟨d, e1⟩
  · rfl
  · simp only [Option.bnd]; cases toFam c d <;> rfl
end
@[simp] theorem sortset3_lots (ls : List Lot) : dSortSet3 (.tup (ls.map lotD)) = if (sortI ls).length < 63 then some (.lst true ((sortI ls).map lotD)) else none := by simp [dSortSet3]
@[simp] theorem sortset3_lotsL (m : Bool) (ls : List Lot) : dSortSet3 (.lst m (ls.map lotD)) = if (sortI ls).length < 63 then some (.lst true ((sortI ls).map lotD)) else none := by simp [dSortSet3]
@[simp] theorem sorted2_lst (m : Bool) (xs : List D) : dSorted2 (.lst m xs) = dSorted (.lst m xs) := Eq.trans rfl rfl
@[simp] theorem sorted2_tup (xs : List D) : dSorted2 (.tup xs) = dSorted (.tup xs) := Eq.trans rfl rfl
@[simp] theorem sorted2_lot (k : Lot) : dSorted2 (lotD k) = dSorted (lotD k) := Eq.trans rfl rfl
theorem sortI_len (ls : List Lot) : (sortI ls).length ≤ ls.length := nodup_len _ _ (Srt.nodup (sortI_pw ls)) fun x hx => sortI_mem.mp hx
end TL
end
section
set_option maxRecDepth 100000
namespace TL
open PySem PySem.Spec PyProof.Rows L2 TL.Bite
/-! ### lots, families -/
def okLot (n : Int) (k : Lot) : Bool := (k.all fun i => decide (0 ≤ i) && decide (i ≤ n - 1)) && ((k.zip (k.drop 1)).all fun p => decide (p.1 < p.2))
def okLots (n : Int) (ls : List Lot) : Bool := (ls.all fun l => okLot n l) && ((ls.zip (ls.drop 1)).all fun p => ltI p.1 p.2)
theorem pw_zip {α : Type} {r : α → α → Prop} (tr : ∀ a b c, r a b → r b c → r a c) : ∀ (k : List α), (∀ p ∈ k.zip (k.drop 1), r p.1 p.2) ↔ k.Pairwise r
  | [] => by simp
  | [a] => by simp
  | a :: b :: k => by
    have ih := pw_zip tr (b :: k)
    simp only [List.drop_succ_cons, List.drop_zero, List.zip_cons_cons, List.mem_cons, forall_eq_or_imp] at ih ⊢
    rw [ih, List.pairwise_cons (a := a) (l := b :: k)]
    constructor
    · rintro ⟨h1, h2⟩
      refine ⟨fun c hc => ?_, h2⟩
      rcases List.mem_cons.mp hc with rfl | hc
      · exact h1
      · exact tr _ _ _ h1 (List.rel_of_pairwise_cons h2 hc)
    · rintro ⟨h1, h2⟩
      exact ⟨h1 b (List.mem_cons_self ..), h2⟩
theorem okLot_iff {n : Int} {k : Lot} : okLot n k = true ↔ (∀ i ∈ k, 0 ≤ i ∧ i < n) ∧ k.Pairwise (· < ·) := by
  unfold okLot
  rw [Bool.and_eq_true, List.all_eq_true, List.all_eq_true]
  refine and_congr (forall_congr' fun i => imp_congr_right fun _ => ?_) ?_
  · simp; omega
  · rw [← pw_zip (r := fun a b : Int => a < b) (fun a b c h1 h2 => Int.lt_trans h1 h2)]; simp
theorem okLots_iff {n : Int} {ls : List Lot} : okLots n ls = true ↔ (∀ l ∈ ls, okLot n l = true) ∧ Srt ls := by
  unfold okLots Srt
  rw [Bool.and_eq_true, List.all_eq_true, List.all_eq_true, ← pw_zip (r := fun a b : Lot => ltI a b = true) (fun a b c h1 h2 => ltI_trans h1 h2)]
theorem lot_len : ∀ (k : Lot) (a n : Int), (∀ i ∈ k, a ≤ i ∧ i < n) → k.Pairwise (· < ·) → (k.length : Int) ≤ max 0 (n - a)
  | [], a, n, _, _ => by simp; omega
  | i :: k, a, n, h, p => by
    have := lot_len k (i + 1) n (fun j hj => ⟨List.rel_of_pairwise_cons p hj, (h j (List.mem_cons_of_mem _ hj)).2⟩) (List.Pairwise.of_cons p)
    have := h i (List.mem_cons_self ..)
    simp only [List.length_cons]
    omega
theorem okLot_len {n : Int} {k : Lot} (h : okLot n k = true) (hn : n ≤ 7) : k.length ≤ 7 := by
  have h := okLot_iff.mp h
  have := lot_len k 0 n h.1 h.2
  omega
theorem srt_nil {ls : List Lot} (h : Srt ls) : ls.Nodup := h.nodup

@[simp] theorem q_is_integer (i : Int) : m_is_integer [.int i] = some (.bl true, [.int i]) := by
  simp [m_is_integer, b_is_integer, dIsi]
@[simp] theorem g_is_integer (i : Int) : gPure [.ro] m_is_integer [.int i] = some (.bl true) := gPure_of (q_is_integer i)
@[simp] theorem q_is_within (i l h : Int) : m_is_within [.int i, .int l, .int h] = some (.bl (decide (l ≤ i) && decide (i ≤ h)), [.int i, .int l, .int h]) := by
  simp [m_is_within, b_is_within]
@[simp] theorem g_is_within (i l h : Int) : gPure [.ro, .ro, .ro] m_is_within [.int i, .int l, .int h] = some (.bl (decide (l ≤ i) && decide (i ≤ h))) := gPure_of (q_is_within i l h)
theorem q_is_lot (n : Int) (k : Lot) (hk : k.length ≤ 16000000) : m_is_lot [lotD k, .int n] = some (.bl (okLot n k), [lotD k, .int n]) := by
  have h2 : k.length - 1 ≤ 16000000 := by omega
  simp [m_is_lot, b_is_lot, hk, h2, okLot]
theorem g_is_lot (n : Int) (k : Lot) (hk : k.length ≤ 16000000) : gPure [.ro, .ro] m_is_lot [lotD k, .int n] = some (.bl (okLot n k)) := gPure_of (q_is_lot n k hk)
@[simp] theorem q_is_count (n : Int) : m_is_count [.int n] = some (.bl (decide (1 ≤ n) && decide (n ≤ 7)), [.int n]) := by
  simp [m_is_count, b_is_count]
@[simp] theorem g_is_count (n : Int) : gPure [.ro] m_is_count [.int n] = some (.bl (decide (1 ≤ n) && decide (n ≤ 7))) := gPure_of (q_is_count n)
theorem g_check_count {n : Int} (h1 : 1 ≤ n) (h2 : n ≤ 7) : gPure [.ro] m_check_count [.int n] = some .non :=
  gPure_of (ds' := [.int n]) (by simp [m_check_count, b_check_count, h1, h2])
theorem g_is_lot_of (n : Int) (k : Lot) (hk : k.length ≤ 16000000) : gPure [.ro, .ro] m_is_lot_of [.int n, lotD k] = some (.bl (okLot n k)) :=
  gPure_of (ds' := [.int n, lotD k]) (by simp [m_is_lot_of, b_is_lot_of, g_is_lot n k hk])
theorem g_are_lots (n : Int) (ls : List Lot) (hl : ls.length ≤ 16000000) (hk : ∀ l ∈ ls, l.length ≤ 16000000) : gPure [.ro, .ro] m_are_lots [.int n, .tup (ls.map lotD)] = some (.bl (okLots n ls)) := by
  have h2 : ls.length - 1 ≤ 16000000 := by omega
  have e1 : fmO (fun x => some true) (fun x => gPure [.ro, .ro] m_is_lot_of [.int n, lotD x]) ls = some (ls.map fun l => .bl (okLot n l)) := by
    rw [fmO_congr (t' := fun _ => some true) (f' := fun l => some (.bl (okLot n l))) (fun _ _ => rfl) (fun l hx _ => g_is_lot_of n l (hk l hx))]
    simp
  refine gPure_of (ds' := [.int n, .tup (ls.map lotD)]) ?_
  simp [m_are_lots, b_are_lots, hl, h2, e1, okLots]
/-! ### families -/
abbrev fam (n : Int) (ls : List Lot) : D := .fam n (ls.map lotD)
/-- a right family -/
structure FamOk (n : Int) (ls : List Lot) : Prop where
  n1 : 1 ≤ n
  n7 : n ≤ 7
  ok : ∀ l ∈ ls, okLot n l = true
  srt : Srt ls
  len : ls.length ≤ 16000000
theorem FamOk.lots {n : Int} {ls : List Lot} (h : FamOk n ls) : okLots n ls = true := okLots_iff.mpr ⟨h.ok, h.srt⟩
theorem FamOk.small {n : Int} {ls : List Lot} (h : FamOk n ls) : ∀ l ∈ ls, l.length ≤ 16000000 := fun l hl => by have := okLot_len (h.ok l hl) h.n7; omega
@[simp] theorem toFam_mk (n : Int) (ls : List D) : toFam 0 (.ins true 0 [.int n, .tup ls, .dct true false [] []]) = cif (immL ls) (some (.fam n ls)) none := by
  cases h : immL ls <;> simp [toFam, h]
theorem mk_fam {n : Int} {ls : List Lot} (h : FamOk n ls) : m_Family_init [.ins true 0 [], .int n, .tup (ls.map lotD)] = some (.non, [.ins true 0 [.int n, .tup (ls.map lotD), .dct true false [] []], .int n, .tup (ls.map lotD)]) := by
  simp [m_Family_init, b_Family_init, h.n1, h.n7, g_are_lots n ls h.len h.small, h.lots, gFT, putsF, setFd]
end TL
end
section
set_option maxRecDepth 100000
namespace TL
open PySem PySem.Spec PyProof.Rows L2 TL.Bite
theorem pure_made {n : Int} {ls : List Lot} (h : FamOk n ls) : pureAt [.ro, .ro] [.int n, .tup (ls.map lotD)] = true := rfl
/-- Family(n, ls) -/
theorem fam_mk {n : Int} {ls : List Lot} (h : FamOk n ls) : (mkO (m_Family_init [.ins true 0 [], .int n, .tup (ls.map lotD)])).bnd (toFam 0) = some (fam n ls) := by
  rw [mk_fam h]
  simp
theorem g_made {n : Int} {ls : List Lot} (h : FamOk n (sortI ls)) (hl : (sortI ls).length < 63) : gPure [.ro, .ro] m_made [.int n, .tup (ls.map lotD)] = some (fam n (sortI ls)) :=
  gPure_of (ds' := [.int n, .tup (ls.map lotD)]) (by simp [m_made, b_made, hl, mk_fam h])
theorem g_madeL {n : Int} {m : Bool} {ls : List Lot} (h : FamOk n (sortI ls)) (hl : (sortI ls).length < 63) : gPure [.ro, .ro] m_made [.int n, .lst m (ls.map lotD)] = some (fam n (sortI ls)) :=
  gPure_of (ds' := [.int n, .lst m (ls.map lotD)]) (by simp [m_made, b_made, hl, mk_fam h])
/-! ### the dict of members -/
@[simp] theorem hasD_lots (k : Lot) : ∀ ls : List Lot, hasD (lotD k) (ls.map lotD) = ls.contains k
  | [] => rfl
  | l :: ls => by
    simp only [List.map_cons, hasD, hasD_lots k ls, eqD_lot, List.contains_cons]
    by_cases h : l = k
    · subst h; simp
    · have h2 : ¬ k = l := fun e => h e.symm
      simp [h, h2]
theorem foldP_new {α : Type} [DecidableEq α] {f : α → D} (hf : ∀ x y, eqD (f x) (f y) = decide (x = y)) (g : α → D) : ∀ (xs ys : List α) (vs : List D), vs.length = ys.length → (ys ++ xs).Nodup →
    foldP (xs.map fun x => .tup [f x, g x]) (ys.map f) vs = some ((ys ++ xs).map f, vs ++ xs.map g)
  | [], ys, vs, _, _ => by simp [foldP]
  | x :: xs, ys, vs, hl, nd => by
    have hx : x ∉ ys := by
      have := List.nodup_append.mp nd
      exact fun h => this.2.2 x h x (List.mem_cons_self ..) rfl
    have h1 : ∀ ys : List α, x ∉ ys → hasD (f x) (ys.map f) = false := fun ys hx => by
      induction ys with
      | nil => rfl
      | cons y ys ih =>
        rw [List.mem_cons, not_or] at hx
        have : ¬ y = x := fun e => hx.1 e.symm
        simp [hasD, hf, ih hx.2, this]
    have h2 : ∀ (ys : List α) (vs : List D), vs.length = ys.length → x ∉ ys → putV (f x) (g x) (ys.map f) vs = vs ++ [g x] := fun ys => by
      induction ys with
      | nil => intro vs hl _; cases vs with
        | nil => rfl
        | cons v vs => simp at hl
      | cons y ys ih =>
        intro vs hl hx
        rw [List.mem_cons, not_or] at hx
        have q : ¬ y = x := fun e => hx.1 e.symm
        cases vs with
        | nil => simp at hl
        | cons v vs => simp at hl; simp [putV, hf, q, ih vs hl hx.2]
    have e1 : putK' (f x) (ys.map f) = (ys ++ [x]).map f := by simp [putK', h1 ys hx]
    have ih := foldP_new hf g xs (ys ++ [x]) (vs ++ [g x]) (by simp [hl]) (by simpa using nd)
    simp only [List.map_cons, foldP, e1, h2 ys vs hl hx]
    rw [ih]
    simp
def thereD (ls : List Lot) : D := .dct false (!ls.isEmpty) (ls.map lotD) (ls.map fun _ => .bl true)
theorem dDict_lots {m : Bool} {ls : List Lot} (g : Lot → D) (hg : ∀ x, imm (g x) = true) (nd : ls.Nodup) (hl : ls.length ≤ 16000000) :
    dDict (.lst m (ls.map fun x => .tup [lotD x, g x])) = some (.dct true (!ls.isEmpty) (ls.map lotD) (ls.map g)) := by
  have e1 := foldP_new eqD_lot g ls [] [] rfl (by simpa using nd)
  have e2 : immL (ls.map fun x => .tup [lotD x, g x]) = true := immL_map (fun x => by simp [hg]) ls
  have e3 : ∀ ls : List Lot, allKey keyT (ls.map fun x => .tup [lotD x, g x]) = true := fun ls => by
    induction ls with
    | nil => rfl
    | cons l ls ih => simp [allKey, keyT_lot, ih]
  simp only [List.map_nil, List.nil_append] at e1
  cases ls with
  | nil => simp [dDict, allKey, foldP]
  | cons l ls =>
    have e4 : allKey isKeyD ((l :: ls).map fun x => .tup [lotD x, g x]) = false := by simp [allKey, isKeyD, lotD]
    have e5 : ((l :: ls).map fun x => D.tup [lotD x, g x]).length ≤ 16000000 := by simpa using hl
    simp only [dDict, e2, lim_of e5, e4, e3, e1]
    simp
theorem memAt_fam {loc : Nat} {fE : Ev} {n : Int} {ls rest : List D} : memAt loc fE (.fam n ls :: rest) = cif (undefAll rest && rest.length == loc) ((fE (.fam n ls :: rest)).bnd fun d => some (frz d)) none := by
  unfold memAt
  cases h : (undefAll rest && rest.length == loc) with
  | false => simp [h]
  | true => simp only [h, if_true, cif_t]; cases fE (.fam n ls :: rest) <;> rfl
theorem g_there {n : Int} {ls : List Lot} (h : FamOk n ls) : gPure [.ro] m_Family_there [fam n ls] = some (thereD ls) := by
  have e := dDict_lots (m := true) (fun _ => .bl true) (fun _ => rfl) h.srt.nodup h.len
  have fr : ∀ ls : List Lot, frzL (ls.map fun _ => D.bl true) = ls.map fun _ => D.bl true := fun ls => by
    induction ls with
    | nil => rfl
    | cons l ls ih => simp [frzL, frz, ih]
  refine gPure_of (ds' := [fam n ls]) ?_
  have l1 := h.len
  simp [m_Family_there, b_Family_there, sMemR, memAt_fam, undefAll, l1, e, frz, fr]
  simp [thereD, fr]
@[simp] theorem in_there (k : Lot) (ls : List Lot) : dIn (lotD k) (thereD ls) = some (.bl (ls.contains k)) := by
  cases ls with
  | nil => simp [thereD, dIn, dInDict, keyT_lot, isKeyD_lot]
  | cons l ls => 
    have := hasD_lots k (l :: ls)
    simp [thereD, dIn, dInDict, keyT_lot] at this ⊢; exact this
@[simp] theorem notin_there (k : Lot) (ls : List Lot) : dNotIn (lotD k) (thereD ls) = some (.bl (!ls.contains k)) := by
  cases ls with
  | nil => simp [thereD, dNotIn, dInDict, keyT_lot, isKeyD_lot]
  | cons l ls => 
    have := hasD_lots k (l :: ls)
    simp [thereD, dNotIn, dInDict, keyT_lot] at this ⊢; rw [this]
end TL
end
section
set_option maxRecDepth 100000
namespace TL
open PySem PySem.Spec PyProof.Rows L2 TL.Bite
/-- all lots of so many points, by their numbers -/
def bitLot (n : Nat) : Lot := ((List.range 7).filter fun i => n.testBit i).map fun i : Nat => (i : Int)
def allLots (n : Nat) : List Lot := (List.range (2 ^ n)).map bitLot
theorem t_lots1 : gPure [.ro] m_lots_of [.int 1] = some (.lst true ((allLots 1).map lotD)) := by kernel_rfl
theorem t_lots2 : gPure [.ro] m_lots_of [.int 2] = some (.lst true ((allLots 2).map lotD)) := by kernel_rfl
theorem t_lots3 : gPure [.ro] m_lots_of [.int 3] = some (.lst true ((allLots 3).map lotD)) := by kernel_rfl
theorem t_lots4 : gPure [.ro] m_lots_of [.int 4] = some (.lst true ((allLots 4).map lotD)) := by kernel_rfl
theorem t_lots5 : gPure [.ro] m_lots_of [.int 5] = some (.lst true ((allLots 5).map lotD)) := by kernel_rfl
theorem g_lots_of {n : Nat} (h1 : 1 ≤ n) (h5 : n ≤ 5) : gPure [.ro] m_lots_of [.int (n : Nat)] = some (.lst true ((allLots n).map lotD)) := by
  match n, h1, h5 with
  | 1, _, _ => exact t_lots1
  | 2, _, _ => exact t_lots2
  | 3, _, _ => exact t_lots3
  | 4, _, _ => exact t_lots4
  | 5, _, _ => exact t_lots5
/-- the right lots of so many points, in order -/
def L (n : Nat) : List Lot := sortI (allLots n)
theorem L_ok {n : Nat} (h5 : n ≤ 5) : (L n).all (okLot n) = true := by
  match n, h5 with
  | 0, _ => decide +kernel
  | 1, _ => decide +kernel
  | 2, _ => decide +kernel
  | 3, _ => decide +kernel
  | 4, _ => decide +kernel
  | 5, _ => decide +kernel
/-- every right lot is there -/
def subs : Nat → List Lot
  | 0 => [[]]
  | n + 1 => subs n ++ (subs n).map fun k => k ++ [(n : Int)]
theorem mem_subs : ∀ {n : Nat} {k : Lot}, k ∈ subs n ↔ okLot n k = true
  | 0, k => by
    rw [okLot_iff]
    simp only [subs, List.mem_singleton]
    constructor
    · rintro rfl; simp
    · rintro ⟨h, _⟩
      cases k with
      | nil => rfl
      | cons i k => have := h i (List.mem_cons_self ..); omega
  | n + 1, k => by
    have ih := fun k => @mem_subs n k
    simp only [subs, List.mem_append, List.mem_map, ih, okLot_iff]
    constructor
    · rintro (⟨h1, h2⟩ | ⟨a, ⟨h1, h2⟩, rfl⟩)
      · exact ⟨fun i hi => by have := h1 i hi; omega, h2⟩
      · refine ⟨fun i hi => ?_, List.pairwise_append.mpr ⟨h2, by simp, fun x hx y hy => ?_⟩⟩
        · rcases List.mem_append.mp hi with hi | hi
          · have := h1 i hi; omega
          · rw [List.mem_singleton] at hi; omega
        · rw [List.mem_singleton] at hy
          have := h1 x hx; omega
    · rintro ⟨h1, h2⟩
      rcases List.eq_nil_or_concat k with rfl | ⟨a, x, rfl⟩
      · exact .inl ⟨by simp, by simp⟩
      · rw [List.concat_eq_append] at *
        have p := List.pairwise_append.mp h2
        have hx := h1 x (by simp)
        have ha : ∀ i ∈ a, 0 ≤ i ∧ i < x := fun i hi => ⟨(h1 i (List.mem_append_left _ hi)).1, p.2.2 i hi x (by simp)⟩
        by_cases q : x = n
        · subst q
          exact .inr ⟨a, ⟨ha, p.1⟩, rfl⟩
        · refine .inl ⟨fun i hi => ?_, h2⟩
          rcases List.mem_append.mp hi with hi | hi
          · have := ha i hi; omega
          · rw [List.mem_singleton] at hi; subst hi; omega
theorem sort_subs {n : Nat} (h5 : n ≤ 5) : L n = sortI (subs n) := by
  match n, h5 with
  | 0, _ => decide +kernel
  | 1, _ => decide +kernel
  | 2, _ => decide +kernel
  | 3, _ => decide +kernel
  | 4, _ => decide +kernel
  | 5, _ => decide +kernel
theorem mem_L {n : Nat} (h5 : n ≤ 5) {k : Lot} : k ∈ L n ↔ okLot n k = true := by
  rw [sort_subs h5, sortI_mem, mem_subs]
theorem mem_allLots {n : Nat} (h5 : n ≤ 5) {k : Lot} : k ∈ allLots n ↔ okLot n k = true := by
  rw [← mem_L h5, L, sortI_mem]
theorem srt_L (n : Nat) : Srt (L n) := sortI_pw _
theorem allLots_len (n : Nat) : (allLots n).length = 2 ^ n := by simp [allLots]
theorem g_is_inside {f l : Lot} (h : f.length ≤ 16000000) : gPure [.ro, .ro] m_is_inside [lotD f, lotD l] = some (.bl (ins f l)) :=
  gPure_of (ds' := [lotD f, lotD l]) (by simp [m_is_inside, b_is_inside, h, ins])
def wo (i : Int) (l : Lot) : Lot := l.filter fun j => !decide (j = i)
theorem g_without_one {i : Int} {l : Lot} (h : l.length ≤ 16000000) : gPure [.ro, .ro] m_without_one [lotD l, .int i] = some (lotD (wo i l)) :=
  gPure_of (ds' := [lotD l, .int i]) (by simp [m_without_one, b_without_one, h, tup_ints, wo])
def lowLots (n : Nat) (ls : List Lot) : List Lot := (allLots n).filter fun l => ls.any fun m => ins l m
theorem g_lower_lots {n : Nat} (h1 : 1 ≤ n) (h5 : n ≤ 5) {ls : List Lot} (hl : ls.length ≤ 16000000) : gPure [.ro, .ro] m_lower_lots [.int (n : Nat), .tup (ls.map lotD)] = some (.lst true ((lowLots n ls).map lotD)) := by
  refine gPure_of (ds' := [.int (n : Nat), .tup (ls.map lotD)]) ?_
  have hp : 2 ^ n ≤ 2 ^ 5 := Nat.pow_le_pow_right (by omega) h5
  have h2 : 2 ^ n ≤ 16000000 := by omega
  simp [m_lower_lots, b_lower_lots, g_lots_of h1 h5, allLots_len, h2, hl]
  rw [fmO_eq (fun l => ls.any fun m => ins l m) lotD]
  · simp [lowLots]
  · intro x hx
    have := okLot_len ((mem_allLots h5).mp hx) (by omega)
    have h3 : List.length x ≤ 16000000 := by omega
    simp [g_is_inside h3]
end TL
end
section
set_option maxRecDepth 100000
namespace TL
open PySem PySem.Spec PyProof.Rows L2 TL.Bite
/-- a right family of lots of at most five points -/
structure F5 (n : Nat) (ls : List Lot) : Prop where
  n1 : 1 ≤ n
  n5 : n ≤ 5
  ok : ∀ l ∈ ls, okLot n l = true
  srt : Srt ls
theorem F5.len {n : Nat} {ls : List Lot} (h : F5 n ls) : ls.length ≤ 32 := by
  have := nodup_len ls (allLots n) h.srt.nodup fun x hx => (mem_allLots h.n5).mpr (h.ok x hx)
  rw [allLots_len] at this
  have := Nat.pow_le_pow_right (n := 2) (by omega) h.n5
  omega
theorem F5.fam {n : Nat} {ls : List Lot} (h : F5 n ls) : FamOk n ls := ⟨by have := h.n1; omega, by have := h.n5; omega, h.ok, h.srt, by have := h.len; omega⟩
theorem F5.small {n : Nat} {ls : List Lot} (h : F5 n ls) {l : Lot} (hl : l ∈ ls) : l.length ≤ 7 := okLot_len (h.ok l hl) (by have := h.n5; omega)
theorem F5.filter {n : Nat} {ls : List Lot} (h : F5 n ls) (p : Lot → Bool) : F5 n (ls.filter p) := ⟨h.n1, h.n5, fun l hl => h.ok l (List.mem_filter.mp hl).1, h.srt.filter p⟩
theorem F5.sort {n : Nat} {ls : List Lot} (h1 : 1 ≤ n) (h5 : n ≤ 5) (h : ∀ l ∈ ls, okLot n l = true) : F5 n (sortI ls) := ⟨h1, h5, fun l hl => h l (sortI_mem.mp hl), sortI_pw _⟩
theorem F5.L {n : Nat} (h1 : 1 ≤ n) (h5 : n ≤ 5) : F5 n (L n) := ⟨h1, h5, fun l hl => (mem_L h5).mp hl, srt_L n⟩
theorem g_all_of {n : Nat} (h1 : 1 ≤ n) (h5 : n ≤ 5) : gPure [.ro] m_all_of [.int (n : Nat)] = some (fam n (L n)) := by
  refine gPure_of (ds' := [.int (n : Nat)]) ?_
  have hp : 2 ^ n ≤ 2 ^ 5 := Nat.pow_le_pow_right (by omega) h5
  have e := g_madeL (n := n) (m := true) (ls := allLots n) (F5.L h1 h5).fam (by have := (F5.L h1 h5).len; show (L n).length < 63; omega)
  simp [m_all_of, b_all_of, g_check_count (n := n) (by omega) (by omega), g_lots_of h1 h5, e]
  rfl
/-- the lots within some member, in order -/
def low (n : Nat) (ls : List Lot) : List Lot := sortI (lowLots n ls)
theorem mem_low {n : Nat} (h5 : n ≤ 5) {ls : List Lot} {k : Lot} : k ∈ low n ls ↔ okLot n k = true ∧ ∃ l ∈ ls, ins k l = true := by
  rw [low, sortI_mem, lowLots, List.mem_filter, mem_allLots h5, List.any_eq_true]
theorem low_eq {n : Nat} (h5 : n ≤ 5) (ls : List Lot) : low n ls = (L n).filter fun l => ls.any fun m => ins l m := by
  refine pw_eq (sortI_pw _) ((srt_L n).filter _) fun x => ?_
  rw [mem_low h5, List.mem_filter, mem_L h5, List.any_eq_true]
theorem F5.low {n : Nat} (h1 : 1 ≤ n) (h5 : n ≤ 5) (ls : List Lot) : F5 n (low n ls) := ⟨h1, h5, fun l hl => ((mem_low h5).mp hl).1, sortI_pw _⟩
theorem lowLots_len {n : Nat} (h5 : n ≤ 5) (ls : List Lot) : (lowLots n ls).length < 64 := by
  have h : (lowLots n ls).length ≤ (allLots n).length := List.length_filter_le _ _
  rw [allLots_len] at h
  have := Nat.pow_le_pow_right (n := 2) (by omega) h5
  omega
theorem g_lower {n : Nat} (h1 : 1 ≤ n) (h5 : n ≤ 5) {ls : List Lot} (hl : ls.length ≤ 16000000) : gPure [.ro] m_lower [fam n ls] = some (fam n (low n ls)) := by
  refine gPure_of (ds' := [fam n ls]) ?_
  have e := g_madeL (n := n) (m := true) (ls := lowLots n ls) (F5.low h1 h5 ls).fam (by have := (F5.low h1 h5 ls).len; show (TL.low n ls).length < 63; omega)
  simp [m_lower, b_lower, g_lower_lots h1 h5 hl, e]
  rfl
/-! ### complexes -/
def isLow (ls : List Lot) : Bool := ls.all fun l => l.all fun i => ls.contains (wo i l)
theorem g_is_lower {n : Nat} {ls : List Lot} (h : F5 n ls) : gPure [.ro] m_is_lower [fam n ls] = some (.bl (isLow ls)) := by
  refine gPure_of (ds' := [fam n ls]) ?_
  have hl : ls.length ≤ 16000000 := by have := h.len; omega
  simp [m_is_lower, b_is_lower, hl]
  rw [fmO_eq (fun _ => true) fun l => .bl (l.all fun i => ls.contains (wo i l))]
  · simp [isLow]
  · intro x hx
    have := h.small hx
    have h3 : List.length x ≤ 16000000 := by omega
    simp [g_without_one h3, g_there h.fam, h3]
/-- a complex -/
structure Cx (n : Nat) (ls : List Lot) : Prop extends F5 n ls where
  ne : ls ≠ []
  low : isLow ls = true
theorem Cx.len {n : Nat} {ls : List Lot} (h : Cx n ls) : ls.length ≤ 16000000 := by have := h.toF5.len; omega
theorem g_check_complex {n : Nat} {ls : List Lot} (h : Cx n ls) : gPure [.ro] m_check_complex [fam n ls] = some .non := by
  refine gPure_of (ds' := [fam n ls]) ?_
  have hp : 0 < ls.length := List.length_pos_iff.mpr h.ne
  simp [m_check_complex, b_check_complex, sMemN, memAt_fam, undefAll, g_is_lower h.toF5, h.low, hp, frz]
theorem g_check_face {n : Nat} {ls : List Lot} (h : Cx n ls) {f : Lot} (hf : f ∈ ls) : gPure [.ro, .ro] m_check_face [fam n ls, lotD f] = some .non := by
  refine gPure_of (ds' := [fam n ls, lotD f]) ?_
  have := h.toF5.small hf
  have h3 : List.length f ≤ 16000000 := by omega
  simp [m_check_face, b_check_face, g_check_complex h, g_is_lot_of _ _ h3, h.toF5.ok f hf, g_there h.toF5.fam, hf]
theorem sortBy_id {α : Type} (le : α → α → Bool) : ∀ {xs : List α}, xs.Pairwise (fun a b => le a b = true) → PySem.W.sortBy le xs = xs
  | [], _ => rfl
  | x :: xs, h => by
    rw [PySem.W.sortBy, sortBy_id le (List.Pairwise.of_cons h)]
    cases xs with
    | nil => rfl
    | cons y ys => rw [PySem.W.insBy, if_pos (List.rel_of_pairwise_cons h (List.mem_cons_self ..))]
theorem ltI_asymm {a b : Lot} (h : ltI a b = true) : ltI b a = false := by
  cases q : ltI b a with
  | false => rfl
  | true => have := ltI_trans h q; rw [ltI_irrefl] at this; cases this
theorem sorted_srt {m : Bool} {ls : List Lot} (h : Srt ls) : dSorted (.lst m (ls.map lotD)) = some (.lst true (ls.map lotD)) := by
  obtain ⟨h1, h2, h3, h4⟩ := lots_ok ls
  have e : sortD (ls.map lotD) = ls.map lotD := by
    refine sortBy_id _ ?_
    rw [List.pairwise_map]
    exact h.imp fun {a b} q => by simp [leD, ltD_lot, ltI_asymm q]
  simp only [dSorted, seqOf_lst, h1, h4, alAll, h2, sortable, h3, e]
  simp
/-! ### bites -/
theorem Bite.bh_F5 {n : Nat} {ls : List Lot} (h : F5 n ls) (f : Lot) : F5 n (bh ls f) := h.filter _
theorem g_faces {ls : List Lot} (h : Srt ls) (hl : ls.length ≤ 16000000) : gPure [.ro] m_faces_to_bite [.tup (ls.map lotD)] = some (.lst true ((fc ls).map lotD)) := by
  refine gPure_of (ds' := [.tup (ls.map lotD)]) ?_
  have e := sorted_srt (m := true) (h.filter fun l => decide (0 < l.length))
  have e2 : (fun x : Lot => decide (0 < (x.length : Int))) = fun l => decide (0 < l.length) := by
    funext x; simp
  simp [m_faces_to_bite, b_faces_to_bite, hl] at e ⊢
  rw [e]
  simp [fc]
theorem g_behind {n : Nat} {ls : List Lot} (h : F5 n ls) {f : Lot} (hf : f.length ≤ 16000000) : gPure [.ro, .ro] m_behind [.tup (ls.map lotD), lotD f] = some (.tup ((bh ls f).map lotD)) := by
  refine gPure_of (ds' := [.tup (ls.map lotD), lotD f]) ?_
  have hl : ls.length ≤ 16000000 := by have := h.len; omega
  simp [m_behind, b_behind, hl, g_is_inside hf]
  simp [bh]
theorem g_bites {n : Nat} {ls : List Lot} (h : Cx n ls) : gPure [.ro] m_bites [fam n ls] = some (.tup ((fc ls).map lotD)) := by
  refine gPure_of (ds' := [fam n ls]) ?_
  simp [m_bites, b_bites, g_check_complex h, g_faces h.toF5.srt h.len]
theorem g_bitten {n : Nat} {ls : List Lot} (h : Cx n ls) {f : Lot} (hf : f ∈ ls) (h0 : f ≠ []) : gPure [.ro, .ro] m_bitten [fam n ls, lotD f] = some (fam n (bh ls f)) := by
  refine gPure_of (ds' := [fam n ls, lotD f]) ?_
  have := h.toF5.small hf
  have h3 : List.length f ≤ 16000000 := by omega
  have hp : ¬ List.length f = 0 := fun e => h0 (List.length_eq_zero_iff.mp e)
  have hb := Bite.bh_F5 h.toF5 f
  have e := g_made (n := n) (ls := bh ls f) (by rw [hb.srt.sortI]; exact hb.fam) (by rw [hb.srt.sortI]; have := hb.len; omega)
  rw [hb.srt.sortI] at e
  simp [m_bitten, b_bitten, g_check_face h hf, hp, h0, g_behind h.toF5 h3, e]
theorem g_check_few {n : Nat} {ls : List Lot} (h : Cx n ls) : gPure [.ro] m_check_few [fam n ls] = some .non := by
  refine gPure_of (ds' := [fam n ls]) ?_
  have := h.toF5.n5
  have h5 : ¬ (5 : Int) < n := by omega
  simp [m_check_few, b_check_few, g_check_complex h, h5]
end TL
end
section
set_option maxRecDepth 100000
/-! Heaps along the faces of a complex, in plain Lean: the least number that no move leads to; sums without carry. -/
namespace TL.Bite
/-- t comes of the heaps hs, counted from i: those of f are less, the others as they are -/
def Mv : Int → List Int → Lot → List Int → Prop
  | _, [], _, t => t = []
  | i, h :: hs, f, t => ∃ x t', t = x :: t' ∧ (if i ∈ f then 0 ≤ x ∧ x < h else x = h) ∧ Mv (i + 1) hs f t'
def tot : List Int → Nat
  | [] => 0
  | h :: hs => h.toNat + tot hs
def choice (i h : Int) (f : Lot) : List Int := if f.contains i then upto h.toNat else [h]
def grow (some : List Int) (found : List Lot) : List Lot := found.flatMap fun row => some.map fun x => row ++ [x]
def enumL {α : Type} : Int → List α → List (Int × α)
  | _, [] => []
  | i, x :: xs => (i, x) :: enumL (i + 1) xs
def lessF (i : Int) (hs : List Int) (f : Lot) (found : List Lot) : List Lot := (enumL i hs).foldl (fun found p => grow (choice p.1 p.2 f) found) found
theorem mem_choice {i h x : Int} {f : Lot} : x ∈ choice i h f ↔ if i ∈ f then 0 ≤ x ∧ x < h else x = h := by
  unfold choice
  by_cases q : i ∈ f
  · have : f.contains i = true := by simpa using q
    rw [if_pos this, if_pos q, mem_upto]
    omega
  · have : ¬ f.contains i = true := by simpa using q
    rw [if_neg this, if_neg q, List.mem_singleton]
theorem mem_lessF : ∀ (i : Int) (hs : List Int) (f : Lot) (found : List Lot) (r : Lot), r ∈ lessF i hs f found ↔ ∃ q ∈ found, ∃ t, r = q ++ t ∧ Mv i hs f t
  | i, [], f, found, r => by
    simp only [lessF, enumL, List.foldl_nil, Mv]
    constructor
    · intro h; exact ⟨r, h, [], by simp, rfl⟩
    · rintro ⟨q, hq, t, rfl, rfl⟩; simpa using hq
  | i, h :: hs, f, found, r => by
    have ih := mem_lessF (i + 1) hs f (grow (choice i h f) found) r
    have e : lessF i (h :: hs) f found = lessF (i + 1) hs f (grow (choice i h f) found) := rfl
    rw [e, ih]
    constructor
    · rintro ⟨q, hq, t, rfl, ht⟩
      unfold grow at hq
      rw [List.mem_flatMap] at hq
      obtain ⟨row, h1, h2⟩ := hq
      rw [List.mem_map] at h2
      obtain ⟨x, hx, rfl⟩ := h2
      exact ⟨row, h1, x :: t, by simp, x, t, rfl, mem_choice.mp hx, ht⟩
    · rintro ⟨q, hq, t, rfl, x, t', rfl, hx, ht⟩
      refine ⟨q ++ [x], ?_, t', by simp, ht⟩
      unfold grow
      rw [List.mem_flatMap]
      exact ⟨q, hq, List.mem_map.mpr ⟨x, mem_choice.mpr hx, rfl⟩⟩
def moves (ls : List Lot) (hs : List Int) : List Lot := sortI ((fc ls).flatMap fun f => lessF 0 hs f [[]])
theorem mem_moves {ls : List Lot} {hs t : List Int} : t ∈ moves ls hs ↔ ∃ f ∈ fc ls, Mv 0 hs f t := by
  rw [moves, sortI_mem, List.mem_flatMap]
  refine exists_congr fun f => and_congr Iff.rfl ?_
  rw [mem_lessF]
  constructor
  · rintro ⟨q, hq, t', rfl, h⟩
    rw [List.mem_singleton] at hq
    subst hq
    simpa using h
  · intro h
    exact ⟨[], by simp, t, rfl, h⟩
/-- right heaps: as many as points, none below nothing -/
structure Hs (n : Nat) (hs : List Int) : Prop where
  len : hs.length = n
  pos : ∀ h ∈ hs, (0 : Int) ≤ h
theorem Mv.spec : ∀ {i : Int} {hs t : List Int} {f : Lot}, Mv i hs f t → (∀ h ∈ hs, (0 : Int) ≤ h) → t.length = hs.length ∧ (∀ x ∈ t, (0 : Int) ≤ x) ∧ tot t ≤ tot hs ∧ ((∃ j ∈ f, i ≤ j ∧ j < i + hs.length) → tot t < tot hs)
  | i, [], t, f, h, _ => by
    simp only [Mv] at h
    subst h
    refine ⟨rfl, by simp, Nat.le_refl _, fun ⟨j, _, h1, h2⟩ => ?_⟩
    simp only [List.length_nil] at h2; omega
  | i, h :: hs, t, f, hm, hp => by
    simp only [Mv] at hm
    obtain ⟨x, t', rfl, hx, ht⟩ := hm
    have h0 := hp h (List.mem_cons_self ..)
    obtain ⟨a, b, c, d⟩ := Mv.spec ht fun y hy => hp y (List.mem_cons_of_mem _ hy)
    have hx0 : 0 ≤ x ∧ x ≤ h ∧ (i ∈ f → x < h) := by
      split at hx
      · exact ⟨hx.1, by omega, fun _ => hx.2⟩
      · rename_i q; exact ⟨by omega, by omega, fun z => absurd z q⟩
    refine ⟨by simp [a], fun y hy => ?_, by simp only [tot]; omega, fun ⟨j, hj, h1, h2⟩ => ?_⟩
    · rcases List.mem_cons.mp hy with rfl | hy
      · exact hx0.1
      · exact b y hy
    · simp only [tot]
      by_cases q : j = i
      · subst q
        have := hx0.2.2 hj
        omega
      · have := d ⟨j, hj, by omega, by simp only [List.length_cons] at h2; omega⟩
        omega
theorem moves_spec {n : Nat} {ls : List Lot} {hs t : List Int} (hl : ∀ l ∈ ls, okLot n l = true) (h : Hs n hs) (ht : t ∈ moves ls hs) : Hs n t ∧ tot t < tot hs := by
  obtain ⟨f, hf, hm⟩ := mem_moves.mp ht
  obtain ⟨a, b, c, d⟩ := Mv.spec hm h.pos
  have hf' := mem_fc.mp hf
  obtain ⟨j, hj⟩ := List.exists_mem_of_ne_nil _ hf'.2
  have := (okLot_iff.mp (hl f hf'.1)).1 j hj
  exact ⟨⟨a.trans h.len, b⟩, d ⟨j, hj, by omega, by rw [h.len]; omega⟩⟩
def hr : Nat → List Lot → List Int → Nat
  | 0, _, _ => 0
  | k + 1, ls, hs => mex ((moves ls hs).map fun t => hr k ls t)
/-- the least number that no move leads to -/
def hn (ls : List Lot) (hs : List Int) : Nat := hr (tot hs + 1) ls hs
theorem hr_any {n : Nat} {ls : List Lot} (hl : ∀ l ∈ ls, okLot n l = true) : ∀ (k m : Nat) (hs : List Int), Hs n hs → tot hs < k → tot hs < m → hr k ls hs = hr m ls hs
  | 0, m, hs, _, h, _ => by omega
  | k + 1, 0, hs, _, _, h => by omega
  | k + 1, m + 1, hs, h, h1, h2 => by
    simp only [hr]
    congr 1
    refine List.map_congr_left fun t ht => ?_
    obtain ⟨a, b⟩ := moves_spec hl h ht
    exact hr_any hl k m t a (by omega) (by omega)
theorem hn_eq {n : Nat} {ls : List Lot} (hl : ∀ l ∈ ls, okLot n l = true) {hs : List Int} (h : Hs n hs) : hn ls hs = mex ((moves ls hs).map fun t => hn ls t) := by
  unfold hn
  rw [hr]
  congr 1
  refine List.map_congr_left fun t ht => ?_
  obtain ⟨a, b⟩ := moves_spec hl h ht
  exact hr_any hl _ _ t a (by omega) (by omega)
end TL.Bite
end
section
set_option maxRecDepth 100000
namespace TL
open PySem PySem.Spec PyProof.Rows L2 TL.Bite
theorem runFor_foldP {α : Type} {T : Tg} {f : EvS} (enc : α → D) (I : List α → List D → Prop) : ∀ (xs pre : List α) (e : List D), I pre e →
    (∀ p x q, pre ++ xs = p ++ x :: q → ∀ e, I p e → ∃ e1 e2, bindN T (enc x) e = some e1 ∧ f e1 = some (.nx, e2) ∧ I (p ++ [x]) e2) → ∃ e', runFor T f (xs.map enc) e = some (.nx, e') ∧ I (pre ++ xs) e'
  | [], pre, e, h, _ => ⟨e, rfl, by simpa using h⟩
  | x :: xs, pre, e, h, H => by
    obtain ⟨e1, e2, h1, h2, h3⟩ := H pre x xs rfl e h
    obtain ⟨e', h4, h5⟩ := runFor_foldP enc I xs (pre ++ [x]) e2 h3 fun p y q he => H p y q (by simpa using he)
    exact ⟨e', by simp only [List.map_cons, runFor, h1, h2, h4], by simpa using h5⟩
theorem runFor_ofP {α : Type} {T : Tg} {f : EvS} {enc : α → D} {xs : List α} {e : List D} {r : Option (Out × List D)} (hc : runFor T f (xs.map enc) e = r) (I : List α → List D → Prop) (h0 : I [] e)
    (H : ∀ p x q, xs = p ++ x :: q → ∀ e, I p e → ∃ e1 e2, bindN T (enc x) e = some e1 ∧ f e1 = some (.nx, e2) ∧ I (p ++ [x]) e2) : ∃ e', r = some (.nx, e') ∧ I xs e' := by
  rw [← hc]
  exact runFor_foldP enc I xs [] e h0 H
@[simp] theorem ne_nil' (a : Lot) : dNe (lotD a) (.tup []) = some (.bl (!decide (a = []))) := ne_lot a []
theorem g_law_in {f l : Lot} (h : f.length ≤ 16000000) : gPure [.ro, .ro] m_law_in [lotD f, lotD l] = some (.bl (ins f l)) :=
  gPure_of (ds' := [lotD f, lotD l]) (by simp [m_law_in, b_law_in, h, ins])
theorem g_without_star {n : Nat} {ls : List Lot} (h : Cx n ls) {f : Lot} (hf : f ∈ ls) : gPure [.ro, .ro] m_without_star [fam n ls, lotD f] = some (fam n (bh ls f)) := by
  refine gPure_of (ds' := [fam n ls, lotD f]) ?_
  have := h.toF5.small hf
  have h3 : List.length f ≤ 16000000 := by omega
  have hl := h.len
  have hb := Bite.bh_F5 h.toF5 f
  have e := g_madeL (n := n) (m := true) (ls := bh ls f) (by rw [hb.srt.sortI]; exact hb.fam) (by rw [hb.srt.sortI]; have := hb.len; omega)
  rw [hb.srt.sortI] at e
  simp [m_without_star, b_without_star, g_check_face h hf, g_is_inside h3, hl]
  simp [bh] at e
  simp [e, bh]
abbrev vG (ls : List Lot) : D := .int (g ls)
theorem bh_sub' {ls : List Lot} {f : Lot} : (bh ls f).Sublist ls := List.filter_sublist
theorem fc_app (a b : List Lot) : fc (a ++ b) = fc a ++ fc b := List.filter_append ..
/-- looking for the first number that is none of some -/
theorem q_law_number {p : Nat} {U : List Lot} (hU : U.length ≤ 20) (n : Nat) : ∀ (ls : List Lot) (d : D), ls.length < n → F5 p ls → ls.Sublist U → KeptL U vG d →
    ∃ d', m_law_number n [.tup (ls.map lotD), d] = some (.int (g ls), [.tup (ls.map lotD), d']) ∧ KeptL U vG d' := by
  induction n with
  | zero => exact fun ls d h => absurd h (Nat.not_lt_zero _)
  | succ n ih =>
    intro ls d h hf hu hk
    have hl4 := hf.len
    have hl : ls.length ≤ 16000000 := by omega
    have hs := hk.slot
    have l1 : (fc ls).length ≤ ls.length := List.length_filter_le _ _
    rcases hk.asked ls hu hU with ⟨h1, h2⟩ | ⟨h1, h2⟩
    · exact ⟨d, by simp [m_law_number, b_law_number, hs, h1, h2], hk⟩
    · simp [m_law_number, b_law_number, hs, h1, hl]
      generalize hc : runFor _ _ _ _ = r
      obtain ⟨e', rfl, d2, x3, rfl, hk2⟩ := runFor_ofP hc (fun pre e => ∃ d2 x3, e = [.tup (ls.map lotD), d2, .lst true ((fc pre).map fun l => .int (g (bh ls l))), x3, .undef, .undef] ∧ KeptL U vG d2) ⟨d, .undef, rfl, hk⟩ (by
          rintro pre x q hq _ ⟨s, x3, rfl, hj⟩
          have hx : x ∈ ls := by rw [hq]; simp
          have pl : pre.length < ls.length := by rw [hq]; simp
          have pl2 : (fc pre).length ≤ pre.length := List.length_filter_le _ _
          have pl3 : lim ((fc pre).length + 1) = true := lim_of (by omega)
          have := hf.small hx
          have hx3 : List.length x ≤ 16000000 := by omega
          refine ⟨[.tup (ls.map lotD), s, .lst true ((fc pre).map fun l => .int (g (bh ls l))), lotD x, .undef, .undef], ?_⟩
          by_cases z : x = []
          · refine ⟨_, by simp [bindN], by simp [z]; rfl, s, lotD x, by simp [fc, z], hj⟩
          · obtain ⟨s', e1, hj'⟩ := ih (bh ls x) s (by have := bh_lt hx; omega) (Bite.bh_F5 hf x) (bh_sub'.trans hu) hj
            have z2 : 0 < x.length := List.length_pos_iff.mpr z
            have ef : fc [x] = [x] := by simp [fc, z2]
            refine ⟨_, by simp [bindN], by
              simp [z, hl, g_law_in hx3, hj.slot]
              have e2 : (ls.filter fun a => !ins x a) = bh ls x := rfl
              rw [e2]
              simp [e1, pl3]
              rfl, s', lotD x, by simp [fc_app, ef], hj'⟩)
      obtain ⟨d3, h3, hk3, h4⟩ := h2 d2 hk2
      have ms := mex_spec ((fc ls).map fun l => g (bh ls l))
      rw [← g_eq ls] at ms
      have h7 : ∀ i : Nat, ((fc ls).map fun l => (g (bh ls l) : Int)).contains (i : Int) = ((fc ls).map fun l => g (bh ls l)).contains i := fun i => by
        rw [Bool.eq_iff_iff, List.contains_iff_mem, List.contains_iff_mem, List.mem_map, List.mem_map]
        exact ⟨fun ⟨a, ha, e⟩ => ⟨a, ha, by omega⟩, fun ⟨a, ha, e⟩ => ⟨a, ha, by omega⟩⟩
      have gl : g ls ≤ (fc ls).length := by
        have := pigeon (g ls) ((fc ls).map fun l => g (bh ls l)) ms.2
        simpa using this
      have hw : sWhile (mT (fT (p2 dIn (bVar 4) (bVar 2)))) (sAsg (mP (p2 dAdd (bVar 4) (pC (.int 1)))) (gNm 4)) [.tup (ls.map lotD), d2, .lst true ((fc ls).map fun l => .int (g (bh ls l))), x3, .int 0, .undef] = some (.nx, [.tup (ls.map lotD), d2, .lst true ((fc ls).map fun l => .int (g (bh ls l))), x3, .int (g ls), .undef]) := by
        have := runW_count (q := mT (fT (p2 dIn (bVar 4) (bVar 2)))) (f := sAsg (mP (p2 dAdd (bVar 4) (pC (.int 1)))) (gNm 4)) (fun j : Nat => [.tup (ls.map lotD), d2, .lst true ((fc ls).map fun l => .int (g (bh ls l))), x3, .int (j : Int), .undef]) (g ls) 0 fuelW (by unfold fuelW; omega)
          (fun j _ hj => by
            have m := ms.2 j (by omega)
            have m' : ((fc ls).map fun l => (g (bh ls l) : Int)).contains (j : Int) = true := by rw [h7]; simpa using m
            have m2 := in_intsF true (j : Int) (fun l => (g (bh ls l) : Int)) (fc ls)
            rw [m'] at m2
            exact ⟨by simp [-in_intsF, m2], by simp⟩)
          (by
            have m' : ((fc ls).map fun l => (g (bh ls l) : Int)).contains (g ls : Int) = false := by rw [h7]; simpa using ms.1
            have m2 := in_intsF true (g ls : Int) (fun l => (g (bh ls l) : Int)) (fc ls)
            rw [m'] at m2
            rw [Nat.zero_add]
            simp [-in_intsF, m2])
        rw [Nat.zero_add] at this
        exact this
      refine ⟨d3, ?_, hk3⟩
      simp [hw, h3, hk2.slot, hk3.slot, h4]
end TL
end
section
set_option maxRecDepth 100000
namespace TL
open PySem PySem.Spec PyProof.Rows L2 TL.Bite
theorem q_Biter_number {p : Nat} {U : List Lot} (hU : U.length ≤ 20) (n : Nat) : ∀ (ls : List Lot) (d : D), ls.length < n → F5 p ls → ls.Sublist U → KeptL U vG d →
    ∃ d', m_Biter_number n [.ins true 1 [d], .tup (ls.map lotD)] = some (.int (g ls), [.ins true 1 [d'], .tup (ls.map lotD)]) ∧ KeptL U vG d' := by
  induction n with
  | zero => exact fun ls d h => absurd h (Nat.not_lt_zero _)
  | succ n ih =>
    intro ls d h hf hu hk
    have hl : ls.length ≤ 16000000 := by have := hf.len; omega
    have hs := hk.slot
    have l1 : (fc ls).length ≤ ls.length := List.length_filter_le _ _
    have l2 : (fc ls).length ≤ 16000000 := by omega
    rcases hk.asked ls hu hU with ⟨h1, h2⟩ | ⟨h1, h2⟩
    · exact ⟨d, by simp [m_Biter_number, b_Biter_number, dFld, hs, h1, h2], hk⟩
    · simp [m_Biter_number, b_Biter_number, dFld, hs, h1, hl, g_faces hf.srt hl, l2]
      generalize hc : compM _ _ _ _ _ _ = r
      obtain ⟨d2, e, hk2⟩ : ∃ d2, r = some (((fc ls).filter fun _ => true).map fun l => .tup [.int (g (bh ls l)), .bl true], [.ins true 1 [d2], .tup (ls.map lotD), .undef, .undef, .undef]) ∧ KeptL U vG d2 := by
        rw [← hc]
        refine compM_st lotD (fun _ => true) (fun l => .tup [.int (g (bh ls l)), .bl true]) (fun d => [.ins true 1 [d], .tup (ls.map lotD), .undef, .undef, .undef]) (KeptL U vG) (fun s => by simp) (fc ls) _ d rfl hk ?_
        intro x hx s hj
        have hx' := (mem_fc.mp hx).1
        have := hf.small hx'
        have hx3 : List.length x ≤ 16000000 := by omega
        refine ⟨[.ins true 1 [s], .tup (ls.map lotD), .undef, .undef, lotD x], by simp, fun _ => ?_, fun q => nomatch q⟩
        obtain ⟨s', e1, hj'⟩ := ih (bh ls x) s (by have := bh_lt hx'; omega) (Bite.bh_F5 hf x) (bh_sub'.trans hu) hj
        exact ⟨s', [.ins true 1 [s'], .tup (ls.map lotD), .undef, .undef, lotD x], by simp [hj.slot, g_behind hf hx3, e1], by simp, hj'⟩
      obtain ⟨d3, h3, hk3, h4⟩ := h2 d2 hk2
      obtain ⟨ks, vs, h5, h6⟩ := dict_ints true (fun l => (g (bh ls l) : Int)) (fc ls) l2
      have ms := mex_spec ((fc ls).map fun l => g (bh ls l))
      rw [← g_eq ls] at ms
      have h7 : ∀ i : Nat, ((fc ls).map fun l => (g (bh ls l) : Int)).contains (i : Int) = ((fc ls).map fun l => g (bh ls l)).contains i := fun i => by
        rw [Bool.eq_iff_iff, List.contains_iff_mem, List.contains_iff_mem, List.mem_map, List.mem_map]
        exact ⟨fun ⟨a, ha, e⟩ => ⟨a, ha, by omega⟩, fun ⟨a, ha, e⟩ => ⟨a, ha, by omega⟩⟩
      have gl : g ls ≤ (fc ls).length := by
        have := pigeon (g ls) ((fc ls).map fun l => g (bh ls l)) ms.2
        simpa using this
      have hl4 := hf.len
      have hw : sWhile (mT (fT (p2 dIn (bVar 3) (bVar 2)))) (sAsg (mP (p2 dAdd (bVar 3) (pC (.int 1)))) (gNm 3)) [.ins true 1 [d2], .tup (ls.map lotD), .dct true false ks vs, .int 0, .undef] = some (.nx, [.ins true 1 [d2], .tup (ls.map lotD), .dct true false ks vs, .int (g ls), .undef]) := by
        have := runW_count (q := mT (fT (p2 dIn (bVar 3) (bVar 2)))) (f := sAsg (mP (p2 dAdd (bVar 3) (pC (.int 1)))) (gNm 3)) (fun j : Nat => [.ins true 1 [d2], .tup (ls.map lotD), .dct true false ks vs, .int (j : Int), .undef]) (g ls) 0 fuelW (by unfold fuelW; omega)
          (fun j _ hj => by
            have m := ms.2 j (by omega)
            have m' : ((fc ls).map fun l => (g (bh ls l) : Int)).contains (j : Int) = true := by rw [h7]; simpa using m
            have m2 : dIn (.int (j : Int)) (.dct true false ks vs) = some (.bl true) := by rw [h6, m']
            exact ⟨by simp [m2], by simp⟩)
          (by
            have m' : ((fc ls).map fun l => (g (bh ls l) : Int)).contains (g ls : Int) = false := by rw [h7]; simpa using ms.1
            have m2 : dIn (.int (g ls : Int)) (.dct true false ks vs) = some (.bl false) := by rw [h6, m']
            rw [Nat.zero_add]
            simp [m2])
        rw [Nat.zero_add] at this
        exact this
      refine ⟨d3, ?_, hk3⟩
      simp [e, h5, hw, getF, putFd, h3, hk2.imm, h4, hk3.imm, dFld]
theorem g_Biter_init : mkO (m_Biter_init [.ins true 1 []]) = some (.ins true 1 [.dct true false [] []]) := by
  simp [m_Biter_init, b_Biter_init, setFd]
def vW (ls : List Lot) : D := .bl (decide (g ls ≠ 0))
theorem q_Winner_wins {p : Nat} {U : List Lot} (hU : U.length ≤ 20) (n : Nat) : ∀ (ls : List Lot) (d : D), ls.length < n → F5 p ls → ls.Sublist U → KeptL U vW d →
    ∃ d', m_Winner_wins n [.ins true 2 [d], .tup (ls.map lotD)] = some (vW ls, [.ins true 2 [d'], .tup (ls.map lotD)]) ∧ KeptL U vW d' := by
  induction n with
  | zero => exact fun ls d h => absurd h (Nat.not_lt_zero _)
  | succ n ih =>
    intro ls d h hf hu hk
    have hl : ls.length ≤ 16000000 := by have := hf.len; omega
    have hs := hk.slot
    have l1 : (fc ls).length ≤ ls.length := List.length_filter_le _ _
    have l2 : (fc ls).length ≤ 16000000 := by omega
    rcases hk.asked ls hu hU with ⟨h1, h2⟩ | ⟨h1, h2⟩
    · exact ⟨d, by simp [m_Winner_wins, b_Winner_wins, dFld, hs, h1, h2]; simp [vW], hk⟩
    · simp [m_Winner_wins, b_Winner_wins, dFld, hs, h1, hl, g_faces hf.srt hl, l2]
      generalize hc : runFor _ _ _ _ = r
      obtain ⟨e', rfl, d2, x2, rfl, hk2⟩ := runFor_of hc (fun pre e => ∃ d2 x2, e = [.ins true 2 [d2], .tup (ls.map lotD), .bl (pre.any fun f => decide (g (bh ls f) = 0)), x2] ∧ KeptL U vW d2) ⟨d, .undef, rfl, hk⟩ (by
          rintro x hx pre _ ⟨s, x2, rfl, hj⟩
          have hx' := (mem_fc.mp hx).1
          have := hf.small hx'
          have hx3 : List.length x ≤ 16000000 := by omega
          obtain ⟨s', e1, hj'⟩ := ih (bh ls x) s (by have := bh_lt hx'; omega) (Bite.bh_F5 hf x) (bh_sub'.trans hu) hj
          simp only [vW] at e1
          refine ⟨[.ins true 2 [s], .tup (ls.map lotD), .bl (pre.any fun f => decide (g (bh ls f) = 0)), lotD x], ?_⟩
          cases q : (pre.any fun f => decide (g (bh ls f) = 0)) with
          | true => exact ⟨_, by simp [bindN], by simp; rfl, s, lotD x, by simp [List.any_append, q], hj⟩
          | false =>
            by_cases z : g (bh ls x) = 0
            · exact ⟨_, by simp [bindN], by simp [hj.slot, g_behind hf hx3, e1, z]; rfl, s', lotD x, by simp [List.any_append, z], hj'⟩
            · exact ⟨_, by simp [bindN], by simp [hj.slot, g_behind hf hx3, e1, z]; rfl, s', lotD x, by simp [List.any_append, q, z], hj'⟩)
      obtain ⟨d3, h3, hk3, h4⟩ := h2 d2 hk2
      have e3 : D.bl ((fc ls).any fun f => decide (g (bh ls f) = 0)) = vW ls := by
        unfold vW
        congr 1
        rw [Bool.eq_iff_iff, List.any_eq_true, decide_eq_true_iff, g_pos]
        simp
      rw [e3]
      refine ⟨d3, ?_, hk3⟩
      have hv : ∀ e, slot (vW ls :: e) 0 = some (vW ls) := fun e => rfl
      have hv2 : imm (vW ls) = true := rfl
      simp [hv, hv2, getF, putFd, h3, hk2.imm, h4, hk3.imm, dFld]
theorem g_Winner_init : mkO (m_Winner_init [.ins true 2 []]) = some (.ins true 2 [.dct true false [] []]) := by
  simp [m_Winner_init, b_Winner_init, setFd]
end TL
end
section
set_option maxRecDepth 100000
namespace TL
open PySem PySem.Spec PyProof.Rows L2 TL.Bite
def handD (cells : List Int) (i r a c : Int) : D := .lst true [.lst false (cells.map .int), .int i, .int r, .int a, .int c]
/-- a hand of draws -/
def HandOk (d : D) : Prop := ∃ cells i r a c, d = handD cells i r a c ∧ 0 ≤ i ∧ (∀ x ∈ cells, (0 : Int) ≤ x) ∧ 0 ≤ r ∧ 0 ≤ a ∧ 0 ≤ c
theorem HandOk.slot {d : D} (h : HandOk d) (e : List D) : slot (d :: e) 0 = some d := by
  obtain ⟨_, _, _, _, _, rfl, _⟩ := h; rfl
section
variable (cells : List Int) (i r a c x : Int)
@[simp] theorem hix0 : dIx (handD cells i r a c) (.int 0) = some (.lst false (cells.map .int)) := Eq.trans rfl rfl
@[simp] theorem hix1 : dIx (handD cells i r a c) (.int 1) = some (.int i) := Eq.trans rfl rfl
@[simp] theorem hix2 : dIx (handD cells i r a c) (.int 2) = some (.int r) := Eq.trans rfl rfl
@[simp] theorem hix3 : dIx (handD cells i r a c) (.int 3) = some (.int a) := Eq.trans rfl rfl
@[simp] theorem hix4 : dIx (handD cells i r a c) (.int 4) = some (.int c) := Eq.trans rfl rfl
@[simp] theorem hput1 : dPut (handD cells i r a c) (.int 1) (.int x) = some (handD cells x r a c) := Eq.trans rfl rfl
@[simp] theorem hput2 : dPut (handD cells i r a c) (.int 2) (.int x) = some (handD cells i x a c) := Eq.trans rfl rfl
@[simp] theorem hput3 : dPut (handD cells i r a c) (.int 3) (.int x) = some (handD cells i r x c) := Eq.trans rfl rfl
@[simp] theorem hput4 : dPut (handD cells i r a c) (.int 4) (.int x) = some (handD cells i r a x) := Eq.trans rfl rfl
@[simp] theorem hslot (e : List D) : slot (handD cells i r a c :: e) 0 = some (handD cells i r a c) := Eq.trans rfl rfl
end
@[simp] theorem hs16 : small64 16 = true := by decide
theorem q_law_draw {d : D} {s : Int} (h : HandOk d) (h1 : 1 ≤ s) (h2 : s ≤ 1000) : ∃ n d', m_law_draw [d, .int s] = some (.int n, [d', .int s]) ∧ HandOk d' ∧ 0 ≤ n ∧ n < s := by
  obtain ⟨cells, i, r, a, c, rfl, hi, hx, hr, ha, hc⟩ := h
  have sp1 : 0 < s := by omega
  have sp2 : s < 1073741824 := by omega
  have key : ∀ (i r a c : Int) (x : D), 0 ≤ i → 0 ≤ r → 0 ≤ a → 0 ≤ c → ∃ n d', finF 2 (sSeq (sIf (mT (fT (p2 dGt (p2 dIx (bVar 0) (pC (.int 2))) (pC (.int 0))))) (sSeq (sAsg (mP (p2 dMod (gC (g1 dInt) (lCons (p2 dIx (bVar 0) (pC (.int 2))) lNil)) (bVar 1))) (gNm 3)) (sSeq (sAsg (mP (p2 dDiv (p2 dIx (bVar 0) (pC (.int 2))) (bVar 1))) (gIx (fun e => slot e 0) (fun e c => e.set 0 c) (pC (.int 2)))) (sRet (mMov 3)))) sNil) (sSeq (sAsg (mP (p2 dAdd (p2 dIx (bVar 0) (pC (.int 4))) (pC (.int 1)))) (gIx (fun e => slot e 0) (fun e c => e.set 0 c) (pC (.int 4)))) (sSeq (sAsg (mP (p2 dMod (gC (g1 dInt) (lCons (p2 dMul (gC (g1 dInt) (lCons (p2 dAdd (p2 dIx (bVar 0) (pC (.int 3))) (p2 dMul (pC (.int 7919)) (p2 dIx (bVar 0) (pC (.int 4))))) lNil)) (pC (.int 48271))) lNil)) (pC (.int 2147483647)))) (gNm 4)) (sSeq (sAsg (mP (p2 dMod (gC (g1 dInt) (lCons (p2 dMul (bVar 4) (p2 dAdd (p2 dDiv (bVar 4) (pC (.int 1009))) (pC (.int 69621)))) lNil)) (pC (.int 2147483647)))) (gNm 4)) (sSeq (sAsg (mP (p2 dMod (gC (g1 dInt) (lCons (p2 dMul (bVar 4) (p2 dAdd (p2 dDiv (bVar 4) (pC (.int 2003))) (pC (.int 40692)))) lNil)) (pC (.int 2147483399)))) (gNm 4)) (sRet (mP (p2 dMod (gC (g1 dInt) (lCons (p2 dDiv (bVar 4) (pC (.int 16))) lNil)) (bVar 1))))))))
      [handD cells i r a c, .int s, x, .undef, .undef]) = some (.int n, [d', .int s]) ∧ HandOk d' ∧ 0 ≤ n ∧ n < s := by
    intro i r a c x hi hr ha hc
    by_cases q : 0 < r
    · refine ⟨r % s, handD cells i (r / s) a c, by simp [q, sp1, sp2], ⟨cells, i, r / s, a, c, rfl, hi, hx, Int.ediv_nonneg hr (by omega), ha, hc⟩, Int.emod_nonneg _ (by omega), Int.emod_lt_of_pos _ sp1⟩
    · have m1 := small_of (a := (a + 7919 * (c + 1)) * 48271 % 2147483647) (by omega) (by omega)
      have m2 : small64 (((a + 7919 * (c + 1)) * 48271 % 2147483647 * ((a + 7919 * (c + 1)) * 48271 % 2147483647 / 1009 + 69621)) % 2147483647) = true := small_of (by omega) (by omega)
      refine ⟨_, handD cells i r a (c + 1), by simp [q, sp1, sp2, m1, m2]; rfl, ⟨cells, i, r, a, c + 1, rfl, hi, hx, hr, ha, by omega⟩, Int.emod_nonneg _ (by omega), Int.emod_lt_of_pos _ sp1⟩
  by_cases q : r = 0 ∧ i < cells.length
  · obtain ⟨x, hx1, hx2⟩ := atI_cell hi q.2
    have hx3 := hx x hx1
    by_cases z : (1000000000000000000 : Int) ≤ x
    · obtain ⟨n, d', e, e2⟩ := key (i + 1) x ((a * 69621 + x * 16 + 29) % 2147483629) c (.int x) (by omega) hx3 (by omega) hc
      refine ⟨n, d', ?_, e2⟩
      rw [← e]
      simp [m_law_draw, b_law_draw, q.1, q.2, hx2, z]
    · obtain ⟨n, d', e, e2⟩ := key (i + 1) r ((a * 69621 + x * 16 + 29) % 2147483629) c (.int x) (by omega) hr (by omega) hc
      refine ⟨n, d', ?_, e2⟩
      rw [← e]
      simp [m_law_draw, b_law_draw, q.1, q.2, hx2, z]
  · obtain ⟨n, d', e, e2⟩ := key i r a c .undef hi hr ha hc
    refine ⟨n, d', ?_, e2⟩
    rw [← e]
    by_cases q1 : r = 0
    · have q2 : ¬ i < cells.length := fun z => q ⟨q1, z⟩
      simp [m_law_draw, b_law_draw, q1, q2]
    · simp [m_law_draw, b_law_draw, q1]
end TL
end
section
set_option maxRecDepth 100000
namespace TL
open PySem PySem.Spec PyProof.Rows L2 TL.Bite
theorem frzL_ints : ∀ xs : List Int, frzL (xs.map D.int) = xs.map D.int
  | [] => rfl
  | x :: xs => by simp [frzL, frz, frzL_ints xs]
theorem frzL_lots : ∀ xs : List Lot, frzL (xs.map lotD) = xs.map lotD
  | [] => rfl
  | x :: xs => by simp [frzL, frz, frzL_lots xs, lotD, frzL_ints]
theorem sl63 (ns : List Int) : ∃ xs : List Int, dSl none (some 63) (.scr ns) = some (.lst true (xs.map .int)) ∧ xs.length ≤ ns.length :=
  ⟨_, rfl, by simp only [List.length_take, List.length_drop]; omega⟩
theorem g_law_hand {ns : List Int} (h : ns.length ≤ 63) : ∃ d, gPure [.ro] m_law_hand [.scr ns] = some d ∧ HandOk d := by
  obtain ⟨xs, e, hl⟩ := sl63 ns
  have h1 : xs.length ≤ 16000000 := by omega
  refine ⟨handD (xs.map fun x => if x < 0 then -x else x) 0 0 (7 + xs.length) 0, gPure_of (ds' := [.scr ns]) ?_, _, _, _, _, _, rfl, by omega, fun x hx => ?_, by omega, by omega, by omega⟩
  · have e4 : (xs.map fun x => D.int (if x < 0 then -x else x)) = (xs.map fun x => if x < 0 then -x else x).map D.int := by simp
    simp [m_law_hand, b_law_hand, e, h1, frz]
    rw [e4, frzL_ints]
    simp [handD]
  · rw [List.mem_map] at hx
    obtain ⟨y, _, rfl⟩ := hx
    split <;> omega
theorem q_law_any {d : D} {m : Bool} {xs : List Lot} (h : HandOk d) (h1 : 1 ≤ xs.length) (h2 : xs.length ≤ 1000) : ∃ x ∈ xs, ∃ d', m_law_any [d, .lst m (xs.map lotD)] = some (lotD x, [d', .lst m (xs.map lotD)]) ∧ HandOk d' := by
  obtain ⟨n, d', e, hd, h3, h4⟩ := q_law_draw (s := (xs.length : Int)) h (by omega) (by omega)
  obtain ⟨x, hx, e2⟩ := atI_mapP lotD h3 h4
  exact ⟨x, hx, d', by simp [m_law_any, b_law_any, h.slot, e, hd.slot, e2], hd⟩
theorem t_ll1 : gPure [.ro] m_law_lots [.int 1] = some (.lst true ((allLots 1).map lotD)) := by kernel_rfl
theorem t_ll2 : gPure [.ro] m_law_lots [.int 2] = some (.lst true ((allLots 2).map lotD)) := by kernel_rfl
theorem t_ll3 : gPure [.ro] m_law_lots [.int 3] = some (.lst true ((allLots 3).map lotD)) := by kernel_rfl
theorem g_law_lots {n : Nat} (h1 : 1 ≤ n) (h3 : n ≤ 3) : gPure [.ro] m_law_lots [.int (n : Nat)] = some (.lst true ((allLots n).map lotD)) := by
  match n, h1, h3 with
  | 1, _, _ => exact t_ll1
  | 2, _, _ => exact t_ll2
  | 3, _, _ => exact t_ll3
theorem ins_iff {f l : Lot} : ins f l = true ↔ ∀ i ∈ f, i ∈ l := by
  unfold ins; rw [List.all_eq_true]; simp
theorem ins_nil (l : Lot) : ins [] l = true := rfl
theorem wo_ok {n : Int} {i : Int} {l : Lot} (h : okLot n l = true) : okLot n (wo i l) = true := by
  rw [okLot_iff] at h ⊢
  exact ⟨fun j hj => h.1 j (List.mem_filter.mp hj).1, List.Pairwise.filter _ h.2⟩
theorem filter_ok {n : Int} {p : Int → Bool} {l : Lot} (h : okLot n l = true) : okLot n (l.filter p) = true := by
  rw [okLot_iff] at h ⊢
  exact ⟨fun j hj => h.1 j (List.mem_filter.mp hj).1, List.Pairwise.filter _ h.2⟩
theorem Cx.ofLow {n : Nat} (h1 : 1 ≤ n) (h5 : n ≤ 5) {ls : List Lot} (hn : ls ≠ []) : Cx n (TL.low n ls) := by
  refine ⟨F5.low h1 h5 ls, ?_, ?_⟩
  · obtain ⟨l, hl⟩ := List.exists_mem_of_ne_nil _ hn
    have : [] ∈ TL.low n ls := (mem_low h5).mpr ⟨by rw [okLot_iff]; simp, l, hl, ins_nil l⟩
    exact List.ne_nil_of_mem this
  · unfold isLow
    rw [List.all_eq_true]
    intro l hl
    rw [List.all_eq_true]
    intro i hi
    rw [List.contains_iff_mem]
    rw [mem_low h5] at hl ⊢
    obtain ⟨h2, m, hm, h3⟩ := hl
    refine ⟨wo_ok h2, m, hm, ?_⟩
    rw [ins_iff] at h3 ⊢
    exact fun j hj => h3 j (List.mem_filter.mp hj).1
theorem sl_lots (lo hi : Option Int) (m : Bool) (ls : List Lot) : ∃ ks : List Lot, dSl lo hi (.lst m (ls.map lotD)) = some (.lst true (ks.map lotD)) ∧ ks.length ≤ ls.length ∧ ∀ k ∈ ks, k ∈ ls := by
  have h : dSl lo hi (.lst m (ls.map lotD)) = if immL (ls.map lotD) = true then some (.lst true (((ls.map lotD).drop (HT.sIx (ls.map lotD).length 0 lo)).take (HT.sIx (ls.map lotD).length (ls.map lotD).length hi - HT.sIx (ls.map lotD).length 0 lo))) else none := rfl
  rw [if_pos (immL_lots ls), ← List.map_drop, ← List.map_take] at h
  exact ⟨_, h, by simp only [List.length_take, List.length_drop]; omega, fun k hk => List.mem_of_mem_drop (List.mem_of_mem_take hk)⟩
theorem sl_lots4 (ls : List Lot) : ∃ ks : List Lot, dSl none (some 4) (.lst true (ls.map lotD)) = some (.lst true (ks.map lotD)) ∧ ks.length ≤ 4 ∧ ∀ k ∈ ks, k ∈ ls := by
  have h : dSl none (some 4) (.lst true (ls.map lotD)) = if immL (ls.map lotD) = true then some (.lst true (((ls.map lotD).drop (HT.sIx (ls.map lotD).length 0 none)).take (HT.sIx (ls.map lotD).length (ls.map lotD).length (some 4) - HT.sIx (ls.map lotD).length 0 none))) else none := rfl
  rw [if_pos (immL_lots ls), ← List.map_drop, ← List.map_take] at h
  refine ⟨_, h, ?_, fun k hk => List.mem_of_mem_drop (List.mem_of_mem_take hk)⟩
  have : HT.sIx (ls.map lotD).length (ls.map lotD).length (some 4) ≤ 4 := by simp [HT.sIx]; omega
  simp only [List.length_take]; omega
@[simp] theorem neg_int (i : Int) : dNeg (.int i) = some (.int (-i)) := Eq.trans rfl rfl
theorem compM_anyOf {α β σ : Type} {i : Nat} {own : List Nat} {t : EvTM} {f : EvM} {enc : α → D} {xs : List α} {e : List D} {r : Option (List D × List D)} (hc : compM (.nm i) own t f (xs.map enc) e = r) (dec : β → D) (P : β → Prop) (E : σ → List D) (J : σ → Prop) (hi : ∀ s, i < (E s).length) (s : σ) (he : undefs own e = E s) (hj : J s)
    (H : ∀ x ∈ xs, ∀ s, J s → ∃ b e2, t ((E s).set i (enc x)) = some (b, e2) ∧ (b = true → ∃ y s' e3, f e2 = some (dec y, e3) ∧ P y ∧ undefs own e3 = E s' ∧ J s') ∧ (b = false → ∃ s', undefs own e2 = E s' ∧ J s')) :
    ∃ (ys : List β) (s' : σ), r = some (ys.map dec, E s') ∧ J s' ∧ (∀ y ∈ ys, P y) ∧ ys.length ≤ xs.length := by
  rw [← hc]
  exact compM_any enc dec P E J hi xs e s he hj H
/-- what the drawing of a family gives -/
def FamR (n : Nat) (r : Option (Out × List D)) : Prop := ∃ ls d', finF 2 r = some (.tup (ls.map lotD), [d', .int (n : Nat)]) ∧ F5 n ls ∧ HandOk d'
theorem stepF {n : Nat} {α : Type} {f g : EvS} {e : List D} (E : α → List D) (R : α → Prop) (h : ∃ a, f e = some (.nx, E a) ∧ R a) (k : ∀ a, R a → FamR n (g (E a))) : FamR n (sSeq f g e) := by
  obtain ⟨a, h1, h2⟩ := h
  rw [e_sSeq, h1, bindS_nx]
  exact k a h2
theorem all_ok {n : Nat} (h5 : n ≤ 5) : ∀ l ∈ allLots n, okLot n l = true := fun l hl => (mem_allLots h5).mp hl
theorem q_law_family {n : Nat} (h1 : 1 ≤ n) (h3 : n ≤ 3) {d : D} (h : HandOk d) : ∃ ls d', m_law_family [d, .int (n : Nat)] = some (.tup (ls.map lotD), [d', .int (n : Nat)]) ∧ F5 n ls ∧ HandOk d' := by
  suffices hs : FamR n (b_law_family [d, .int (n : Nat), .undef, .undef, .undef, .undef, .undef, .undef, .undef, .undef, .undef]) by
    exact hs
  have al : (allLots n).length ≤ 8 := by
    rw [allLots_len]
    exact Nat.pow_le_pow_right (n := 2) (by omega) h3
  have al2 : (allLots n).length ≤ 16000000 := by omega
  have ok := all_ok (n := n) (by omega)
  have sm : ∀ l : Lot, okLot n l = true → l.length ≤ 16000000 := fun l hl => by have := okLot_len hl (by omega); omega
  unfold b_law_family
  -- all lots, the kind, how often
  refine stepF (fun a : D × Int × Int => [a.1, .int (n : Nat), .lst true ((allLots n).map lotD), .int a.2.1, .int a.2.2, .undef, .undef, .undef, .undef, .undef, .undef]) (fun a => HandOk a.1 ∧ 2 ≤ a.2.2 ∧ a.2.2 ≤ 4) ?_ ?_
  · obtain ⟨k, d1, e1, hd1, k1, k2⟩ := q_law_draw (s := 6) h (by omega) (by omega)
    obtain ⟨j, d2, e2, hd2, j1, j2⟩ := q_law_draw (s := 3) hd1 (by omega) (by omega)
    exact ⟨(d2, k, 2 + j), by simp [h.slot, hd1.slot, g_law_lots h1 h3, e1, e2], hd2, by simp only; omega, by simp only; omega⟩
  rintro ⟨d1, k, o⟩ ⟨hd1, o1, o2⟩
  simp only at hd1 o1 o2 ⊢
  -- the size
  refine stepF (fun a : D × Int => [a.1, .int (n : Nat), .lst true ((allLots n).map lotD), .int k, .int o, .int a.2, .undef, .undef, .undef, .undef, .undef]) (fun a => HandOk a.1) ?_ ?_
  · obtain ⟨j, d2, e2, hd2, j1, j2⟩ := q_law_draw (s := (n : Int) + 1) hd1 (by omega) (by omega)
    exact ⟨(d2, j), by simp [hd1.slot, e2], hd2⟩
  rintro ⟨d2, z⟩ hd2
  simp only at hd2 ⊢
  -- some of them
  refine stepF (fun a : D × List Lot => [a.1, .int (n : Nat), .lst false ((allLots n).map lotD), .int k, .int o, .int z, .lst true (a.2.map lotD), .undef, .undef, .undef, .undef]) (fun a => HandOk a.1 ∧ (∀ l ∈ a.2, okLot n l = true) ∧ a.2.length ≤ 8) ?_ ?_
  · simp [-Prod.exists, frz, frzL_lots, al2]
    generalize hc : compM _ _ _ _ _ _ = r
    obtain ⟨ys, s', rfl, hj, hy, hyl⟩ := compM_anyOf hc lotD (fun l => okLot n l = true) (fun s : D => [s, .int (n : Nat), .lst false ((allLots n).map lotD), .int k, .int o, .int z, .undef, .undef, .undef, .undef, .undef]) HandOk (fun s => by simp) d2 (by simp) hd2 (by
      intro x hx s hs
      obtain ⟨j, s', e2, hs', j1, j2⟩ := q_law_draw (s := o) hs (by omega) (by omega)
      refine ⟨decide (j = 0), [s', .int (n : Nat), .lst false ((allLots n).map lotD), .int k, .int o, .int z, .undef, .undef, lotD x, .undef, .undef], by simp [hs.slot, e2], fun _ => ⟨x, s', [s', .int (n : Nat), .lst false ((allLots n).map lotD), .int k, .int o, .int z, .undef, .undef, lotD x, .undef, .undef], by simp, ok x hx, by simp, hs'⟩, fun _ => ⟨s', by simp, hs'⟩⟩)
    exact ⟨(s', ys), by simp, hj, hy, by simp only; omega⟩
  rintro ⟨d3, ss⟩ ⟨hd3, hss, hsl⟩
  simp only at hd3 hss hsl ⊢
  -- of one size
  refine stepF (fun a : D × List Lot => [a.1, .int (n : Nat), .lst false ((allLots n).map lotD), .int k, .int o, .int z, .lst true (a.2.map lotD), .undef, .undef, .undef, .undef]) (fun a => HandOk a.1 ∧ (∀ l ∈ a.2, okLot n l = true) ∧ a.2.length ≤ 8) ?_ ?_
  · by_cases q : k = 1
    · simp [-Prod.exists, q, frz, frzL_lots, al2]
      generalize hc : compM _ _ _ _ _ _ = r
      obtain ⟨ys, s', rfl, hj, hy, hyl⟩ := compM_anyOf hc lotD (fun l => okLot n l = true) (fun s : D => [s, .int (n : Nat), .lst false ((allLots n).map lotD), .int 1, .int o, .int z, .lst true (ss.map lotD), .undef, .undef, .undef, .undef]) HandOk (fun s => by simp) d3 (by simp) hd3 (by
        intro x hx s hs
        by_cases q2 : (x.length : Int) = z
        · obtain ⟨j, s', e2, hs', j1, j2⟩ := q_law_draw (s := 4) hs (by omega) (by omega)
          refine ⟨decide (0 < j), [s', .int (n : Nat), .lst false ((allLots n).map lotD), .int 1, .int o, .int z, .lst true (ss.map lotD), .undef, lotD x, .undef, .undef], by simp [q2, hs.slot, e2], fun _ => ⟨x, s', [s', .int (n : Nat), .lst false ((allLots n).map lotD), .int 1, .int o, .int z, .lst true (ss.map lotD), .undef, lotD x, .undef, .undef], by simp, ok x hx, by simp, hs'⟩, fun _ => ⟨s', by simp, hs'⟩⟩
        · refine ⟨false, [s, .int (n : Nat), .lst false ((allLots n).map lotD), .int 1, .int o, .int z, .lst true (ss.map lotD), .undef, lotD x, .undef, .undef], by simp [q2], (fun q => nomatch q), fun _ => ⟨s, by simp, hs⟩⟩)
      exact ⟨(s', ys), by simp, hj, hy, by simp only; omega⟩
    · exact ⟨(d3, ss), by simp [q], hd3, hss, hsl⟩
  clear hss hsl hd3
  rintro ⟨d4, ss⟩ ⟨hd4, hss, hsl⟩
  simp only at hd4 hss hsl ⊢
  -- what is within
  refine stepF (fun a : List Lot => [d4, .int (n : Nat), .lst false ((allLots n).map lotD), .int k, .int o, .int z, .lst true (a.map lotD), .undef, .undef, .undef, .undef]) (fun a => (∀ l ∈ a, okLot n l = true) ∧ a.length ≤ 8) ?_ ?_
  · by_cases q : k = 2
    · obtain ⟨ks, e, kl, hk⟩ := sl_lots none (some 3) true ss
      have kl2 : ks.length ≤ 16000000 := by omega
      refine ⟨(allLots n).filter fun l => ks.any fun m => ins l m, ?_, fun l hl => ok l (List.mem_filter.mp hl).1, Nat.le_trans (List.length_filter_le _ _) al⟩
      simp [q, al2]
      rw [fmO_eq (fun l => ks.any fun m => ins l m) lotD]
      · simp
      · intro x hx
        have := sm x (ok x hx)
        simp [e, kl2, g_law_in this]
    · exact ⟨ss, by simp [q], hss, hsl⟩
  clear hss hsl
  rintro ss ⟨hss, hsl⟩
  -- what they have in common
  refine stepF (fun a : List Lot × D => [d4, .int (n : Nat), .lst false ((allLots n).map lotD), .int k, .int o, .int z, .lst true (a.1.map lotD), a.2, .undef, .undef, .undef]) (fun a => (∀ l ∈ a.1, okLot n l = true) ∧ a.1.length ≤ 64) ?_ ?_
  · by_cases q : k = 3
    · obtain ⟨ks, e, kl, hk⟩ := sl_lots4 ss
      have kl2 : ks.length ≤ 16000000 := by omega
      simp [-Prod.exists, q, e, kl2]
      generalize hc : runFor _ _ _ _ = r
      obtain ⟨e', rfl, cs, x7, rfl, hcs, hcl⟩ := runFor_ofP hc (fun pre e => ∃ (cs : List Lot) (x7 : D), e = [d4, .int (n : Nat), .lst false ((allLots n).map lotD), .int 3, .int o, .int z, .lst true (cs.map lotD), x7, .undef, .undef, .undef] ∧ (∀ l ∈ cs, okLot n l = true) ∧ cs.length ≤ 4 * 2 ^ pre.length) ⟨ks, .undef, rfl, fun l hl => hss l (hk l hl), by simpa using kl⟩ (by
          rintro pre x p hp _ ⟨cs, x7, rfl, hcs, hcl⟩
          have hx : x ∈ ks := by rw [hp]; simp
          have pl : pre.length < 4 := by have := congrArg List.length hp; simp at this; omega
          have hx2 := hss x (hk x hx)
          have hx3 := sm x hx2
          have pw := Nat.pow_le_pow_right (n := 2) (by omega) (show pre.length ≤ 3 by omega)
          have cl2 : cs.length ≤ 16000000 := by omega
          have cl3 : lim (cs.length + cs.length) = true := lim_of (by omega)
          refine ⟨[d4, .int (n : Nat), .lst false ((allLots n).map lotD), .int 3, .int o, .int z, .lst true (cs.map lotD), lotD x, .undef, .undef, .undef], [d4, .int (n : Nat), .lst false ((allLots n).map lotD), .int 3, .int o, .int z, .lst true ((cs ++ cs.map fun o => x.filter fun i => o.contains i).map lotD), lotD x, .undef, .undef, .undef], by simp [bindN], ?_, _, lotD x, rfl, ?_, ?_⟩
          · simp [cl2]
            rw [fmO_eq (fun _ => true) (fun o => lotD (x.filter fun i => o.contains i))]
            · have im : immL (cs.map fun o => lotD (x.filter fun i => o.contains i)) = true := immL_map (fun o => imm_lot _) cs
              simp at im
              simp [im, cl3]
            · intro y hy
              simp [hx3, tup_ints]
          · intro l hl
            rcases List.mem_append.mp hl with hl | hl
            · exact hcs l hl
            · rw [List.mem_map] at hl
              obtain ⟨o, _, rfl⟩ := hl
              exact filter_ok hx2
          · simp only [List.length_append, List.length_map, List.length_cons, List.length_nil, Nat.pow_succ]
            omega)
      refine ⟨(cs, x7), by simp, hcs, ?_⟩
      simp only
      have := Nat.pow_le_pow_right (n := 2) (by omega) kl
      omega
    · exact ⟨(ss, .undef), by simp [q], hss, by simp only; omega⟩
  clear hss hsl
  rintro ⟨ss, x7⟩ ⟨hss, hsl⟩
  simp only at hss hsl ⊢
  -- what holds some
  refine stepF (fun a : List Lot => [d4, .int (n : Nat), .lst false ((allLots n).map lotD), .int k, .int o, .int z, .lst true (a.map lotD), x7, .undef, .undef, .undef]) (fun a => (∀ l ∈ a, okLot n l = true) ∧ a.length ≤ 64) ?_ ?_
  · by_cases q : k = 4
    · obtain ⟨ks, e, kl, hk⟩ := sl_lots (some (-3)) none true ss
      have kl2 : ks.length ≤ 16000000 := by omega
      refine ⟨(allLots n).filter fun l => ks.any fun m => ins m l, ?_, fun l hl => ok l (List.mem_filter.mp hl).1, Nat.le_trans (List.length_filter_le _ _) (by omega)⟩
      simp [q, al2]
      rw [fmO_eq (fun l => ks.any fun m => ins m l) lotD]
      · simp
      · intro x hx
        simp [e, kl2]
        rw [fmO_eq (fun _ => true) (fun m => .bl (ins m x))]
        · simp
        · intro y hy
          have := sm y (hss y (hk y hy))
          simp [g_law_in this]
    · exact ⟨ss, by simp [q], hss, hsl⟩
  clear hss hsl
  rintro ss ⟨hss, hsl⟩
  have f := F5.sort h1 (show n ≤ 5 by omega) hss
  have fl : (sortI ss).length < 63 := by have := f.len; omega
  refine ⟨sortI ss, d4, ?_, f, hd4⟩
  simp [fl]
end TL
end
section
set_option maxRecDepth 100000
namespace TL
open PySem PySem.Spec PyProof.Rows L2 TL.Bite
theorem q_Biter_init : m_Biter_init [.ins true 1 []] = some (.non, [.ins true 1 [.dct true false [] []]]) := by
  simp [m_Biter_init, b_Biter_init, setFd]
theorem q_Winner_init : m_Winner_init [.ins true 2 []] = some (.non, [.ins true 2 [.dct true false [] []]]) := by
  simp [m_Winner_init, b_Winner_init, setFd]
theorem g_bite_number {n : Nat} {ls : List Lot} (h : Cx n ls) (hl : ls.length ≤ 20) : gPure [.ro] m_bite_number [fam n ls] = some (.int (g ls)) := by
  obtain ⟨d', e, _⟩ := q_Biter_number (U := ls) hl 60 ls (.dct true false [] []) (by omega) h.toF5 (List.Sublist.refl _) (KeptL.empty _ _)
  exact gPure_of (ds' := [fam n ls]) (by simp [m_bite_number, b_bite_number, g_check_few h, q_Biter_init, e])
theorem g_first {n : Nat} {ls : List Lot} (h : Cx n ls) (hl : ls.length ≤ 20) : gPure [.ro] m_first_bites_last [fam n ls] = some (.bl (decide (g ls ≠ 0))) := by
  obtain ⟨d', e, _⟩ := q_Winner_wins (U := ls) hl 60 ls (.dct true false [] []) (by omega) h.toF5 (List.Sublist.refl _) (KeptL.empty _ _)
  exact gPure_of (ds' := [fam n ls]) (by simp [m_first_bites_last, b_first_bites_last, g_check_few h, q_Winner_init, e, vW])
def goods (ls : List Lot) : List Lot := (fc ls).filter fun l => decide (g (bh ls l) = 0)
def goodD (ls : List Lot) : D := match goods ls with
  | [] => .non
  | l :: _ => lotD l
theorem g_good {n : Nat} {ls : List Lot} (h : Cx n ls) (hl : ls.length ≤ 20) : gPure [.ro] m_good_bite [fam n ls] = some (goodD ls) := by
  refine gPure_of (ds' := [fam n ls]) ?_
  have l1 : (fc ls).length ≤ ls.length := List.length_filter_le _ _
  have l2 : (fc ls).length ≤ 16000000 := by omega
  simp [m_good_bite, b_good_bite, g_check_few h, q_Winner_init, g_faces h.toF5.srt h.len, l2]
  generalize hc : compM _ _ _ _ _ _ = r
  obtain ⟨s', rfl, hj⟩ := compM_of hc (fun l => decide (g (bh ls l) = 0)) lotD (fun d => [fam n ls, .ins true 2 [d], .undef, .undef]) (KeptL ls vW) (fun s => by simp) (.dct true false [] []) (by simp) (KeptL.empty _ _) (by
    intro x hx s hs
    have hx' := (mem_fc.mp hx).1
    have := h.toF5.small hx'
    have hx3 : List.length x ≤ 16000000 := by omega
    obtain ⟨d', e, hd⟩ := q_Winner_wins (U := ls) hl 60 (bh ls x) s (by have := bh_lt hx'; omega) (Bite.bh_F5 h.toF5 x) bh_sub' hs
    refine ⟨[fam n ls, .ins true 2 [d'], .undef, lotD x], by simp [g_behind h.toF5 hx3, e, vW], fun _ => ⟨d', [fam n ls, .ins true 2 [d'], .undef, lotD x], by simp, by simp, hd⟩, fun _ => ⟨d', by simp, hd⟩⟩)
  have e : (fc ls).filter (fun l => decide (g (bh ls l) = 0)) = goods ls := rfl
  rw [e]
  unfold goodD
  cases goods ls with
  | nil => simp
  | cons l k => simp
/-! ### the law's own sameness, its sum without carry -/
@[simp] theorem isi_int_bl (i : Bool) : dIsi .int (.bl i) = some (.bl true) := Eq.trans rfl rfl
@[simp] theorem isi_bool_bl (i : Bool) : dIsi .bool (.bl i) = some (.bl true) := Eq.trans rfl rfl
theorem g_law_is (b : Bool) : gPure [.ro, .ro] m_law_is [.bl b, .bl b] = some (.bl true) := gPure_of (ds' := [.bl b, .bl b]) (by simp [m_law_is, b_law_is])
theorem xor_step (a b : Nat) : a ^^^ b = (a + b) % 2 + 2 * (a / 2 ^^^ b / 2) := by
  have h1 := xor_mod a b
  have h2 : (a ^^^ b) / 2 = a / 2 ^^^ b / 2 := Nat.xor_div_two
  omega
theorem runW_t {q : EvTM} {f : EvS} {n : Nat} {e e1 e2 : List D} (h1 : q e = some (true, e1)) (h2 : f e1 = some (.nx, e2)) : runW q f (n + 1) e = runW q f n e2 := by simp only [runW, h1, h2]
theorem carryW : ∀ (fuel a b f s : Nat), a + b < fuel → ∃ s', runW (mT (tOrF (fT (p2 dGt (bVar 0) (pC (.int 0)))) (fT (p2 dGt (bVar 1) (pC (.int 0)))))) (sSeq (sAsg (mP (p2 dAdd (bVar 2) (p2 dMul (bVar 3) (p2 dMod (p2 dAdd (bVar 0) (bVar 1)) (pC (.int 2)))))) (gNm 2)) (sPar [0, 1, 3] (kCons (mP (p2 dDiv (bVar 0) (pC (.int 2)))) (kCons (mP (p2 dDiv (bVar 1) (pC (.int 2)))) (kCons (mP (p2 dMul (pC (.int 2)) (bVar 3))) kNil))))) fuel [.int (a : Nat), .int (b : Nat), .int (f : Nat), .int (s : Nat)] = some (.nx, [.int 0, .int 0, .int ((f + s * (a ^^^ b) : Nat) : Int), .int s'])
  | 0, a, b, f, s, h => by omega
  | fuel + 1, a, b, f, s, h => by
    by_cases q : a = 0 ∧ b = 0
    · obtain ⟨rfl, rfl⟩ := q
      refine ⟨s, ?_⟩
      simp [runW]
    · obtain ⟨s', e⟩ := carryW fuel (a / 2) (b / 2) (f + s * ((a + b) % 2)) (2 * s) (by omega)
      refine ⟨s', ?_⟩
      have m1 : small64 (((a : Int) + (b : Int)) % 2) = true := small_of (by omega) (by omega)
      have m2 : small64 2 = true := by decide
      have c1 : ((a / 2 : Nat) : Int) = (a : Int) / 2 := by omega
      have c2 : ((b / 2 : Nat) : Int) = (b : Int) / 2 := by omega
      have c3 : ((f + s * ((a + b) % 2) : Nat) : Int) = (f : Int) + (s : Int) * (((a : Int) + (b : Int)) % 2) := by
        rw [Int.natCast_add, Int.natCast_mul]
        have : (((a + b) % 2 : Nat) : Int) = ((a : Int) + (b : Int)) % 2 := by omega
        rw [this]
      have c4 : ((2 * s : Nat) : Int) = 2 * (s : Int) := by omega
      have ex : f + s * ((a + b) % 2) + 2 * s * (a / 2 ^^^ b / 2) = f + s * (a ^^^ b) := by
        rw [xor_step a b, Nat.mul_add, ← Nat.mul_assoc, Nat.mul_comm s 2]
        omega
      rw [ex, c1, c2, c3, c4] at e
      have h1 : (mT (tOrF (fT (p2 dGt (bVar 0) (pC (.int 0)))) (fT (p2 dGt (bVar 1) (pC (.int 0)))))) [.int (a : Nat), .int (b : Nat), .int (f : Nat), .int (s : Nat)] = some (true, [.int (a : Nat), .int (b : Nat), .int (f : Nat), .int (s : Nat)]) := by
        simp
        omega
      rw [runW_t (e2 := [.int ((a : Int) / 2), .int ((b : Int) / 2), .int ((f : Int) + (s : Int) * (((a : Int) + (b : Int)) % 2)), .int (2 * (s : Int))]) h1 (by simp [m1, m2])]
      exact e
theorem q_law_carry (a b : Nat) (h : a + b < 1000000) : ∃ ds', m_law_carry [.int (a : Nat), .int (b : Nat)] = some (.int ((a ^^^ b : Nat) : Int), ds') := by
  obtain ⟨s', e⟩ := carryW fuelW a b 0 1 (by unfold fuelW; omega)
  refine ⟨[.int 0, .int 0], ?_⟩
  have e2 : ((0 + 1 * (a ^^^ b) : Nat) : Int) = ((a ^^^ b : Nat) : Int) := by omega
  rw [e2] at e
  simp [m_law_carry, b_law_carry]
  have e3 := e
  have e4 : sWhile _ _ [.int (a : Nat), .int (b : Nat), .int 0, .int 1] = _ := e3
  simp [e4]
theorem g_law_carry (a b : Nat) (h : a + b < 1000000) : gPure [.mv, .mv] m_law_carry [.int (a : Nat), .int (b : Nat)] = some (.int ((a ^^^ b : Nat) : Int)) := by
  obtain ⟨ds', e⟩ := q_law_carry a b h
  exact gPure_of e (by simp [pureAt])
end TL
end
section
set_option maxRecDepth 100000
namespace TL
open PySem PySem.Spec PyProof.Rows L2 TL.Bite
/-! ### two complexes on points apart -/
def mv (n : Nat) (l : Lot) : Lot := l.map fun i => i + (n : Int)
theorem mem_mv {n : Nat} {l : Lot} {i : Int} : i ∈ mv n l ↔ i - n ∈ l := by
  unfold mv
  rw [List.mem_map]
  exact ⟨fun ⟨a, ha, e⟩ => by have : i - n = a := by omega
                              exact this ▸ ha, fun h => ⟨_, h, by omega⟩⟩
theorem ins_mv (n : Nat) (f l : Lot) : ins (mv n f) (mv n l) = ins f l := by
  rw [Bool.eq_iff_iff, ins_iff, ins_iff]
  constructor
  · intro h i hi
    have := h (i + n) (by rw [mem_mv]; simpa using hi)
    rw [mem_mv] at this; simpa using this
  · intro h i hi
    rw [mem_mv] at hi ⊢
    exact h _ hi
theorem mv_ok {n m : Nat} {l : Lot} (h : okLot m l = true) : okLot ((n + m : Nat) : Int) (mv n l) = true := by
  rw [okLot_iff] at h ⊢
  refine ⟨fun i hi => ?_, ?_⟩
  · have := h.1 _ (mem_mv.mp hi); omega
  · unfold mv
    rw [List.pairwise_map]
    exact h.2.imp fun {a b} q => by omega
theorem okLot_le {n m : Nat} (h : n ≤ m) {l : Lot} (hl : okLot n l = true) : okLot m l = true := by
  rw [okLot_iff] at hl ⊢
  exact ⟨fun i hi => by have := hl.1 i hi; omega, hl.2⟩
theorem wo_mv (n : Nat) (i : Int) (l : Lot) : wo i (mv n l) = mv n (wo (i - n) l) := by
  unfold wo mv
  rw [List.filter_map]
  congr 1
  refine List.filter_congr fun j _ => ?_
  simp only [Function.comp]
  congr 1
  rw [decide_eq_decide]; omega
def bothL (n : Nat) (A B : List Lot) : List Lot := sortI (A ++ B.map (mv n))
theorem mem_bothL {n : Nat} {A B : List Lot} {l : Lot} : l ∈ bothL n A B ↔ l ∈ A ∨ ∃ m ∈ B, mv n m = l := by
  rw [bothL, sortI_mem, List.mem_append, List.mem_map]
theorem isLow_iff {ls : List Lot} : isLow ls = true ↔ ∀ l ∈ ls, ∀ i ∈ l, wo i l ∈ ls := by
  unfold isLow
  simp [List.all_eq_true]
theorem both_cx {n m : Nat} {A B : List Lot} (hA : Cx n A) (hB : Cx m B) (h5 : n + m ≤ 5) : Cx (n + m) (bothL n A B) := by
  refine ⟨⟨by have := hA.toF5.n1; omega, h5, fun l hl => ?_, sortI_pw _⟩, ?_, ?_⟩
  · rcases mem_bothL.mp hl with h | ⟨k, hk, rfl⟩
    · exact okLot_le (by omega) (hA.toF5.ok l h)
    · exact mv_ok (hB.toF5.ok k hk)
  · obtain ⟨l, hl⟩ := List.exists_mem_of_ne_nil _ hA.ne
    exact List.ne_nil_of_mem (mem_bothL.mpr (.inl hl))
  · rw [isLow_iff]
    intro l hl i hi
    rw [mem_bothL]
    rcases mem_bothL.mp hl with h | ⟨k, hk, rfl⟩
    · exact .inl (isLow_iff.mp hA.low l h i hi)
    · refine .inr ⟨wo (i - n) k, isLow_iff.mp hB.low k hk _ (mem_mv.mp hi), (wo_mv n i k).symm⟩
theorem g_both {n m : Nat} {A B : List Lot} (hA : Cx n A) (hB : Cx m B) : g (bothL n A B) = g A ^^^ g B := by
  have e1 : g (bothL n A B) = g (A ++ B.map (mv n)) := g_set fun x => by rw [bothL, sortI_mem]
  have ap : Bite.Apart A (B.map (mv n)) := by
    constructor
    · intro f hf h0 l hl
      rw [List.mem_map] at hl
      obtain ⟨k, hk, rfl⟩ := hl
      cases q : ins f (mv n k) with
      | false => rfl
      | true =>
        obtain ⟨i, hi⟩ := List.exists_mem_of_ne_nil _ h0
        have h1 := (okLot_iff.mp (hA.toF5.ok f hf)).1 i hi
        have h2 := (okLot_iff.mp (hB.toF5.ok k hk)).1 _ (mem_mv.mp (ins_iff.mp q i hi))
        omega
    · intro f hf h0 l hl
      rw [List.mem_map] at hf
      obtain ⟨k, hk, rfl⟩ := hf
      cases q : ins (mv n k) l with
      | false => rfl
      | true =>
        obtain ⟨i, hi⟩ := List.exists_mem_of_ne_nil _ h0
        have h1 := (okLot_iff.mp (hA.toF5.ok l hl)).1 i (ins_iff.mp q i hi)
        have h2 := (okLot_iff.mp (hB.toF5.ok k hk)).1 _ (mem_mv.mp hi)
        omega
  rw [e1, g_sum _ A (B.map (mv n)) (Nat.le_refl _) ap, g_map (ins_mv n) (fun f => by simp [mv]) _ B (Nat.le_refl _)]
theorem bothL_len {n : Nat} {A B : List Lot} : (bothL n A B).length ≤ A.length + B.length := by
  have := nodup_len (bothL n A B) (A ++ B.map (mv n)) (Srt.nodup (sortI_pw _)) fun x hx => by rw [bothL, sortI_mem] at hx; exact hx
  simpa using this
theorem F5.len2 {n : Nat} {ls : List Lot} (h : F5 n ls) : ls.length ≤ 2 ^ n := by
  have := nodup_len ls (allLots n) h.srt.nodup fun x hx => (mem_allLots h.n5).mpr (h.ok x hx)
  rwa [allLots_len] at this
theorem F5.sub {n m : Nat} {ls : List Lot} (h : F5 n ls) (hm : n ≤ m) (m5 : m ≤ 5) : ls.Sublist (TL.L m) := by
  have e : ls = (TL.L m).filter fun l => decide (l ∈ ls) := by
    refine pw_eq h.srt ((srt_L m).filter _) fun x => ?_
    rw [List.mem_filter, mem_L m5, decide_eq_true_iff]
    exact ⟨fun hx => ⟨okLot_le hm (h.ok x hx), hx⟩, fun hx => hx.2⟩
  rw [e]
  exact List.filter_sublist
theorem L_cx {n : Nat} (h1 : 1 ≤ n) (h5 : n ≤ 5) : Cx n (L n) := by
  refine ⟨F5.L h1 h5, ?_, isLow_iff.mpr fun l hl i hi => ?_⟩
  · have : [] ∈ L n := (mem_L h5).mpr (by rw [okLot_iff]; simp)
    exact List.ne_nil_of_mem this
  · rw [mem_L h5] at hl ⊢
    exact wo_ok hl
theorem g_L {n : Nat} (h1 : 1 ≤ n) (h5 : n ≤ 5) : g (L n) ≠ 0 := by
  have hW : okLot n (upto n) = true := by
    rw [okLot_iff]
    refine ⟨fun i hi => by have := mem_upto.mp hi; omega, ?_⟩
    unfold upto
    rw [List.pairwise_map]
    exact List.pairwise_lt_range.imp fun {a b} q => by omega
  refine g_whole (W := upto n) ((mem_L h5).mpr hW) (fun e => by have := congrArg List.length e; simp at this; omega) (fun f hf => ?_) (fun l hl h => ?_)
  · rw [mem_L h5, okLot_iff] at hf
    rw [ins_iff]
    exact fun i hi => mem_upto.mpr (hf.1 i hi)
  · rw [mem_L h5] at hl
    have hl2 := okLot_iff.mp hl
    have hW2 := okLot_iff.mp hW
    -- two ascending lots of the same points
    have srt : ∀ (a b : List Int), a.Pairwise (· < ·) → b.Pairwise (· < ·) → (∀ x, x ∈ a ↔ x ∈ b) → a = b := by
      intro a
      induction a with
      | nil => intro b _ _ h; cases b with
        | nil => rfl
        | cons y b => exact absurd ((h y).mpr (List.mem_cons_self ..)) (by simp)
      | cons x a ih => intro b pa pb h; cases b with
        | nil => exact absurd ((h x).mp (List.mem_cons_self ..)) (by simp)
        | cons y b =>
          rw [List.pairwise_cons] at pa pb
          have e : x = y := by
            rcases List.mem_cons.mp ((h x).mp (List.mem_cons_self ..)) with e | e
            · exact e
            · rcases List.mem_cons.mp ((h y).mpr (List.mem_cons_self ..)) with e' | e'
              · exact e'.symm
              · have := pb.1 x e; have := pa.1 y e'; omega
          subst e
          congr 1
          refine ih b pa.2 pb.2 fun z => ?_
          constructor
          · intro hz
            rcases List.mem_cons.mp ((h z).mp (List.mem_cons_of_mem _ hz)) with e | e
            · subst e; have := pa.1 z hz; omega
            · exact e
          · intro hz
            rcases List.mem_cons.mp ((h z).mpr (List.mem_cons_of_mem _ hz)) with e | e
            · subst e; have := pb.1 z hz; omega
            · exact e
    exact srt l (upto n) hl2.2 hW2.2 fun x => ⟨fun hx => mem_upto.mpr (hl2.1 x hx), fun hx => ins_iff.mp h x hx⟩
end TL
end
section
set_option maxRecDepth 100000
namespace TL
open PySem PySem.Spec PyProof.Rows L2 TL.Bite
theorem Mv_app : ∀ (i : Int) (xs ys : List Int) (f t : List Int), Mv i (xs ++ ys) f t ↔ ∃ t1 t2, t = t1 ++ t2 ∧ Mv i xs f t1 ∧ Mv (i + xs.length) ys f t2
  | i, [], ys, f, t => by
    simp only [List.nil_append, Mv, List.length_nil, Int.ofNat_zero, Int.add_zero]
    constructor
    · intro h; exact ⟨[], t, rfl, rfl, h⟩
    · rintro ⟨t1, t2, rfl, rfl, h⟩; exact h
  | i, x :: xs, ys, f, t => by
    have ih := Mv_app (i + 1) xs ys f
    have e : i + 1 + (xs.length : Int) = i + ((x :: xs).length : Int) := by simp only [List.length_cons]; omega
    rw [e] at ih
    simp only [List.cons_append, Mv]
    constructor
    · rintro ⟨z, t', rfl, hz, h⟩
      obtain ⟨t1, t2, rfl, h1, h2⟩ := (ih t').mp h
      exact ⟨z :: t1, t2, rfl, ⟨z, t1, rfl, hz, h1⟩, h2⟩
    · rintro ⟨t1, t2, rfl, ⟨z, t', rfl, hz, h1⟩, h2⟩
      exact ⟨z, t' ++ t2, rfl, hz, (ih _).mpr ⟨t', t2, rfl, h1, h2⟩⟩
theorem Mv_none : ∀ (i : Int) (hs : List Int) (f t : List Int), (∀ j ∈ f, j < i ∨ i + hs.length ≤ j) → (Mv i hs f t ↔ t = hs)
  | i, [], f, t, _ => by simp only [Mv]
  | i, h :: hs, f, t, hf => by
    have q : ¬ i ∈ f := fun q => by have := hf i q; simp only [List.length_cons] at this; omega
    have ih := Mv_none (i + 1) hs f
    simp only [Mv, if_neg q]
    constructor
    · rintro ⟨x, t', rfl, rfl, h1⟩
      rw [(ih t' fun j hj => by have := hf j hj; simp only [List.length_cons] at this; by_cases z : j = i
                                · subst z; exact absurd hj q
                                · omega).mp h1]
    · rintro rfl
      exact ⟨h, hs, rfl, rfl, (ih hs fun j hj => by have := hf j hj; simp only [List.length_cons] at this; by_cases z : j = i
                                                    · subst z; exact absurd hj q
                                                    · omega).mpr rfl⟩
theorem Mv_mv (n : Nat) : ∀ (i : Int) (hs : List Int) (f t : List Int), Mv (i + n) hs (mv n f) t ↔ Mv i hs f t
  | i, [], f, t => by simp only [Mv]
  | i, h :: hs, f, t => by
    have q : (i + n ∈ mv n f) ↔ i ∈ f := by rw [mem_mv]; simp
    have e : i + n + 1 = i + 1 + n := by omega
    simp only [Mv, e]
    refine exists_congr fun x => exists_congr fun t' => and_congr Iff.rfl (and_congr ?_ (Mv_mv n (i + 1) hs f t'))
    by_cases z : i ∈ f
    · rw [if_pos z, if_pos (q.mpr z)]
    · rw [if_neg z, if_neg fun y => z (q.mp y)]
theorem mem_both {n m : Nat} {A B : List Lot} (hA : Cx n A) (hB : Cx m B) {one other t : List Int} (h1 : one.length = n) : t ∈ moves (bothL n A B) (one ++ other) ↔ (∃ t1 ∈ moves A one, t = t1 ++ other) ∨ ∃ t2 ∈ moves B other, t = one ++ t2 := by
  rw [mem_moves]
  have inA : ∀ f ∈ fc A, ∀ t, Mv 0 (one ++ other) f t ↔ ∃ t1, t = t1 ++ other ∧ Mv 0 one f t1 := fun f hf t => by
    rw [Mv_app]
    have hn : ∀ t2, Mv (0 + one.length) other f t2 ↔ t2 = other := fun t2 => Mv_none _ _ _ _ fun j hj => by
      have := (okLot_iff.mp (hA.toF5.ok f (mem_fc.mp hf).1)).1 j hj
      omega
    constructor
    · rintro ⟨t1, t2, rfl, h2, h3⟩
      rw [hn] at h3
      subst h3
      exact ⟨t1, rfl, h2⟩
    · rintro ⟨t1, rfl, h2⟩
      exact ⟨t1, other, rfl, h2, (hn _).mpr rfl⟩
  have inB : ∀ k ∈ fc B, ∀ t, Mv 0 (one ++ other) (mv n k) t ↔ ∃ t2, t = one ++ t2 ∧ Mv 0 other k t2 := fun k hk t => by
    rw [Mv_app]
    have hn : ∀ t1, Mv 0 one (mv n k) t1 ↔ t1 = one := fun t1 => Mv_none _ _ _ _ fun j hj => by
      have := (okLot_iff.mp (hB.toF5.ok k (mem_fc.mp hk).1)).1 _ (mem_mv.mp hj)
      omega
    have hs : ∀ t2, Mv (0 + one.length) other (mv n k) t2 ↔ Mv 0 other k t2 := fun t2 => by
      rw [h1]; exact Mv_mv n 0 other k t2
    constructor
    · rintro ⟨t1, t2, rfl, h2, h3⟩
      rw [hn] at h2
      subst h2
      exact ⟨t2, rfl, (hs t2).mp h3⟩
    · rintro ⟨t2, rfl, h2⟩
      exact ⟨one, t2, rfl, (hn _).mpr rfl, (hs t2).mpr h2⟩
  constructor
  · rintro ⟨f, hf, h⟩
    obtain ⟨hf1, hf0⟩ := mem_fc.mp hf
    rcases mem_bothL.mp hf1 with q | ⟨k, hk, rfl⟩
    · have hf' := mem_fc.mpr ⟨q, hf0⟩
      obtain ⟨t1, rfl, h2⟩ := (inA f hf' t).mp h
      exact .inl ⟨t1, mem_moves.mpr ⟨f, hf', h2⟩, rfl⟩
    · have hk' := mem_fc.mpr ⟨hk, fun e => hf0 (by rw [e]; rfl)⟩
      obtain ⟨t2, rfl, h2⟩ := (inB k hk' t).mp h
      exact .inr ⟨t2, mem_moves.mpr ⟨k, hk', h2⟩, rfl⟩
  · rintro (⟨t1, h, rfl⟩ | ⟨t2, h, rfl⟩)
    · obtain ⟨f, hf, h2⟩ := mem_moves.mp h
      obtain ⟨hf1, hf0⟩ := mem_fc.mp hf
      exact ⟨f, mem_fc.mpr ⟨mem_bothL.mpr (.inl hf1), hf0⟩, (inA f hf _).mpr ⟨t1, rfl, h2⟩⟩
    · obtain ⟨k, hk, h2⟩ := mem_moves.mp h
      obtain ⟨hk1, hk0⟩ := mem_fc.mp hk
      exact ⟨mv n k, mem_fc.mpr ⟨mem_bothL.mpr (.inr ⟨k, hk1, rfl⟩), fun e => hk0 (List.map_eq_nil_iff.mp e)⟩, (inB k hk _).mpr ⟨t2, rfl, h2⟩⟩
theorem Hs_app {n m : Nat} {one other : List Int} (h1 : Hs n one) (h2 : Hs m other) : Hs (n + m) (one ++ other) :=
  ⟨by rw [List.length_append, h1.len, h2.len], fun h hh => by
    rcases List.mem_append.mp hh with q | q
    · exact h1.pos h q
    · exact h2.pos h q⟩
theorem hn_both {n m : Nat} {A B : List Lot} (hA : Cx n A) (hB : Cx m B) (h5 : n + m ≤ 5) : ∀ (k : Nat) (one other : List Int), tot one + tot other ≤ k → Hs n one → Hs m other → hn (bothL n A B) (one ++ other) = hn A one ^^^ hn B other
  | 0, one, other, hk, h1, h2 => by
    have e1 := hn_eq (both_cx hA hB h5).toF5.ok (Hs_app h1 h2)
    have e2 := hn_eq hA.toF5.ok h1
    have e3 := hn_eq hB.toF5.ok h2
    have z1 : moves A one = [] := List.eq_nil_iff_forall_not_mem.mpr fun t ht => by have := (moves_spec hA.toF5.ok h1 ht).2; omega
    have z2 : moves B other = [] := List.eq_nil_iff_forall_not_mem.mpr fun t ht => by have := (moves_spec hB.toF5.ok h2 ht).2; omega
    have z3 : moves (bothL n A B) (one ++ other) = [] := List.eq_nil_iff_forall_not_mem.mpr fun t ht => by
      rw [mem_both hA hB h1.len, z1, z2] at ht
      rcases ht with ⟨_, h, _⟩ | ⟨_, h, _⟩ <;> simp at h
    rw [e1, e2, e3, z1, z2, z3]
    simp only [List.map_nil]
    decide
  | k + 1, one, other, hk, h1, h2 => by
    have e1 := hn_eq (both_cx hA hB h5).toF5.ok (Hs_app h1 h2)
    have e2 := hn_eq hA.toF5.ok h1
    have e3 := hn_eq hB.toF5.ok h2
    have mx := mex_xor (xs := (moves A one).map fun t => hn A t) (ys := (moves B other).map fun t => hn B t)
    rw [← e2, ← e3] at mx
    rw [e1, ← mx]
    refine mex_congr fun v => ?_
    simp only [List.mem_map, List.mem_append]
    constructor
    · rintro ⟨t, ht, rfl⟩
      rcases (mem_both hA hB h1.len).mp ht with ⟨t1, q, rfl⟩ | ⟨t2, q, rfl⟩
      · obtain ⟨a, b⟩ := moves_spec hA.toF5.ok h1 q
        exact .inl ⟨hn A t1, ⟨t1, q, rfl⟩, (hn_both hA hB h5 k t1 other (by omega) a h2).symm⟩
      · obtain ⟨a, b⟩ := moves_spec hB.toF5.ok h2 q
        exact .inr ⟨hn B t2, ⟨t2, q, rfl⟩, (hn_both hA hB h5 k one t2 (by omega) h1 a).symm⟩
    · rintro (⟨_, ⟨t1, q, rfl⟩, rfl⟩ | ⟨_, ⟨t2, q, rfl⟩, rfl⟩)
      · obtain ⟨a, b⟩ := moves_spec hA.toF5.ok h1 q
        exact ⟨t1 ++ other, (mem_both hA hB h1.len).mpr (.inl ⟨t1, q, rfl⟩), hn_both hA hB h5 k t1 other (by omega) a h2⟩
      · obtain ⟨a, b⟩ := moves_spec hB.toF5.ok h2 q
        exact ⟨one ++ t2, (mem_both hA hB h1.len).mpr (.inr ⟨t2, q, rfl⟩), hn_both hA hB h5 k one t2 (by omega) h1 a⟩
theorem hn_le {n : Nat} {ls : List Lot} (hl : ∀ l ∈ ls, okLot n l = true) : ∀ (k : Nat) (hs : List Int), tot hs ≤ k → Hs n hs → hn ls hs ≤ tot hs := by
  intro k
  induction k with
  | zero =>
    intro hs hk h
    have e := hn_eq hl h
    have z : moves ls hs = [] := List.eq_nil_iff_forall_not_mem.mpr fun t ht => by have := (moves_spec hl h ht).2; omega
    rw [e, z]
    have : mex ([].map fun t => hn ls t) = 0 := by simp only [List.map_nil]; decide
    omega
  | succ k ih =>
    intro hs hk h
    refine Classical.byContradiction fun q => ?_
    have e := hn_eq hl h
    have ms := (mex_spec ((moves ls hs).map fun t => hn ls t)).2 (tot hs) (by omega)
    rw [List.mem_map] at ms
    obtain ⟨t, ht, e2⟩ := ms
    obtain ⟨a, b⟩ := moves_spec hl h ht
    have := ih t (by omega) a
    omega
/-! ### rows below -/
def box : List Int → List Lot
  | [] => [[]]
  | h :: hs => (upto (h.toNat + 1)).flatMap fun x => (box hs).map fun t => x :: t
theorem flat_len {α β : Type} (c : Nat) (f : α → List β) : ∀ xs : List α, (∀ x ∈ xs, (f x).length ≤ c) → (xs.flatMap f).length ≤ xs.length * c
  | [], _ => by simp
  | x :: xs, h => by
    have h1 := h x (List.mem_cons_self ..)
    have ih := flat_len c f xs fun y hy => h y (List.mem_cons_of_mem _ hy)
    simp only [List.flatMap_cons, List.length_append, List.length_cons, Nat.add_mul, Nat.one_mul]
    omega
theorem box_len : ∀ hs : List Int, (∀ h ∈ hs, h ≤ (2 : Int)) → (box hs).length ≤ 3 ^ hs.length
  | [], _ => by simp [box]
  | h :: hs, hh => by
    have ih := box_len hs fun y hy => hh y (List.mem_cons_of_mem _ hy)
    have h0 := hh h (List.mem_cons_self ..)
    have := flat_len (3 ^ hs.length) (fun x => (box hs).map fun t => x :: t) (upto (h.toNat + 1)) fun x _ => by rw [List.length_map]; exact ih
    rw [upto_len] at this
    have h2 : (h.toNat + 1) * 3 ^ hs.length ≤ 3 * 3 ^ hs.length := Nat.mul_le_mul_right _ (by omega)
    rw [box, List.length_cons, Nat.pow_succ]
    omega
theorem box_self : ∀ hs : List Int, (∀ h ∈ hs, (0 : Int) ≤ h) → hs ∈ box hs
  | [], _ => by simp [box]
  | h :: hs, hh => by
    rw [box, List.mem_flatMap]
    have := hh h (List.mem_cons_self ..)
    exact ⟨h, mem_upto.mpr (by omega), List.mem_map.mpr ⟨hs, box_self hs fun y hy => hh y (List.mem_cons_of_mem _ hy), rfl⟩⟩
theorem box_mv : ∀ (i : Int) (hs gs f t : List Int), (∀ h ∈ hs, (0 : Int) ≤ h) → hs ∈ box gs → Mv i hs f t → t ∈ box gs
  | i, [], gs, f, t, _, h, hm => by simp only [Mv] at hm; subst hm; exact h
  | i, h :: hs, [], f, t, _, hb, hm => by simp [box] at hb
  | i, h :: hs, g :: gs, f, t, hp, hb, hm => by
    simp only [Mv] at hm
    obtain ⟨x, t', rfl, hx, ht⟩ := hm
    rw [box, List.mem_flatMap] at hb ⊢
    obtain ⟨y, hy, hb⟩ := hb
    rw [List.mem_map] at hb
    obtain ⟨t2, h2, e⟩ := hb
    cases e
    have h0 := hp h (List.mem_cons_self ..)
    have := mem_upto.mp hy
    have hx0 : 0 ≤ x ∧ x ≤ h := by
      split at hx
      · omega
      · omega
    exact ⟨x, mem_upto.mpr (by omega), List.mem_map.mpr ⟨t', box_mv (i + 1) hs gs f t' (fun y hy => hp y (List.mem_cons_of_mem _ hy)) h2 ht, rfl⟩⟩
end TL
end
section
set_option maxRecDepth 100000
namespace TL
open PySem PySem.Spec PyProof.Rows L2 TL.Bite
/-- heaps of at most two, of at most five points -/
structure Hp (n : Nat) (hs : List Int) : Prop extends Hs n hs where
  n5 : n ≤ 5
  le : ∀ h ∈ hs, h ≤ (2 : Int)
theorem Hp.len5 {n : Nat} {hs : List Int} (h : Hp n hs) : hs.length ≤ 16000000 := by have := h.toHs.len; have := h.n5; omega
theorem g_is_tuple {k : Lot} {a b : Int} : gPure [.ro, .ro, .ro] m_is_tuple [lotD k, .int a, .int b] = some (.bl (decide (a ≤ (k.length : Int)) && decide ((k.length : Int) ≤ b))) :=
  gPure_of (ds' := [lotD k, .int a, .int b]) (by simp [m_is_tuple, b_is_tuple])
theorem pow3 {k : Nat} (h : k ≤ 5) : 3 ^ k ≤ 243 := Nat.pow_le_pow_right (n := 3) (by omega) h
theorem g_positions_below {n : Nat} {hs : List Int} (h : Hp n hs) : ∃ v : Int, gPure [.ro] m_positions_below [lotD hs] = some (.int v) ∧ v ≤ 243 := by
  suffices hsf : ∃ v : Int, m_positions_below [lotD hs] = some (.int v, [lotD hs]) ∧ v ≤ 243 by
    obtain ⟨v, e, hv⟩ := hsf
    exact ⟨v, gPure_of e, hv⟩
  have hl := h.len5
  simp [m_positions_below, b_positions_below, hl]
  have es : seqOf (lotD hs) = some (hs.map D.int) := rfl
  generalize hc : runFor _ _ _ _ = r
  obtain ⟨e', rfl, v, x, rfl, v0, v1⟩ := runFor_ofP hc (fun pre e => ∃ (v : Int) (x : D), e = [lotD hs, .int v, x] ∧ 0 ≤ v ∧ v ≤ ((3 ^ pre.length : Nat) : Int)) ⟨1, .undef, rfl, by omega, by simp⟩ (by
    rintro pre x q hq _ ⟨v, y, rfl, v0, v1⟩
    have hx : x ∈ hs := by rw [hq]; simp
    have pl : pre.length ≤ 5 := by have := congrArg List.length hq; simp at this; have := h.toHs.len; have := h.n5; omega
    have p3 := pow3 pl
    have x0 := h.toHs.pos x hx
    have x2 := h.le x hx
    have s1 : small64 (x + 1) = true := small_of (by omega) (by omega)
    refine ⟨[lotD hs, .int v, .int x], [lotD hs, .int (v * (x + 1)), .int x], by simp [bindN], by simp [s1], _, _, rfl, Int.mul_nonneg v0 (by omega), ?_⟩
    have e1 : v * (x + 1) ≤ v * 3 := Int.mul_le_mul_of_nonneg_left (by omega) v0
    simp only [List.length_append, List.length_cons, List.length_nil, Nat.pow_succ]
    omega)
  have p3 := pow3 (show hs.length ≤ 5 by have := h.toHs.len; have := h.n5; omega)
  exact ⟨v, by simp, by omega⟩
theorem g_are_heaps {n : Nat} {hs : List Int} (h : Hp n hs) : gPure [.ro, .ro] m_are_heaps [.int n, lotD hs] = some (.bl true) := by
  refine gPure_of (ds' := [.int n, lotD hs]) ?_
  obtain ⟨v, e, hv⟩ := g_positions_below h
  have hl := h.len5
  have hn := h.toHs.len
  have v4 : v ≤ 400 := by omega
  have ha : (hs.all fun x => decide (0 ≤ x) && decide (x ≤ 4)) = true := by
    rw [List.all_eq_true]
    intro x hx
    have := h.toHs.pos x hx
    have := h.le x hx
    simp
    omega
  have nl : lim n = true := lim_of (by omega)
  simp [m_are_heaps, b_are_heaps, g_is_tuple, hn, hl, e, v4, ha, nl]
theorem g_check_heaps {n : Nat} {ls : List Lot} (hc : Cx n ls) {hs : List Int} (h : Hp n hs) : gPure [.ro, .ro] m_check_heaps [fam n ls, lotD hs] = some .non := by
  refine gPure_of (ds' := [fam n ls, lotD hs]) ?_
  simp [m_check_heaps, b_check_heaps, g_check_complex hc, g_are_heaps h]
/-! ### what a move leads to -/
theorem enumD_ints : ∀ (i : Int) (hs : List Int), enumD i (hs.map D.int) = (enumL i hs).map fun p => .tup [.int p.1, .int p.2]
  | i, [] => rfl
  | i, h :: hs => by simp only [List.map_cons, enumD, enumL, enumD_ints (i + 1) hs]
theorem enumL_len : ∀ (i : Int) (hs : List Int), (enumL i hs).length = hs.length
  | i, [] => rfl
  | i, h :: hs => by simp only [enumL, List.length_cons, enumL_len (i + 1) hs]
theorem enumL_mem : ∀ (i : Int) (hs : List Int) (p : Int × Int), p ∈ enumL i hs → p.2 ∈ hs
  | i, [], p, h => by simp [enumL] at h
  | i, h :: hs, p, hp => by
    rcases List.mem_cons.mp hp with rfl | hp
    · exact List.mem_cons_self ..
    · exact List.mem_cons_of_mem _ (enumL_mem (i + 1) hs p hp)
@[simp] theorem enD_lot (k : Lot) : enD (lotD k) = some ((enumL 0 k).map fun p => .tup [.int p.1, .int p.2]) := by
  unfold enD
  simp [enumD_ints]
theorem add_row (row : Lot) (x : Int) (h : row.length ≤ 1000) : dAdd (lotD row) (.tup [.int x]) = some (lotD (row ++ [x])) := by
  have : lim (row.length + 1) = true := lim_of (by omega)
  have e : lotD (row ++ [x]) = .tup (row.map D.int ++ [.int x]) := by simp [lotD]
  rw [e]
  unfold lotD dAdd
  simp [this]
theorem grow_len {some : List Int} {found : List Lot} (h : some.length ≤ 2) : (grow some found).length ≤ found.length * 2 := by
  unfold grow
  exact flat_len 2 _ found fun x _ => by rw [List.length_map]; exact h
theorem grow_app (some : List Int) (a b : List Lot) : grow some (a ++ b) = grow some a ++ grow some b := by simp [grow]
theorem choice_len {i h : Int} {f : Lot} (h2 : h ≤ 2) : (choice i h f).length ≤ 2 := by
  unfold choice
  split
  · rw [upto_len]; omega
  · simp
theorem g_lessened {n : Nat} {hs : List Int} (h : Hp n hs) (f : Lot) : gPure [.ro, .ro] m_lessened [lotD hs, lotD f] = some (.lst true ((lessF 0 hs f [[]]).map lotD)) := by
  suffices hsf : m_lessened [lotD hs, lotD f] = some (.lst true ((lessF 0 hs f [[]]).map lotD), [lotD hs, lotD f]) by exact gPure_of hsf
  have hl := h.len5
  have h5 : hs.length ≤ 5 := by have := h.toHs.len; have := h.n5; omega
  have el : (enumL 0 hs).length ≤ 16000000 := by rw [enumL_len]; omega
  simp [m_lessened, b_lessened, hl, el]
  generalize hc : runFor _ _ _ _ = r
  obtain ⟨e', rfl, x3, x4, x5, x7, rfl, -⟩ := runFor_ofP hc (fun pre e => ∃ x3 x4 x5 x7, e = [lotD hs, lotD f, .lst true ((pre.foldl (fun found p => grow (choice p.1 p.2 f) found) [[]]).map lotD), x3, x4, x5, .undef, x7, .undef] ∧ (pre.foldl (fun found p => grow (choice p.1 p.2 f) found) [[]]).length ≤ 2 ^ pre.length ∧ ∀ r ∈ pre.foldl (fun found p => grow (choice p.1 p.2 f) found) [[]], r.length ≤ pre.length) ⟨.undef, .undef, .undef, .undef, rfl, by simp, by simp⟩ (by
    rintro pre p q hq _ ⟨x3, x4, x5, x7, rfl, hl1, hl2⟩
    have hp : p.2 ∈ hs := enumL_mem 0 hs p (by rw [hq]; simp)
    have pl : pre.length < 5 := by have := congrArg List.length hq; rw [enumL_len] at this; simp at this; omega
    have pw2 := Nat.pow_le_pow_right (n := 2) (by omega) (show pre.length ≤ 4 by omega)
    have h0 := h.toHs.pos p.2 hp
    have h2 := h.le p.2 hp
    have cl := choice_len (i := p.1) (f := f) h2
    have cl2 : (choice p.1 p.2 f).length ≤ 16000000 := by omega
    rw [List.foldl_append]
    simp only [List.foldl_cons, List.foldl_nil]
    generalize hF : pre.foldl (fun found p => grow (choice p.1 p.2 f) found) [[]] = F at hl1 hl2
    have Fl : F.length ≤ 16000000 := by omega
    refine ⟨[lotD hs, lotD f, .lst true (F.map lotD), .int p.1, .int p.2, x5, .undef, x7, .undef], ?_⟩
    -- what its heap comes to
    have hC : (sAsg (mP (pIf (fT (p2 dIn (bVar 3) (bVar 1))) (p1 (rgD1 false) (pI (bVar 4))) (pLst (lCons (pI (bVar 4)) lNil)))) (gNm 5)) [lotD hs, lotD f, .lst true (F.map lotD), .int p.1, .int p.2, x5, .undef, x7, .undef] = some (.nx, [lotD hs, lotD f, .lst true (F.map lotD), .int p.1, .int p.2, .lst true ((choice p.1 p.2 f).map .int), .undef, x7, .undef]) := by
      have r1 : rngOk p.2 = true := rngOk_of (by omega) (by omega)
      unfold choice
      by_cases z : p.1 ∈ f
      · have z2 : f.contains p.1 = true := by simpa using z
        simp [z, r1]
      · have z2 : f.contains p.1 = false := by simpa using z
        simp [z]
    generalize hD : choice p.1 p.2 f = C at cl cl2 hC ⊢
    refine ⟨[lotD hs, lotD f, .lst true ((grow C F).map lotD), .int p.1, .int p.2, .lst true (C.map .int), .undef, (F.getLast?.map lotD).getD x7, .undef], by simp [bindN], ?_, _, _, _, _, rfl, ?_, ?_⟩
    · rw [e_sSeq, hC]
      simp [frz, frzL_lots, Fl]
      generalize hc2 : runFor _ _ _ _ = r2
      obtain ⟨e', rfl, x7', rfl, hx7⟩ := runFor_ofP hc2 (fun pre e => ∃ x7', e = [lotD hs, lotD f, .lst false (F.map lotD), .int p.1, .int p.2, .lst true (C.map .int), .lst true ((grow C pre).map lotD), x7', .undef] ∧ x7' = (pre.getLast?.map lotD).getD x7) ⟨x7, rfl, rfl⟩ (by
        rintro pre2 row q2 hq2 _ ⟨x7', rfl, -⟩
        have hrow : row ∈ F := by rw [hq2]; simp
        have rl := hl2 row hrow
        have pl2 : pre2.length ≤ F.length := by rw [hq2]; simp
        have gl := grow_len (found := pre2) cl
        have gl2 : lim ((grow C pre2).length + C.length) = true := lim_of (by omega)
        refine ⟨[lotD hs, lotD f, .lst false (F.map lotD), .int p.1, .int p.2, .lst true (C.map .int), .lst true ((grow C pre2).map lotD), lotD row, .undef], [lotD hs, lotD f, .lst false (F.map lotD), .int p.1, .int p.2, .lst true (C.map .int), .lst true ((grow C (pre2 ++ [row])).map lotD), lotD row, .undef], by simp [bindN], ?_, lotD row, rfl, by simp⟩
        simp [cl2]
        rw [fmO_eq (fun _ => true) (fun x => lotD (row ++ [x]))]
        · have im : immL (C.map fun x => lotD (row ++ [x])) = true := immL_map (fun o => imm_lot _) C
          simp [im, gl2, grow_app]
          simp [grow]
        · intro x hx
          simp [add_row row x (by omega)])
      simp [hx7]
    · have := grow_len (found := F) cl
      simp only [List.length_append, List.length_cons, List.length_nil, Nat.pow_succ]
      omega
    · intro r hr
      unfold grow at hr
      rw [List.mem_flatMap] at hr
      obtain ⟨row, h1, h3⟩ := hr
      rw [List.mem_map] at h3
      obtain ⟨x, _, rfl⟩ := h3
      have := hl2 row h1
      simp
      omega)
  simp [lessF]
end TL
end
section
set_option maxRecDepth 100000
namespace TL
open PySem PySem.Spec PyProof.Rows L2 TL.Bite
/-! ### a dict from lots -/
def KR (v : Lot → D) (ks : List Lot) (d : D) : Prop := ∃ t, d = .dct true t (ks.map lotD) (ks.map v) ∧ (t = false → ks = []) ∧ ks.Nodup
def KRput (ks : List Lot) (k : Lot) : List Lot := if k ∈ ks then ks else ks ++ [k]
theorem mem_KRput {ks : List Lot} {k x : Lot} : x ∈ KRput ks k ↔ x ∈ ks ∨ x = k := by
  unfold KRput
  by_cases q : k ∈ ks
  · rw [if_pos q]
    exact ⟨.inl, fun h => h.elim id fun e => e ▸ q⟩
  · rw [if_neg q]; simp
theorem KR.empty (v : Lot → D) : KR v [] (.dct true false [] []) := ⟨false, rfl, fun _ => rfl, .nil⟩
theorem KR.put {v : Lot → D} {ks : List Lot} {d : D} (h : KR v ks d) (kl : ks.length + 1 ≤ 16000000) (k : Lot) : ∃ d', dPut d (lotD k) (v k) = some d' ∧ KR v (KRput ks k) d' ∧ dIx d' (lotD k) = some (v k) := by
  obtain ⟨t, rfl, h1, h2⟩ := h
  have kl' : lim (ks.length + 1) = true := lim_of (by omega)
  cases t with
  | false =>
    have e := h1 rfl
    subst e
    refine ⟨.dct true true [lotD k] [v k], ?_, ⟨true, rfl, fun q => (nomatch q), by simp [KRput]⟩, ?_⟩
    · simp [dPut, isKeyD_lot, keyT_lot]
    · simp [dIx, keyT_lot, findD]
  | true =>
    by_cases q : k ∈ ks
    · have pv : putV (lotD k) (v k) (ks.map lotD) (ks.map v) = ks.map v := by
        clear kl kl' h1 h2
        induction ks with
        | nil => simp at q
        | cons x ks ih =>
          by_cases z : x = k
          · subst z; simp [putV, eqD_lot]
          · simp [putV, z, ih ((List.mem_cons.mp q).resolve_left fun e => z e.symm)]
      have hs : hasD (lotD k) (ks.map lotD) = true := by rw [hasD_map eqD_lot]; simpa using q
      refine ⟨.dct true true (ks.map lotD) (ks.map v), ?_, ⟨true, by rw [KRput, if_pos q], fun q => (nomatch q), by rw [KRput, if_pos q]; exact h2⟩, ?_⟩
      · have : dPut (.dct true true (ks.map lotD) (ks.map v)) (lotD k) (v k) = if (keyT (lotD k) && lim ((ks.map lotD).length + 1)) = true then some (.dct true true (putK' (lotD k) (ks.map lotD)) (putV (lotD k) (v k) (ks.map lotD) (ks.map v))) else none := rfl
        rw [this, pv, putK', hs, List.length_map, kl', keyT_lot]; rfl
      · have : dIx (.dct true true (ks.map lotD) (ks.map v)) (lotD k) = if keyT (lotD k) = true then findD (lotD k) (ks.map lotD) (ks.map v) else none := rfl
        rw [this, keyT_lot, findD_map eqD_lot k ks q]; rfl
    · have hs : hasD (lotD k) (ks.map lotD) = false := by rw [hasD_map eqD_lot]; simpa using q
      have pv := putV_new (v := v) eqD_lot k (v k) ks q
      refine ⟨.dct true true ((ks ++ [k]).map lotD) ((ks ++ [k]).map v), ?_, ⟨true, by rw [KRput, if_neg q], fun q => (nomatch q), ?_⟩, ?_⟩
      · have : dPut (.dct true true (ks.map lotD) (ks.map v)) (lotD k) (v k) = if (keyT (lotD k) && lim ((ks.map lotD).length + 1)) = true then some (.dct true true (putK' (lotD k) (ks.map lotD)) (putV (lotD k) (v k) (ks.map lotD) (ks.map v))) else none := rfl
        rw [this, pv, putK', hs, List.length_map, kl', keyT_lot]; simp
      · rw [KRput, if_neg q, List.nodup_append]
        exact ⟨h2, by simp, fun a ha b hb e => by rw [List.mem_singleton] at hb; subst hb; subst e; exact q ha⟩
      · have : dIx (.dct true true ((ks ++ [k]).map lotD) ((ks ++ [k]).map v)) (lotD k) = if keyT (lotD k) = true then findD (lotD k) ((ks ++ [k]).map lotD) ((ks ++ [k]).map v) else none := rfl
        rw [this, keyT_lot, findD_map eqD_lot k _ (by simp)]; rfl
theorem KR.asked {v : Lot → D} {ks : List Lot} {d : D} (h : KR v ks d) (k : Lot) : (k ∈ ks ∧ dNotIn (lotD k) d = some (.bl false) ∧ dIx d (lotD k) = some (v k)) ∨ (k ∉ ks ∧ dNotIn (lotD k) d = some (.bl true)) := by
  obtain ⟨t, rfl, h1, h2⟩ := h
  cases t with
  | false =>
    have e := h1 rfl
    subst e
    exact .inr ⟨by simp, by simp [dNotIn, dInDict, isKeyD_lot, keyT_lot]⟩
  | true =>
    have e1 : dNotIn (lotD k) (.dct true true (ks.map lotD) (ks.map v)) = some (.bl (!decide (k ∈ ks))) := by
      simp only [dNotIn, dInDict, keyT_lot, if_true, hasD_map eqD_lot]
      by_cases q : k ∈ ks <;> simp [q]
    by_cases q : k ∈ ks
    · refine .inl ⟨q, by rw [e1]; simp [q], ?_⟩
      have : dIx (.dct true true (ks.map lotD) (ks.map v)) (lotD k) = if keyT (lotD k) = true then findD (lotD k) (ks.map lotD) (ks.map v) else none := rfl
      rw [this, keyT_lot, findD_map eqD_lot k ks q]; rfl
    · exact .inr ⟨q, by rw [e1]; simp [q]⟩
theorem KR.nd {v : Lot → D} {ks : List Lot} {d : D} (h : KR v ks d) : ks.Nodup := by
  obtain ⟨t, _, _, h2⟩ := h; exact h2
theorem KR.slot {v : Lot → D} {ks : List Lot} {d : D} (h : KR v ks d) (e : List D) : slot (d :: e) 0 = some d := by
  obtain ⟨t, rfl, _⟩ := h; rfl
theorem KR.imm {v : Lot → D} {ks : List Lot} {d : D} (h : KR v ks d) : imm d = false := by
  obtain ⟨t, rfl, _⟩ := h; rfl
theorem KR.sorted {v : Lot → D} {ks : List Lot} {d : D} (h : KR v ks d) : dSorted2 d = some (.lst true ((sortI ks).map lotD)) := by
  obtain ⟨t, rfl, h1, h2⟩ := h
  obtain ⟨l1, l2, l3, l4⟩ := lots_ok ks
  have e : (t || (ks.map lotD).isEmpty) = true := by
    cases t with
    | true => rfl
    | false => rw [h1 rfl]; rfl
  simp only [dSorted2, dSortedT, e, l1, l4, alAll, l2, sortable, l3, sortD_lots h2]
  simp
/-- kept answers, of rows of B -/
def KB (B : List Lot) (v : Lot → D) (d : D) : Prop := ∃ ks, KR v ks d ∧ ∀ k ∈ ks, k ∈ B
theorem KB.empty (B : List Lot) (v : Lot → D) : KB B v (.dct true false [] []) := ⟨[], KR.empty v, by simp⟩
theorem KB.slot {B : List Lot} {v : Lot → D} {d : D} (h : KB B v d) (e : List D) : TL.slot (d :: e) 0 = some d := by
  obtain ⟨ks, h, _⟩ := h; exact h.slot e
theorem KB.imm {B : List Lot} {v : Lot → D} {d : D} (h : KB B v d) : TL.imm d = false := by
  obtain ⟨ks, h, _⟩ := h; exact h.imm
theorem KB.asked {B : List Lot} {v : Lot → D} {d : D} (h : KB B v d) (k : Lot) (hk : k ∈ B) (hB : B.length ≤ 1000000) :
    (dNotIn (lotD k) d = some (.bl false) ∧ dIx d (lotD k) = some (v k)) ∨
    (dNotIn (lotD k) d = some (.bl true) ∧ ∀ d1, KB B v d1 → ∃ d', dPut d1 (lotD k) (v k) = some d' ∧ KB B v d' ∧ dIx d' (lotD k) = some (v k)) := by
  obtain ⟨ks, h, _⟩ := h
  rcases h.asked k with ⟨_, h1, h2⟩ | ⟨_, h1⟩
  · exact .inl ⟨h1, h2⟩
  · refine .inr ⟨h1, ?_⟩
    rintro d1 ⟨ks1, h3, h4⟩
    have := nodup_len ks1 B h3.nd h4
    obtain ⟨d', a, b, c⟩ := h3.put (by omega) k
    exact ⟨d', a, ⟨_, b, fun x hx => (mem_KRput.mp hx).elim (h4 x) fun e => e ▸ hk⟩, c⟩
/-! ### the moves -/
theorem less_box {hs : List Int} {f t : Lot} (hp : ∀ h ∈ hs, (0 : Int) ≤ h) (h : t ∈ lessF 0 hs f [[]]) : t ∈ box hs := by
  obtain ⟨q, hq, t', rfl, hm⟩ := (mem_lessF 0 hs f [[]] t).mp h
  rw [List.mem_singleton] at hq
  subst hq
  exact box_mv 0 hs hs f t' hp (box_self hs hp) hm
theorem Hp.box {n : Nat} {hs : List Int} (h : Hp n hs) : (TL.box hs).length ≤ 243 :=
  Nat.le_trans (box_len hs h.le) (pow3 (by have := h.toHs.len; have := h.n5; omega))
theorem less_len (f : Lot) : ∀ (i : Int) (hs : List Int) (found : List Lot), (∀ h ∈ hs, h ≤ (2 : Int)) → (lessF i hs f found).length ≤ found.length * 2 ^ hs.length
  | i, [], found, _ => by simp [lessF, enumL]
  | i, h :: hs, found, hh => by
    have e : lessF i (h :: hs) f found = lessF (i + 1) hs f (grow (choice i h f) found) := rfl
    rw [e]
    have ih := less_len f (i + 1) hs (grow (choice i h f) found) fun y hy => hh y (List.mem_cons_of_mem _ hy)
    have g1 := grow_len (found := found) (choice_len (i := i) (f := f) (hh h (List.mem_cons_self ..)))
    have := Nat.mul_le_mul_right (2 ^ hs.length) g1
    rw [List.length_cons, Nat.pow_succ, Nat.mul_comm (2 ^ hs.length) 2, ← Nat.mul_assoc]
    omega
abbrev vT : Lot → D := fun _ => .bl true
theorem g_moves {n : Nat} {ls : List Lot} (hc : Cx n ls) {hs : List Int} (h : Hp n hs) : gPure [.ro, .ro] m_moves_of [fam n ls, lotD hs] = some (.lst true ((moves ls hs).map lotD)) := by
  suffices hsf : m_moves_of [fam n ls, lotD hs] = some (.lst true ((moves ls hs).map lotD), [fam n ls, lotD hs]) by exact gPure_of hsf
  have hl := hc.len
  have hb := h.box
  simp [m_moves_of, b_moves_of, hl]
  generalize hc : runFor _ _ _ _ = r
  obtain ⟨e', rfl, d, x3, x4, ks, rfl, hk, hm⟩ := runFor_of hc (fun pre e => ∃ d x3 x4 ks, e = [fam n ls, lotD hs, d, x3, x4] ∧ KR vT ks d ∧ ∀ k, k ∈ ks ↔ k ∈ (fc pre).flatMap fun f => lessF 0 hs f [[]]) ⟨_, _, _, [], rfl, KR.empty _, fun k => by simp [fc]⟩ (by
    rintro f hf pre _ ⟨d, x3, x4, ks, rfl, hk, hm⟩
    by_cases z : f = []
    · refine ⟨[fam n ls, lotD hs, d, lotD f, x4], [fam n ls, lotD hs, d, lotD f, x4], by simp [bindN], by simp [z], d, _, _, ks, rfl, hk, fun k => by rw [hm]; simp [fc, z]⟩
    · have z2 : 0 < f.length := List.length_pos_iff.mpr z
      have ll := less_len f 0 hs [[]] h.le
      have p2' := Nat.pow_le_pow_right (n := 2) (by omega) (show hs.length ≤ 5 by have := h.toHs.len; have := h.n5; omega)
      have ll2 : (lessF 0 hs f [[]]).length ≤ 16000000 := by simp only [List.length_cons, List.length_nil] at ll; omega
      have inb : ∀ k ∈ (fc pre).flatMap (fun f => lessF 0 hs f [[]]), k ∈ box hs := fun k hk => by
        obtain ⟨f, _, q⟩ := List.mem_flatMap.mp hk
        exact less_box h.toHs.pos q
      refine ⟨[fam n ls, lotD hs, d, lotD f, x4], ?_⟩
      suffices hsf : ∃ d' x4' ks', (sIf (mT (fT (p2 dGt (gC (g1 dLen) (lCons (bVar 3) lNil)) (pC (.int 0))))) (sFor (iSeqM (mP (gCall [.ro, .ro] m_lessened (lCons (bVar 1) (lCons (bVar 3) lNil))))) (.nm 4) (sAsg (mP (pC (.bl true))) (gIx (fun e => slot e 2) (fun e c => e.set 2 c) (pI (bVar 4))))) sNil) [fam n ls, lotD hs, d, lotD f, x4] = some (.nx, [fam n ls, lotD hs, d', lotD f, x4']) ∧ KR vT ks' d' ∧ ∀ k, k ∈ ks' ↔ k ∈ ks ∨ k ∈ lessF 0 hs f [[]] by
        obtain ⟨d', x4', ks', e1, hk', hm'⟩ := hsf
        refine ⟨_, by simp [bindN], e1, d', _, x4', ks', rfl, hk', fun k => ?_⟩
        have ef : fc [f] = [f] := by simp [fc, z2]
        rw [hm', hm, fc_app, List.flatMap_append, List.mem_append, ef]
        simp
      simp [z2, z, g_lessened h f, ll2]
      generalize hc2 : runFor _ _ _ _ = r2
      obtain ⟨e', rfl, d', x4', ks', rfl, hk', hm'⟩ := runFor_of hc2 (fun pre2 e => ∃ d' x4' ks', e = [fam n ls, lotD hs, d', lotD f, x4'] ∧ KR vT ks' d' ∧ ∀ k, k ∈ ks' ↔ k ∈ ks ∨ (k ∈ pre2 ∧ k ∈ box hs)) ⟨d, x4, ks, rfl, hk, fun k => by simp⟩ (by
        rintro row hrow pre2 _ ⟨d', x4', ks', rfl, hk', hm'⟩
        have hb2 := less_box h.toHs.pos hrow
        have kl := nodup_len ks' (box hs) hk'.nd fun k hk => ((hm' k).mp hk).elim (fun q => inb k ((hm k).mp q)) fun q => q.2
        obtain ⟨d2, a, b, c⟩ := hk'.put (by omega) row
        refine ⟨[fam n ls, lotD hs, d', lotD f, lotD row], [fam n ls, lotD hs, d2, lotD f, lotD row], by simp [bindN], by simp [hk'.slot, a], d2, _, _, rfl, b, fun k => ?_⟩
        rw [mem_KRput, hm', List.mem_append, List.mem_singleton]
        constructor
        · rintro ((q | q) | q)
          · exact .inl q
          · exact .inr ⟨.inl q.1, q.2⟩
          · exact .inr ⟨.inr q, q ▸ hb2⟩
        · rintro (q | ⟨q | q, q2⟩)
          · exact .inl (.inl q)
          · exact .inl (.inr ⟨q, q2⟩)
          · exact .inr q)
      refine ⟨d', ⟨x4', by simp⟩, ks', hk', fun k => ?_⟩
      rw [hm']
      exact or_congr Iff.rfl ⟨fun q => q.1, fun q => ⟨q, less_box h.toHs.pos q⟩⟩)
  have e := hk.sorted
  have e2 : sortI ks = moves ls hs := pw_eq (sortI_pw _) (sortI_pw _) fun x => by rw [moves, sortI_mem, sortI_mem, hm]
  rw [e2] at e
  simp [hk.slot, e]
theorem moves_len {n : Nat} {ls : List Lot} {hs : List Int} (h : Hp n hs) : (moves ls hs).length ≤ 243 := by
  refine Nat.le_trans (nodup_len _ (box hs) (Srt.nodup (sortI_pw _)) fun t ht => ?_) h.box
  obtain ⟨f, hf, hm⟩ := mem_moves.mp ht
  exact box_mv 0 hs hs f t h.toHs.pos (box_self hs h.toHs.pos) hm
theorem Hp.move {n : Nat} {ls : List Lot} {hs t : List Int} (h : Hp n hs) (ht : t ∈ moves ls hs) (hl : ∀ l ∈ ls, okLot n l = true) : Hp n t := by
  refine ⟨(moves_spec hl h.toHs ht).1, h.n5, ?_⟩
  obtain ⟨f, hf, hm⟩ := mem_moves.mp ht
  have aux : ∀ (i : Int) (hs t : List Int), (∀ x ∈ hs, x ≤ (2 : Int)) → Mv i hs f t → ∀ x ∈ t, x ≤ (2 : Int) := by
    intro i hs
    induction hs generalizing i with
    | nil => intro t _ hm; simp only [Mv] at hm; subst hm; simp
    | cons y hs ih =>
      intro t hy hm
      simp only [Mv] at hm
      obtain ⟨x, t', rfl, hx, ht⟩ := hm
      intro z hz
      rcases List.mem_cons.mp hz with rfl | hz
      · have := hy y (List.mem_cons_self ..)
        split at hx <;> omega
      · exact ih (i + 1) t' (fun q hq => hy q (List.mem_cons_of_mem _ hq)) ht z hz
  exact aux 0 hs t h.le hm
end TL
end
section
set_option maxRecDepth 100000
namespace TL
open PySem PySem.Spec PyProof.Rows L2 TL.Bite
abbrev vH (ls : List Lot) : Lot → D := fun hs => .int (hn ls hs)
theorem q_Player_init (n : Int) (ls : List Lot) : m_Player_init [.ins true 3 [], fam n ls] = some (.non, [.ins true 3 [fam n ls, .dct true false [] []], fam n ls]) := by
  simp [m_Player_init, b_Player_init, setFd]
theorem q_Player_number {p : Nat} {ls : List Lot} (hc : Cx p ls) {B : List Lot} (hB : B.length ≤ 1000000) (hBm : ∀ hs ∈ B, ∀ t, Hp p hs → t ∈ moves ls hs → t ∈ B) (n : Nat) : ∀ (hs : List Int) (d : D), tot hs < n → Hp p hs → hs ∈ B → KB B (vH ls) d →
    ∃ d', m_Player_number n [.ins true 3 [fam p ls, d], lotD hs] = some (.int (hn ls hs), [.ins true 3 [fam p ls, d'], lotD hs]) ∧ KB B (vH ls) d' := by
  induction n with
  | zero => exact fun ls d h => absurd h (Nat.not_lt_zero _)
  | succ n ih =>
    intro hs d h hp hu hk
    have ml := moves_len (ls := ls) hp
    have hsl := hk.slot
    have l2 : (moves ls hs).length ≤ 16000000 := by omega
    rcases hk.asked hs hu hB with ⟨h1, h2⟩ | ⟨h1, h2⟩
    · exact ⟨d, by simp [m_Player_number, b_Player_number, dFld, hsl, h1, h2], hk⟩
    · simp [m_Player_number, b_Player_number, dFld, hsl, h1, g_moves hc hp, l2]
      generalize hcc : compM _ _ _ _ _ _ = r
      obtain ⟨d2, e, hk2⟩ : ∃ d2, r = some (((moves ls hs).filter fun _ => true).map fun t => .tup [.int (hn ls t), .bl true], [.ins true 3 [fam p ls, d2], lotD hs, .undef, .undef, .undef]) ∧ KB B (vH ls) d2 := by
        rw [← hcc]
        refine compM_st lotD (fun _ => true) (fun t => .tup [.int (hn ls t), .bl true]) (fun d => [.ins true 3 [fam p ls, d], lotD hs, .undef, .undef, .undef]) (KB B (vH ls)) (fun s => by simp) (moves ls hs) _ d rfl hk ?_
        intro x hx s hj
        refine ⟨[.ins true 3 [fam p ls, s], lotD hs, .undef, .undef, lotD x], by simp, fun _ => ?_, fun q => nomatch q⟩
        obtain ⟨s', e1, hj'⟩ := ih x s (by have := (moves_spec hc.toF5.ok hp.toHs hx).2; omega) (hp.move hx hc.toF5.ok) (hBm hs hu x hp hx) hj
        exact ⟨s', [.ins true 3 [fam p ls, s'], lotD hs, .undef, .undef, lotD x], by simp [hj.slot, e1], by simp, hj'⟩
      obtain ⟨d3, h3, hk3, h4⟩ := h2 d2 hk2
      obtain ⟨ks, vs, h5, h6⟩ := dict_ints true (fun t => (hn ls t : Int)) (moves ls hs) l2
      have ms := mex_spec ((moves ls hs).map fun t => hn ls t)
      rw [← hn_eq hc.toF5.ok hp.toHs] at ms
      have h7 : ∀ i : Nat, ((moves ls hs).map fun t => (hn ls t : Int)).contains (i : Int) = ((moves ls hs).map fun t => hn ls t).contains i := fun i => by
        rw [Bool.eq_iff_iff, List.contains_iff_mem, List.contains_iff_mem, List.mem_map, List.mem_map]
        exact ⟨fun ⟨a, ha, e⟩ => ⟨a, ha, by omega⟩, fun ⟨a, ha, e⟩ => ⟨a, ha, by omega⟩⟩
      have gl : hn ls hs ≤ (moves ls hs).length := by
        have := pigeon (hn ls hs) ((moves ls hs).map fun t => hn ls t) ms.2
        simpa using this
      have hw : sWhile (mT (fT (p2 dIn (bVar 3) (bVar 2)))) (sAsg (mP (p2 dAdd (bVar 3) (pC (.int 1)))) (gNm 3)) [.ins true 3 [fam p ls, d2], lotD hs, .dct true false ks vs, .int 0, .undef] = some (.nx, [.ins true 3 [fam p ls, d2], lotD hs, .dct true false ks vs, .int (hn ls hs), .undef]) := by
        have := runW_count (q := mT (fT (p2 dIn (bVar 3) (bVar 2)))) (f := sAsg (mP (p2 dAdd (bVar 3) (pC (.int 1)))) (gNm 3)) (fun j : Nat => [.ins true 3 [fam p ls, d2], lotD hs, .dct true false ks vs, .int (j : Int), .undef]) (hn ls hs) 0 fuelW (by unfold fuelW; omega)
          (fun j _ hj => by
            have m := ms.2 j (by omega)
            have m' : ((moves ls hs).map fun t => (hn ls t : Int)).contains (j : Int) = true := by rw [h7]; simpa using m
            have m2 : dIn (.int (j : Int)) (.dct true false ks vs) = some (.bl true) := by rw [h6, m']
            exact ⟨by simp [m2], by simp⟩)
          (by
            have m' : ((moves ls hs).map fun t => (hn ls t : Int)).contains (hn ls hs : Int) = false := by rw [h7]; simpa using ms.1
            have m2 : dIn (.int (hn ls hs : Int)) (.dct true false ks vs) = some (.bl false) := by rw [h6, m']
            rw [Nat.zero_add]
            simp [m2])
        rw [Nat.zero_add] at this
        exact this
      refine ⟨d3, ?_, hk3⟩
      simp [e, h5, hw, getF, putFd, h3, hk2.imm, h4, hk3.imm, dFld]
theorem tot_le : ∀ (hs : List Int), (∀ h ∈ hs, h ≤ (2 : Int)) → tot hs ≤ 2 * hs.length
  | [], _ => by simp [tot]
  | h :: hs, hh => by
    have ih := tot_le hs fun y hy => hh y (List.mem_cons_of_mem _ hy)
    have := hh h (List.mem_cons_self ..)
    simp only [tot, List.length_cons]; omega
theorem Hp.tot {n : Nat} {hs : List Int} (h : Hp n hs) : TL.Bite.tot hs ≤ 10 := by
  have := tot_le hs h.le
  have := h.toHs.len
  have := h.n5
  omega
theorem Hp.box_move {n : Nat} {ls : List Lot} {hs gs t : List Int} (h : Hp n hs) (hb : hs ∈ TL.box gs) (ht : t ∈ moves ls hs) : t ∈ TL.box gs := by
  obtain ⟨f, hf, hm⟩ := mem_moves.mp ht
  exact box_mv 0 hs gs f t h.toHs.pos hb hm
theorem q_Player {p : Nat} {ls : List Lot} (hc : Cx p ls) {hs : List Int} (h : Hp p hs) : ∃ d', m_Player_number 60 [.ins true 3 [fam p ls, .dct true false [] []], lotD hs] = some (.int (hn ls hs), [.ins true 3 [fam p ls, d'], lotD hs]) := by
  have hb := h.box
  have ht := h.tot
  obtain ⟨d', e, _⟩ := q_Player_number hc (B := TL.box hs) (by omega) (fun gs hg t hp ht => hp.box_move hg ht) 60 hs (.dct true false [] []) (by omega) h (box_self hs h.toHs.pos) (KB.empty _ _)
  exact ⟨d', e⟩
theorem g_heap_number {p : Nat} {ls : List Lot} (hc : Cx p ls) {hs : List Int} (h : Hp p hs) : gPure [.ro, .ro] m_heap_number [fam p ls, lotD hs] = some (.int (hn ls hs)) := by
  obtain ⟨d', e⟩ := q_Player hc h
  exact gPure_of (ds' := [fam p ls, lotD hs]) (by simp [m_heap_number, b_heap_number, g_check_heaps hc h, q_Player_init, e])
theorem g_lost {p : Nat} {ls : List Lot} (hc : Cx p ls) {hs : List Int} (h : Hp p hs) : gPure [.ro, .ro] m_lost [fam p ls, lotD hs] = some (.bl (decide ((hn ls hs : Int) = 0))) := by
  obtain ⟨d', e⟩ := q_Player hc h
  refine gPure_of (ds' := [fam p ls, lotD hs]) ?_
  simp only [m_lost, b_lost, e_runF]
  simp [g_check_heaps hc h, q_Player_init, e]
end TL
end
section
set_option maxRecDepth 100000
namespace TL
open PySem PySem.Spec PyProof.Rows L2 TL.Bite
theorem step {f g : EvS} {e e1 : List D} {P : List D → Prop} (h : f e = some (.nx, e1)) (k : ∃ e2, g e1 = some (.nx, e2) ∧ P e2) : ∃ e2, sSeq f g e = some (.nx, e2) ∧ P e2 := by
  obtain ⟨e2, h1, h2⟩ := k
  exact ⟨e2, by rw [e_sSeq, h, bindS_nx, h1], h2⟩
theorem stepE {α : Type} {f g : EvS} {e : List D} {P : List D → Prop} (E : α → List D) (R : α → Prop) (h : ∃ a, f e = some (.nx, E a) ∧ R a) (k : ∀ a, R a → ∃ e2, g (E a) = some (.nx, e2) ∧ P e2) : ∃ e2, sSeq f g e = some (.nx, e2) ∧ P e2 := by
  obtain ⟨a, h1, h2⟩ := h
  exact step h1 (k a h2)
theorem gq {md : List Md} {f : Fn} {ds : List D} {d : D} (h : gPure md f ds = some d) : ∃ ds', f ds = some (d, ds') := by
  unfold gPure at h
  split at h
  · split at h
    · rename_i d' ds' e
      cases h
      exact ⟨ds', e⟩
    · cases h
  · cases h
@[simp] theorem give1 {h : EvM} {ds e : List D} : giveB [.m h] ds e = e := by
  cases ds with
  | nil => rfl
  | cons d ds => simp
@[simp] theorem give2 {h h' : EvM} {ds e : List D} : giveB [.m h, .m h'] ds e = e := by
  cases ds with
  | nil => rfl
  | cons d ds => simp
theorem g_Family_eq (n m : Int) (a b : List Lot) : gPure [.ro, .ro] m_Family_eq [fam n a, fam m b] = some (.bl (decide (n = m) && decide (a = b))) := by
  refine gPure_of (ds' := [fam n a, fam m b]) ?_
  simp [m_Family_eq, b_Family_eq, dIsF, dEq]
@[simp] theorem neF (n m : Int) (a b : List Lot) : dNeF m_Family_eq (.fam n (a.map lotD)) (.fam m (b.map lotD)) = some (.bl (!(decide (n = m) && decide (a = b)))) := by
  have := g_Family_eq n m a b
  simp only [dNeF]
  rw [this]
theorem t1 : gPure [.ro] m_bite_number [fam ((1 : Nat) : Int) (L 1)] = some (.int 1) := by
  rw [g_bite_number (L_cx (by decide) (by decide)) (by decide +kernel)]
  have : g (L 1) = 1 := by decide +kernel
  rw [this]; rfl
def two : List Lot := [[], [0], [1]]
theorem two_cx : Cx 2 two := ⟨⟨by decide, by decide, by decide +kernel, by decide +kernel⟩, by decide, by decide +kernel⟩
theorem two_first : gPure [.ro] m_first_bites_last [fam ((2 : Nat) : Int) two] = some (.bl false) := by
  rw [g_first two_cx (by decide)]
  have : g two = 0 := by decide +kernel
  rw [this]; rfl
theorem ne_good (ls : List Lot) : dNe (goodD ls) (goodD ls) = some (.bl false) := by
  unfold goodD
  cases goods ls with
  | nil => simp [dNe, eqD]
  | cons l k => simp
theorem add_lots {a b : List Lot} (h : a.length + b.length ≤ 16000000) : dAdd (.tup (a.map lotD)) (.tup (b.map lotD)) = some (.tup ((a ++ b).map lotD)) := by
  have : lim (a.length + b.length) = true := lim_of h
  unfold dAdd
  simp only [immL_lots, List.length_map, this, Bool.and_self, if_true, List.map_append]
theorem add_lotsL {m m' : Bool} {a b : List Lot} (h : a.length + b.length ≤ 16000000) : dAdd (.lst m (a.map lotD)) (.lst m' (b.map lotD)) = some (.lst true ((a ++ b).map lotD)) := by
  have : lim (a.length + b.length) = true := lim_of h
  unfold dAdd
  simp only [immL_lots, List.length_map, this, Bool.and_self, if_true, List.map_append]
theorem add_lot {a b : Lot} (h : a.length + b.length ≤ 16000000) : dAdd (lotD a) (lotD b) = some (lotD (a ++ b)) := by
  have : lim (a.length + b.length) = true := lim_of h
  unfold lotD dAdd
  simp only [imm_ints, List.length_map, this, Bool.and_self, if_true, List.map_append]
theorem at1 (a b c : D) : atI [a, b, c] (1 : Int) = some b := rfl
theorem at2 (a b c : D) : atI [a, b, c] (2 : Int) = some c := rfl
@[simp] theorem is_bl (a b : Bool) : dIs (.bl a) (.bl b) = some (.bl (decide (a = b))) := Eq.trans rfl rfl
@[simp] theorem isnot_bl (a b : Bool) : dIsNot (.bl a) (.bl b) = some (.bl (!decide (a = b))) := Eq.trans rfl rfl
theorem fc_ne (ls : List Lot) : (ls.filter fun l => !decide (l = [])) = fc ls := List.filter_congr fun l _ => by
  cases l <;> simp
/-- a drawn complex: what lies below a drawn family and one lot more -/
theorem drawn {n : Nat} (h1 : 1 ≤ n) (h3 : n ≤ 3) {d : D} (h : HandOk d) (k : Lot) (hk : okLot n k = true) : ∃ (fs F : List Lot) (d' : D), m_law_family [d, .int (n : Nat)] = some (.tup (fs.map lotD), [d', .int (n : Nat)]) ∧ HandOk d' ∧ dAdd (.tup (fs.map lotD)) (.tup ([k].map lotD)) = some (.tup (F.map lotD)) ∧ dSortSet3 (.tup (F.map lotD)) = some (.lst true ((sortI F).map lotD)) ∧ F5 n (sortI F) ∧ Cx n (low n (sortI F)) ∧ k ∈ low n (sortI F) ∧ (sortI F).length ≤ 16000000 := by
  obtain ⟨fs, d', e, hf, hd⟩ := q_law_family h1 h3 h
  have hl := hf.len
  have ok : ∀ l ∈ fs ++ [k], okLot n l = true := fun l hl => by
    rcases List.mem_append.mp hl with q | q
    · exact hf.ok l q
    · rw [List.mem_singleton] at q; exact q ▸ hk
  have f5 := F5.sort h1 (show n ≤ 5 by omega) ok
  have fl := f5.len
  have hm : k ∈ sortI (fs ++ [k]) := sortI_mem.mpr (by simp)
  have h5 : n ≤ 5 := by omega
  exact ⟨fs, fs ++ [k], d', e, hd, add_lots (by simp; omega), by rw [sortset3_lots, if_pos (by omega)], f5, Cx.ofLow h1 h5 (List.ne_nil_of_mem hm), (mem_low h5).mpr ⟨hk, k, hm, ins_self k⟩, by omega⟩
theorem q_lower {n : Nat} (h1 : 1 ≤ n) (h5 : n ≤ 5) {ls : List Lot} (hl : ls.length ≤ 16000000) : ∃ ds', m_lower [fam n ls] = some (fam n (low n ls), ds') := gq (g_lower h1 h5 hl)

theorem law_ok (ns : List Int) (h : ns.length ≤ 63) : ∃ ds', m_law [.scr ns] = some (.bl true, ds') := by
  obtain ⟨h0, eh, hh⟩ := g_law_hand h
  have a1 := mk_fam (L_cx (n := 1) (by decide) (by decide)).toF5.fam
  have a2 := t1
  have a3 := mk_fam two_cx.toF5.fam
  have a4 := two_first
  have eL : L 1 = [[], [0]] := by decide +kernel
  rw [eL] at a1 a2
  simp [two] at a1 a2 a3 a4
  have b1 : D.tup [] = lotD [] := rfl
  have b2 : D.tup [.int 0] = lotD [0] := rfl
  have b3 : D.tup [.int 1] = lotD [1] := rfl
  simp only [fam, List.map_cons, List.map_nil] at a2 a4
  simp [m_law, b_law, eh, hh.slot, b1, b2, b3, a1, a2, a3, a4]
  generalize hc : runFor _ _ _ _ = r
  obtain ⟨e', rfl, hd, kd, x3, x4, x5, x6, x7, x8, x9, x10, x11, x12, x13, x14, x15, rfl, hh, hk⟩ := runFor_of hc (fun _ e => ∃ hd kd x3 x4 x5 x6 x7 x8 x9 x10 x11 x12 x13 x14 x15, e = [.scr ns, hd, kd, x3, x4, x5, x6, x7, x8, x9, x10, x11, x12, x13, x14, x15, .undef, .undef] ∧ HandOk hd ∧ KeptL (L 3) vG kd)
    ⟨h0, _, _, _, _, _, _, _, _, _, _, _, _, _, _, rfl, hh, KeptL.empty _ _⟩ (by
    rintro x hx pre _ ⟨hd, kd, x3, x4, x5, x6, x7, x8, x9, x10, x11, x12, x13, x14, x15, rfl, hh, hk⟩
    refine ⟨[.scr ns, hd, kd, .int x, x4, x5, x6, x7, x8, x9, x10, x11, x12, x13, x14, x15, .undef, .undef], ?_⟩
    suffices hs : ∀ f : EvS, (∃ e2, f [.scr ns, hd, kd, .int x, x4, x5, x6, x7, x8, x9, x10, x11, x12, x13, x14, x15, .undef, .undef] = some (.nx, e2) ∧ ∃ hd kd x3 x4 x5 x6 x7 x8 x9 x10 x11 x12 x13 x14 x15, e2 = [.scr ns, hd, kd, x3, x4, x5, x6, x7, x8, x9, x10, x11, x12, x13, x14, x15, .undef, .undef] ∧ HandOk hd ∧ KeptL (L 3) vG kd) →
        ∃ e2, bindN (.nm 3) (.int x) [.scr ns, hd, kd, x3, x4, x5, x6, x7, x8, x9, x10, x11, x12, x13, x14, x15, .undef, .undef] = some [.scr ns, hd, kd, .int x, x4, x5, x6, x7, x8, x9, x10, x11, x12, x13, x14, x15, .undef, .undef] ∧ f [.scr ns, hd, kd, .int x, x4, x5, x6, x7, x8, x9, x10, x11, x12, x13, x14, x15, .undef, .undef] = some (.nx, e2) ∧ ∃ hd kd x3 x4 x5 x6 x7 x8 x9 x10 x11 x12 x13 x14 x15, e2 = [.scr ns, hd, kd, x3, x4, x5, x6, x7, x8, x9, x10, x11, x12, x13, x14, x15, .undef, .undef] ∧ HandOk hd ∧ KeptL (L 3) vG kd by
      refine hs _ ?_
      -- the points
      refine stepE (fun a : Nat × Nat × D => [.scr ns, a.2.2, kd, .int x, .int (a.1 : Nat), .int (a.2.1 : Nat), x6, x7, x8, x9, x10, x11, x12, x13, x14, x15, .undef, .undef]) (fun a => HandOk a.2.2 ∧ 1 ≤ a.1 ∧ a.1 ≤ 3 ∧ 1 ≤ a.2.1 ∧ a.2.1 ≤ 2) ?_ ?_
      · obtain ⟨k, hd1, e1, hh1, k1, k2⟩ := q_law_draw (s := 3) hh (by omega) (by omega)
        obtain ⟨j, hd2, e2, hh2, j1, j2⟩ := q_law_draw (s := 2) hh1 (by omega) (by omega)
        refine ⟨((1 + k).toNat, (1 + j).toNat, hd2), ?_, hh2, by simp only; omega, by simp only; omega, by simp only; omega, by simp only; omega⟩
        have m1 : max (1 + k) 0 = 1 + k := by omega
        have m2 : max (1 + j) 0 = 1 + j := by omega
        simp [hh.slot, hh1.slot, e1, e2, m1, m2]
      rintro ⟨n, m, hd1⟩ ⟨hh1, n1, n3, m1, m2⟩
      simp only at hh1 n1 n3 m1 m2 ⊢
      -- one complex
      have k0 : okLot n [0] = true := by rw [okLot_iff]; simp; omega
      obtain ⟨fs, F, hd2, e1, hh2, e2, e3, f5, cx, mem0, fl⟩ := drawn n1 n3 hh1 [0] k0
      obtain ⟨ds1, e4⟩ := q_lower n1 (show n ≤ 5 by omega) fl
      generalize hA : low n (sortI F) = A at cx mem0 e4
      have e5 := mk_fam f5.fam
      have e2' : dAdd (.tup (fs.map lotD)) (.tup [.tup [.int 0]]) = some (.tup (F.map lotD)) := e2
      refine step (e1 := [.scr ns, hd2, kd, .int x, .int n, .int m, fam n A, x7, x8, x9, x10, x11, x12, x13, x14, x15, .undef, .undef]) (by
        simp [hh1.slot, e1, e2', e3, e5]
        simp [fam] at e4
        simp [e4]) ?_
      -- another
      have k1 : okLot m [] = true := by rw [okLot_iff]; simp
      obtain ⟨fs', F', hd3, e1', hh3, e2b, e3', f5', cx', mem0', fl'⟩ := drawn m1 (show m ≤ 3 by omega) hh2 [] k1
      obtain ⟨ds2, e4'⟩ := q_lower m1 (show m ≤ 5 by omega) fl'
      generalize hB : low m (sortI F') = B at cx' mem0' e4'
      have e5' := mk_fam f5'.fam
      have e2b' : dAdd (.tup (fs'.map lotD)) (.tup [.tup []]) = some (.tup (F'.map lotD)) := e2b
      refine step (e1 := [.scr ns, hd3, kd, .int x, .int n, .int m, fam n A, fam m B, x8, x9, x10, x11, x12, x13, x14, x15, .undef, .undef]) (by
        simp [hh2.slot, e1', e2b', e3', e5']
        simp [fam] at e4'
        simp [e4']) ?_
      clear e1 e2 e2' e3 e4 e5 e1' e2b e2b' e3' e4' e5' hA hB
      have al : A.length ≤ 8 := by
        have := cx.toF5.len2
        have := Nat.pow_le_pow_right (n := 2) (by omega) n3
        omega
      have bl : B.length ≤ 4 := by
        have := cx'.toF5.len2
        have := Nat.pow_le_pow_right (n := 2) (by omega) m2
        omega
      have al2 : A.length ≤ 16000000 := by omega
      have bl2 : B.length ≤ 16000000 := by omega
      have fcl : (fc A).length ≤ A.length := List.length_filter_le _ _
      have fcl2 : (fc A).length ≤ 16000000 := by omega
      have L3 : (L 3).length ≤ 20 := by decide +kernel
      have sA := cx.toF5.sub n3 (show 3 ≤ 5 by omega)
      have sB := cx'.toF5.sub (show m ≤ 3 by omega) (show 3 ≤ 5 by omega)
      -- its number
      obtain ⟨kd2, n1e, hk2⟩ := q_law_number (U := L 3) L3 60 A kd (by omega) cx.toF5 sA hk
      refine step (e1 := [.scr ns, hd3, kd2, .int x, .int n, .int m, fam n A, fam m B, .int (g A), x9, x10, x11, x12, x13, x14, x15, .undef, .undef]) (by simp [hk.slot, n1e]) ?_
      -- who wins
      refine step (e1 := [.scr ns, hd3, kd2, .int x, .int n, .int m, fam n A, fam m B, .int (g A), x9, x10, x11, x12, x13, x14, x15, .undef, .undef]) (by
        have w := g_first cx (by omega)
        simp [g_bite_number cx (by omega), w, g_law_is]) ?_
      -- the good bites
      refine stepE (fun kd : D => [.scr ns, hd3, kd, .int x, .int n, .int m, fam n A, fam m B, .int (g A), .lst true ((goods A).map lotD), .undef, x11, x12, x13, x14, x15, .undef, .undef]) (KeptL (L 3) vG) (by
        simp [al2]
        generalize hc2 : compM _ _ _ _ _ _ = r2
        obtain ⟨s', rfl, hj⟩ := compM_of hc2 (fun l => !decide (l = []) && decide (g (bh A l) = 0)) lotD (fun kd => [.scr ns, hd3, kd, .int x, .int n, .int m, fam n A, fam m B, .int (g A), x9, .undef, x11, x12, x13, x14, x15, .undef, .undef]) (KeptL (L 3) vG) (fun s => by simp) kd2 (by simp) hk2 (by
          intro y hy s hs
          by_cases q : y = []
          · exact ⟨[.scr ns, hd3, s, .int x, .int n, .int m, fam n A, fam m B, .int (g A), x9, lotD y, x11, x12, x13, x14, x15, .undef, .undef], by simp [q], fun z => by simp [q] at z, fun _ => ⟨s, by simp, hs⟩⟩
          · obtain ⟨s', e5, hs'⟩ := q_law_number (U := L 3) L3 60 (bh A y) s (by have := bh_lt hy; omega) (Bite.bh_F5 cx.toF5 y) (bh_sub'.trans sA) hs
            refine ⟨[.scr ns, hd3, s', .int x, .int n, .int m, fam n A, fam m B, .int (g A), x9, lotD y, x11, x12, x13, x14, x15, .undef, .undef], by simp [q, hs.slot, g_without_star cx hy, e5], fun _ => ⟨s', [.scr ns, hd3, s', .int x, .int n, .int m, fam n A, fam m B, .int (g A), x9, lotD y, x11, x12, x13, x14, x15, .undef, .undef], by simp, by simp, hs'⟩, fun _ => ⟨s', by simp, hs'⟩⟩)
        refine ⟨s', ?_, hj⟩
        have e : (A.filter fun l => !decide (l = []) && decide (g (bh A l) = 0)) = goods A := by
          unfold goods
          rw [← fc_ne, List.filter_filter]
          exact List.filter_congr fun l _ => Bool.and_comm _ _
        rw [e]
        simp) ?_
      intro kd3 hk3
      refine step (e1 := [.scr ns, hd3, kd3, .int x, .int n, .int m, fam n A, fam m B, .int (g A), .lst true ((goods A).map lotD), .undef, x11, x12, x13, x14, x15, .undef, .undef]) (by
        have e6 : (pIf (fT (p2 dGt (gC (g1 dLen) (lCons (bVar 9) lNil)) (pC (.int 0)))) (pI (p2 dIx (bVar 9) (pC (.int 0)))) (pC .non)) [.scr ns, hd3, kd3, .int x, .int n, .int m, fam n A, fam m B, .int (g A), .lst true ((goods A).map lotD), .undef, x11, x12, x13, x14, x15, .undef, .undef] = some (goodD A) := by
          unfold goodD
          cases goods A <;> simp
        rw [e_sIf, e_mT, e_fT, e_p2, e6]
        simp [g_good cx (by omega), ne_good]) ?_
      -- the bites
      refine step (e1 := [.scr ns, hd3, kd3, .int x, .int n, .int m, fam n A, fam m B, .int (g A), .lst true ((goods A).map lotD), .undef, x11, x12, x13, x14, x15, .undef, .undef]) (by
        simp [g_bites cx, al2, fc_ne]) ?_
      have fc1 : 1 ≤ (fc A).length := List.length_pos_of_mem (mem_fc.mpr ⟨mem0, by simp⟩)
      obtain ⟨y, hy, hd4, ea, hh4⟩ := q_law_any (m := true) (xs := fc A) hh3 fc1 (by omega)
      have hy' := mem_fc.mp hy
      refine step (e1 := [.scr ns, hd4, kd3, .int x, .int n, .int m, fam n A, fam m B, .int (g A), .lst true ((goods A).map lotD), lotD y, x11, x12, x13, x14, x15, .undef, .undef]) (by simp [hh3.slot, g_bites cx, fcl2, ea]) ?_
      refine step (e1 := [.scr ns, hd4, kd3, .int x, .int n, .int m, fam n A, fam m B, .int (g A), .lst true ((goods A).map lotD), lotD y, x11, x12, x13, x14, x15, .undef, .undef]) (by simp [g_bitten cx hy'.1 hy'.2, g_without_star cx hy'.1]) ?_
      -- both
      refine step (e1 := [.scr ns, hd4, kd3, .int x, .int n, .int m, fam n A, fam m B, .int (g A), .lst true ((goods A).map lotD), lotD y, .lst true ((B.map (mv n)).map lotD), x12, x13, x14, x15, .undef, .undef]) (by
        simp [bl2]
        rw [fmO_eq (fun _ => true) (fun l => lotD (mv n l))]
        · simp
        · intro l hl
          have := cx'.toF5.small hl
          have hl3 : List.length l ≤ 16000000 := by omega
          simp [hl3, mv, lotD]) ?_
      have bcx := both_cx cx cx' (show n + m ≤ 5 by omega)
      have bcl := bothL_len (n := n) (A := A) (B := B)
      have bg := g_both cx cx'
      have ec : ((n + m : Nat) : Int) = (n : Int) + m := by omega
      refine step (e1 := [.scr ns, hd4, kd3, .int x, .int n, .int m, fam n A, fam m B, .int (g A), .lst true ((goods A).map lotD), lotD y, .lst true ((B.map (mv n)).map lotD), fam ((n : Int) + m) (bothL n A B), x13, x14, x15, .undef, .undef]) (by
        have mf := mk_fam bcx.toF5.fam
        rw [ec] at mf
        have a1 := add_lotsL (m := true) (m' := true) (a := A) (b := B.map (mv n)) (by simp; omega)
        have a2 : dSortSet3 (.lst true ((A ++ B.map (mv n)).map lotD)) = some (.lst true ((bothL n A B).map lotD)) := by
          rw [sortset3_lotsL, if_pos (by show (bothL n A B).length < 63; omega)]; rfl
        simp only [e_sAsg, e_mP, e_pFam, e_gMake, e_lCons, e_lNil, e_p2, e_p1, e_gC, e_g1, e_bVar, slot_s, slot_int, slot_tup, slot_lst, slot_fam, lots_fam, fam, bnd_some, add_int, list_tup, immL_lots, cif_t, a1, a2, tuple_lst, pure_ro, pure_nil, mf, mkO_ins, toFam_mk, e_gNm]
        simp) ?_
      -- its number
      have gA := cx.toF5.len
      have gle : ∀ ls : List Lot, g ls ≤ (fc ls).length := fun ls => by
        have ms := mex_spec ((fc ls).map fun l => g (bh ls l))
        rw [← g_eq ls] at ms
        have := pigeon (g ls) ((fc ls).map fun l => g (bh ls l)) ms.2
        simpa using this
      have gA1 := gle A
      have gB1 := gle B
      have fcB : (fc B).length ≤ B.length := List.length_filter_le _ _
      have e11 := g_bite_number bcx (by omega)
      rw [ec, bg] at e11
      obtain ⟨kd4, e14, hk4⟩ := q_law_number (U := L 3) L3 60 B kd3 (by omega) cx'.toF5 sB hk3
      obtain ⟨ds3, e15⟩ := q_law_carry (g A) (g B) (by omega)
      refine step (e1 := [.scr ns, hd4, kd4, .int x, .int n, .int m, fam n A, fam m B, .int (g A), .lst true ((goods A).map lotD), lotD y, .lst true ((B.map (mv n)).map lotD), fam ((n : Int) + m) (bothL n A B), x13, x14, x15, .undef, .undef]) (by simp [e11, hk3.slot, e14, e15]) ?_
      -- heaps
      refine stepE (fun a : D × List Int => [.scr ns, a.1, kd4, .int x, .int n, .int m, fam n A, fam m B, .int (g A), .lst true ((goods A).map lotD), lotD y, .lst true ((B.map (mv n)).map lotD), fam ((n : Int) + m) (bothL n A B), lotD a.2, x14, x15, .undef, .undef]) (fun a => HandOk a.1 ∧ Hp n a.2) (by
        have r1 : rngOk (n : Int) = true := rngOk_of (by omega) (by omega)
        have r2 : n ≤ 16000000 := by omega
        simp [-Prod.exists, r1, r2]
        generalize hc2 : compM _ _ _ _ _ _ = r2'
        obtain ⟨ys, s', rfl, hj, hy2, hyl⟩ := compM_ofE hc2 D.int (fun y : Int => 0 ≤ y ∧ y < 3) (fun s : D => [.scr ns, s, kd4, .int x, .int n, .int m, fam n A, fam m B, .int (g A), .lst true ((goods A).map lotD), lotD y, .lst true ((B.map (mv n)).map lotD), fam ((n : Int) + m) (bothL n A B), x13, x14, x15, .undef, .undef]) HandOk (fun s => by simp) hd4 (by simp) hh4 (by
          intro w hw s hs
          obtain ⟨j, s', e2, hs', j1, j2⟩ := q_law_draw (s := 3) hs (by omega) (by omega)
          exact ⟨j, s', [.scr ns, s', kd4, .int x, .int n, .int m, fam n A, fam m B, .int (g A), .lst true ((goods A).map lotD), lotD y, .lst true ((B.map (mv n)).map lotD), fam ((n : Int) + m) (bothL n A B), x13, x14, x15, .undef, .int w], by simp [hs.slot, e2], ⟨j1, j2⟩, by simp, hs'⟩)
        rw [upto_len] at hyl
        have yl : ys.length ≤ 16000000 := by omega
        exact ⟨(s', ys), by simp [yl, lotD], hj, ⟨⟨by omega, fun h hh => (hy2 h hh).1⟩, by omega, fun h hh => by have := (hy2 h hh).2; omega⟩⟩) ?_
      rintro ⟨hd5, o1⟩ ⟨hh5, po1⟩
      simp only at hh5 po1 ⊢
      refine stepE (fun a : D × List Int => [.scr ns, a.1, kd4, .int x, .int n, .int m, fam n A, fam m B, .int (g A), .lst true ((goods A).map lotD), lotD y, .lst true ((B.map (mv n)).map lotD), fam ((n : Int) + m) (bothL n A B), lotD o1, lotD a.2, x15, .undef, .undef]) (fun a => HandOk a.1 ∧ Hp m a.2) (by
        have r1 : rngOk (m : Int) = true := rngOk_of (by omega) (by omega)
        have r2 : m ≤ 16000000 := by omega
        simp [-Prod.exists, r1, r2]
        generalize hc2 : compM _ _ _ _ _ _ = r2'
        obtain ⟨ys, s', rfl, hj, hy2, hyl⟩ := compM_ofE hc2 D.int (fun y : Int => 0 ≤ y ∧ y < 3) (fun s : D => [.scr ns, s, kd4, .int x, .int n, .int m, fam n A, fam m B, .int (g A), .lst true ((goods A).map lotD), lotD y, .lst true ((B.map (mv n)).map lotD), fam ((n : Int) + m) (bothL n A B), lotD o1, x14, x15, .undef, .undef]) HandOk (fun s => by simp) hd5 (by simp) hh5 (by
          intro w hw s hs
          obtain ⟨j, s', e2, hs', j1, j2⟩ := q_law_draw (s := 3) hs (by omega) (by omega)
          exact ⟨j, s', [.scr ns, s', kd4, .int x, .int n, .int m, fam n A, fam m B, .int (g A), .lst true ((goods A).map lotD), lotD y, .lst true ((B.map (mv n)).map lotD), fam ((n : Int) + m) (bothL n A B), lotD o1, x14, x15, .undef, .int w], by simp [hs.slot, e2], ⟨j1, j2⟩, by simp, hs'⟩)
        rw [upto_len] at hyl
        have yl : ys.length ≤ 16000000 := by omega
        exact ⟨(s', ys), by simp [yl, lotD], hj, ⟨⟨by omega, fun h hh => (hy2 h hh).1⟩, by omega, fun h hh => by have := (hy2 h hh).2; omega⟩⟩) ?_
      rintro ⟨hd6, o2⟩ ⟨hh6, po2⟩
      simp only at hh6 po2 ⊢
      have q1 := g_heap_number cx po1
      have q2 := g_heap_number cx' po2
      have po3 : Hp (n + m) (o1 ++ o2) := ⟨Hs_app po1.toHs po2.toHs, by omega, fun h hh => (List.mem_append.mp hh).elim (po1.le h) (po2.le h)⟩
      have q3 := g_heap_number bcx po3
      rw [ec, hn_both cx cx' (by omega) _ o1 o2 (Nat.le_refl _) po1.toHs po2.toHs] at q3
      have t1 := hn_le cx.toF5.ok _ o1 (Nat.le_refl _) po1.toHs
      have t2 := hn_le cx'.toF5.ok _ o2 (Nat.le_refl _) po2.toHs
      have t3 := po1.tot
      have t4 := po2.tot
      have q4 := g_law_carry (hn A o1) (hn B o2) (by omega)
      have l1 := po1.toHs.len
      have l2 := po2.toHs.len
      have q5 := add_lot (a := o1) (b := o2) (by omega)
      have q6 := g_lost cx po1
      refine step (e1 := [.scr ns, hd6, kd4, .int x, .int n, .int m, fam n A, fam m B, .int (g A), .lst true ((goods A).map lotD), lotD y, .lst true ((B.map (mv n)).map lotD), fam ((n : Int) + m) (bothL n A B), lotD o1, lotD o2, .lst true [.int (hn A o1), .int (hn B o2), .int ((hn A o1 ^^^ hn B o2 : Nat) : Int)], .undef, .undef]) (by simp [q1, q2, q5, q3]) ?_
      exact ⟨[.scr ns, hd6, kd4, .int x, .int n, .int m, fam n A, fam m B, .int (g A), .lst true ((goods A).map lotD), lotD y, .lst true ((B.map (mv n)).map lotD), fam ((n : Int) + m) (bothL n A B), lotD o1, lotD o2, .lst true [.int (hn A o1), .int (hn B o2), .int ((hn A o1 ^^^ hn B o2 : Nat) : Int)], .undef, .undef], by simp [at1, at2, q4, q6, g_law_is], hd6, kd4, _, _, _, _, _, _, _, _, _, _, _, _, _, rfl, hh6, hk4⟩
    intro f ⟨e2, h1, h2⟩
    exact ⟨e2, by simp [bindN], h1, h2⟩)
  obtain ⟨j, hd', e1, hh', j1, j2⟩ := q_law_draw (s := 3) hh (by omega) (by omega)
  obtain ⟨k, hk'⟩ : ∃ k : Nat, (k : Int) = 1 + j := ⟨(1 + j).toNat, by omega⟩
  have k1 : 1 ≤ k := by omega
  have k5 : k ≤ 5 := by omega
  obtain ⟨ds1, e2⟩ := gq (g_all_of k1 k5)
  have lc := L_cx k1 k5
  have ll := lc.toF5.len2
  have lp := Nat.pow_le_pow_right (n := 2) (by omega) (show k ≤ 3 by omega)
  obtain ⟨ds2, e3⟩ := gq (g_first lc (by omega))
  have e4 : decide (g (L k) ≠ 0) = true := decide_eq_true (g_L k1 k5)
  rw [e4] at e3
  simp [hh.slot, e1, ← hk', e2, e3]
end TL
end
section
set_option maxRecDepth 100000
set_option maxHeartbeats 0
namespace TL
open PySem PySem.Spec PyProof.Rows L2
def loose0 : List Str := ["LotError", "BadFamily", "NoCount", "TooMany", "NoComplex", "NoFace", "NoHeaps", "Empty", "is_integer", "is_within", "is_tuple", "is_lot", "MOST_POINTS", "is_count", "check_count", "is_lot_of", "are_lots", "Family", "made", "lot_of", "lots_of", "is_inside", "without_one", "all_of", "lower_lots", "lower", "is_lower", "check_complex", "check_face", "without_star"]
def loose1 : List Str := ["MOST_BITTEN", "faces_to_bite", "behind", "bites", "bitten", "Biter", "Winner", "check_few", "first_bites_last", "good_bite", "bite_number", "GREATEST_HEAP", "MOST_POSITIONS", "positions_below", "are_heaps", "check_heaps", "lessened", "moves_of", "Player", "heap_number", "lost", "_law_hand", "_law_draw", "_law_any", "_law_is", "_law_lots", "_law_in", "_law_family", "_law_number", "_law_carry"]
def loose : List Str := loose0 ++ loose1
abbrev R : PySem.W.OpenRow := PySem.W.OpenLaw.row PySem.Challenge.rw_familyworks_k99_whole_bites_heaps_and_su
abbrev hk : PySem.W.Hook := hookX 5 dfa dfn dex
def ob (s : PySem.W.SharedT) : AlX := obsXG 5 dfa dfn dex (HandSHeadRun.getT s)
theorem ob_eq (s : PySem.W.SharedT) : ob s = hk.obs s.abs := obsXG_eq (HandSHeadRun.getT_eq s)
theorem run (w : PySem.World) : HandSHeadRun.RunEq R (PySem.W.view R.prog [68]) hk ob 8000 loose w := by
  intro os
  kernel_rfl
end TL
open PySem PySem.W PySem.Calls PyProof.Rows
theorem law_of (hm : ∀ ns : List Int, ns.length ≤ 63 → ∃ ds', TL.m_law [.scr ns] = some (.bl true, ds')) : PySem.Challenge.rw_familyworks_k99_whole_bites_heaps_and_su.Holds := by
  w_on; o_law
  refine HandSHeadRun.head_any (r := OpenLaw.row PySem.Challenge.rw_familyworks_k99_whole_bites_heaps_and_su) (q := view (OpenLaw.row PySem.Challenge.rw_familyworks_k99_whole_bites_heaps_and_su).prog [68]) (H := TL.hk) (ob := TL.ob) (M := 8000) (loose := TL.loose) (d := HandSHeadRun.topDef (OpenLaw.row PySem.Challenge.rw_familyworks_k99_whole_bites_heaps_and_su).prog 68) (kwd := []) TL.ob_eq
    (by kernel_rfl) (fun s => by kernel_rfl) TL.run (by kernel_rfl) (by kernel_rfl) (by kernel_rfl) (by rfl) (by first | assumption | decide +kernel) (by decide +kernel) ⟨rfl, rfl, rfl, rfl, rfl, by decide +kernel⟩ ?hw ?hc
  case hw => w_witness2
  case hc =>
    refine L2.walk_ofE (l := PySem.Challenge.rw_familyworks_k99_whole_bites_heaps_and_su) (n := 63) (k := 70) (x := "script") (CX := L2.CX0) rfl (by decide) (by kernel_rfl) ⟨rfl, by decide, by decide⟩ ?F (fun _ _ _ _ z => z)
    intro w mg fa h Y G hmg0
    obtain ⟨K, KX, c⟩ := Y
    have hmg : mg ("law" : PySem.Str) = some (.ref fa) := by
      have e : (HandSHeadRun.topDef (OpenLaw.row PySem.Challenge.rw_familyworks_k99_whole_bites_heaps_and_su).prog 68).name = ("law" : PySem.Str) := by kernel_rfl
      rw [← e]
      exact hmg0
    obtain ⟨fd, hb, hF⟩ := TL.facts (P := (PySem.Challenge.rw_familyworks_k99_whole_bites_heaps_and_su).prog) (w := w) KX G hmg c
    exact ⟨K, fd, TL.spL K, KX, hb, fun H a ns hl hO hS => ⟨a, ns, rfl, hl, hO, hS, fun _ => rfl⟩, fun base k1 k2 => TL.fnOk_law (G := TL.gen (PySem.Challenge.rw_familyworks_k99_whole_bites_heaps_and_su).prog w K) (hF base k1 k2) hm⟩
end
theorem PySem.Challenge.cw_familyworks_k99_whole_bites_heaps_and_su_holds : PySem.Challenge.rw_familyworks_k99_whole_bites_heaps_and_su.Holds :=
  law_of TL.law_ok
